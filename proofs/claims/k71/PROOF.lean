import PyProof.Rows.All
import Wide.All
import OpenK.AllK
import Wide.FinOn
import HandS.ForMost
import HandS.Exc
import HandS.ExcOwn
import HandS.WordsExc
import HandS.Flow
import HandS.FStr
import HandS.SortInts
import HandS.TupAny
import HandS.IsInst
import HandS.TupMul
import HandS.RaiseMore
import HandS.More
import PyProof.ReprRoads
import HandS.Ends
import HandS.Dict
import HandS.Small
import HandS.Conv
import HandS.DictComp
import HandS.ListItems
import HandS.DictTup
import HandS.WordsDict
import HandS.SortRule
import PySem.Challenge.RW_maskedlist_k71_residues_and_assignments
set_option Elab.async false
set_option linter.all false
set_option maxRecDepth 100000
section
open PySem PySem.W PyProof.Rows
set_option maxHeartbeats 0
open_top head for PySem.Challenge.rw_maskedlist_k71_residues_and_assignments
end
set_option maxHeartbeats 4000000
/-! MK, part 1: plain data, stores, how they lie in the abstract heap; results; the readings IE, IA, IT, IS of functions on plain data. -/
namespace MK
open PySem L2

/-- a text, by its code points -/
abbrev Tx := List Nat
def sT (x : Tx) : Str := ⟨x.toArray⟩
theorem sT_inj {x y : Tx} (h : sT x = sT y) : x = y := by
  have := congrArg (fun z : Str => z.cps.toList) h
  simpa [sT] using this
theorem sT_cps (x : Tx) : (sT x).cps.toList = x := by simp [sT]
theorem sT_of (z : Str) : sT z.cps.toList = z := by cases z; simp [sT]
@[simp] theorem sT_length (x : Tx) : (sT x).length = x.length := by simp [sT, Str.length]
abbrev Ky := Sum Int Tx
def kS : Ky → Key
  | .inl i => .inl i
  | .inr x => .inr (sT x)
theorem kS_inj {x y : Ky} (h : kS x = kS y) : x = y := by
  cases x <;> cases y <;> simp [kS] at h
  · rw [h]
  · rw [sT_inj h]
/-- plain data: trees, without addresses -/
inductive Dv where
  | non | bl (b : Bool) | int (i : Int) | str (x : Tx)
  | tup (ds : List Dv) | lst (ds : List Dv)
  | dK (kvs : List (Ky × Dv)) | dT (kvs : List (List Ky × Dv))
  | ins (c : Str) (fs : List (Str × Dv))
/-- a value: plain data, or a place in the store -/
inductive Mv where
  | val (d : Dv) | loc (n : Nat)
/-- what stands at a place of the store: it may be changed -/
inductive Ob where
  | lst (ms : List Mv) | dK (kvs : List (Ky × Mv)) | dT (kvs : List (List Ky × Mv)) | ins (c : Str) (fs : List (Str × Mv)) | dead
abbrev Sto := List Ob
structure Exn where
  c : Str
  fs : List (Str × Dv)
inductive Rz (α : Type) where
  | ok (a : α) (S : Sto) | exn (e : Exn) (S : Sto) | stuck
def Rz.bind {α β : Type} (x : Rz α) (f : α → Sto → Rz β) : Rz β := match x with
  | .ok a S => f a S
  | .exn e S => .exn e S
  | .stuck => .stuck
@[simp] theorem Rz.bind_ok {α β : Type} (a : α) (S : Sto) (f : α → Sto → Rz β) : (Rz.ok a S).bind f = f a S := rfl
@[simp] theorem Rz.bind_exn {α β : Type} (e : Exn) (S : Sto) (f : α → Sto → Rz β) : (Rz.exn e S : Rz α).bind f = .exn e S := rfl
@[simp] theorem Rz.bind_stuck {α β : Type} (f : α → Sto → Rz β) : (Rz.stuck : Rz α).bind f = .stuck := rfl

section
variable (K : PySem.W.Frag) (mg : Str → Option Value)
mutual
inductive VR : Hp → Dv → V → Prop
  | non {F} : VR F .non .non
  | bl {F b} : VR F (.bl b) (.bl b)
  | int {F i} : VR F (.int i) (.int i)
  | str {F x} : VR F (.str x) (.str (sT x))
  | tup {F ds a ws} : SqT K F a ws → VRs F ds ws → VR F (.tup ds) (.ref a)
  | lst {F ds a ws} : SqL K F a ws → VRs F ds ws → VR F (.lst ds) (.ref a)
  | dK {F kvs a kws} : Rd F a (.dK kws) → VRp F kS kvs kws → VR F (.dK kvs) (.ref a)
  | dT {F kvs a kws} : Rd F a (.dT kws) → VRp F (List.map kS) kvs kws → VR F (.dT kvs) (.ref a)
  | ins {F c fs a C dx ws} : F a = some (.ins C dx ws) → mg c = some (.ref C) → VRp F id fs ws → VR F (.ins c fs) (.ref a)
inductive VRs : Hp → List Dv → List V → Prop
  | nil {F} : VRs F [] []
  | cons {F d ds v vs} : VR F d v → VRs F ds vs → VRs F (d :: ds) (v :: vs)
inductive VRp : Hp → {κ κ' : Type} → (κ → κ') → List (κ × Dv) → List (κ' × V) → Prop
  | nil {F} {κ κ' : Type} {j : κ → κ'} : VRp F j [] []
  | cons {F} {κ κ' : Type} {j : κ → κ'} {k d ds v vs} : VR F d v → VRp F j ds vs → VRp F j ((k, d) :: ds) ((j k, v) :: vs)
end
end

/-- what may be read in F may be read in F' -/
def Sub (F F' : Hp) : Prop := ∀ a o, F a = some o → F' a = some o
theorem Sub.refl (F : Hp) : Sub F F := fun _ _ h => h
theorem Sub.trans {A B C : Hp} (x : Sub A B) (y : Sub B C) : Sub A C := fun a o h => y a o (x a o h)
theorem Sub.rd {F F' : Hp} (x : Sub F F') {a : Addr} {u : HO} (h : Rd F a u) : Rd F' a u := by
  rcases h with h | ⟨o, h⟩
  · exact .inl (x _ _ h)
  · exact .inr ⟨o, x _ _ h⟩
theorem Sub.sqL {F F' : Hp} {K : PySem.W.Frag} (x : Sub F F') {a : Addr} {ws : List V} (h : SqL K F a ws) : SqL K F' a ws := by
  rcases h with h | h
  · exact .inl (x.rd h)
  · exact .inr h
theorem Sub.sqT {F F' : Hp} {K : PySem.W.Frag} (x : Sub F F') {a : Addr} {ws : List V} (h : SqT K F a ws) : SqT K F' a ws := by
  rcases h with h | h
  · exact .inl (x.rd h)
  · exact .inr h
section
variable {K : PySem.W.Frag} {mg : Str → Option Value}
mutual
theorem VR.mono {F F' : Hp} (x : Sub F F') : ∀ {d : Dv} {v : V}, VR K mg F d v → VR K mg F' d v
  | _, _, .non => .non
  | _, _, .bl => .bl
  | _, _, .int => .int
  | _, _, .str => .str
  | _, _, .tup h t => .tup (x.sqT h) (VRs.mono x t)
  | _, _, .lst h t => .lst (x.sqL h) (VRs.mono x t)
  | _, _, .dK h t => .dK (x.rd h) (VRp.mono x t)
  | _, _, .dT h t => .dT (x.rd h) (VRp.mono x t)
  | _, _, .ins h m t => .ins (x _ _ h) m (VRp.mono x t)
theorem VRs.mono {F F' : Hp} (x : Sub F F') : ∀ {d : List Dv} {v : List V}, VRs K mg F d v → VRs K mg F' d v
  | _, _, .nil => .nil
  | _, _, .cons h t => .cons (VR.mono x h) (VRs.mono x t)
theorem VRp.mono {F F' : Hp} (x : Sub F F') : ∀ {κ κ' : Type} {j : κ → κ'} {d : List (κ × Dv)} {v : List (κ' × V)}, VRp K mg F j d v → VRp K mg F' j d v
  | _, _, _, _, _, .nil => .nil
  | _, _, _, _, _, .cons h t => .cons (VR.mono x h) (VRp.mono x t)
end
theorem VRs.length {F : Hp} : ∀ {d : List Dv} {v : List V}, VRs K mg F d v → d.length = v.length
  | _, _, .nil => rfl
  | _, _, .cons _ t => congrArg (· + 1) (VRs.length t)
end

/-! ### states -/
structure S3 where
  i : Nat → Addr
  S : Sto
  H : Hp
def Own (a : S3) (b : Addr) : Prop := ∃ k ob, a.S[k]? = some ob ∧ ob ≠ .dead ∧ a.i k = b
open Classical in
noncomputable def hide (N : Addr → Prop) (H : Hp) : Hp := fun b => if N b then none else H b
theorem hide_some {N : Addr → Prop} {H : Hp} {b : Addr} {o : HO} : hide N H b = some o ↔ ¬ N b ∧ H b = some o := by
  unfold hide
  by_cases h : N b
  · rw [if_pos h]; simp [h]
  · rw [if_neg h]; simp [h]
theorem hide_sub {N : Addr → Prop} {H : Hp} : Sub (hide N H) H := fun _ _ h => (hide_some.mp h).2
noncomputable def Fz (N : Addr → Prop) (a : S3) : Hp := hide (fun b => N b ∨ Own a b) a.H
theorem Fz.sub {N : Addr → Prop} {a : S3} : Sub (Fz N a) a.H := hide_sub

section
variable (K : PySem.W.Frag) (mg : Str → Option Value) (N : Addr → Prop)
def MR (a : S3) : Mv → V → Prop
  | .val d, v => VR K mg (Fz N a) d v
  | .loc k, v => k < a.S.length ∧ v = .ref (a.i k)
def MRp {κ κ' : Type} (j : κ → κ') (a : S3) (x : κ × Mv) (y : κ' × V) : Prop := j x.1 = y.1 ∧ MR K mg N a x.2 y.2
def OR (a : S3) (b : Addr) : Ob → Prop
  | .lst ms => ∃ ws, a.H b = some (.lst ws) ∧ Paired (MR K mg N a) ms ws
  | .dK kvs => ∃ kws, a.H b = some (.dK kws) ∧ Paired (MRp K mg N kS a) kvs kws
  | .dT kvs => ∃ kws, a.H b = some (.dT kws) ∧ Paired (MRp K mg N (List.map kS) a) kvs kws
  | .ins c fs => ∃ C dx ws, a.H b = some (.ins C dx ws) ∧ mg c = some (.ref C) ∧ Paired (MRp K mg N id a) fs ws
  | .dead => True
structure SR (a : S3) : Prop where
  nm : ∀ b, N b → a.H b ≠ none
  nn : ∀ b, Own a b → ¬ N b
  inj : ∀ (j k : Nat) oj ok, a.S[j]? = some oj → a.S[k]? = some ok → oj ≠ .dead → ok ≠ .dead → a.i j = a.i k → j = k
  at_ : ∀ (k : Nat) ob, a.S[k]? = some ob → OR K mg N a (a.i k) ob
end
structure Ext (a b : S3) : Prop where
  ag : ∀ k, k < a.S.length → b.i k = a.i k
  ln : a.S.length ≤ b.S.length
  kp : ∀ x o, a.H x = some o → ¬ Own a x → b.H x = some o
  fr : ∀ x, Own b x → Own a x ∨ a.H x = none
theorem Ext.refl (a : S3) : Ext a a := ⟨fun _ _ => rfl, Nat.le_refl _, fun _ _ h _ => h, fun _ h => .inl h⟩
theorem Ext.trans {a b c : S3} (x : Ext a b) (y : Ext b c) : Ext a c where
  ag := fun k h => (y.ag k (Nat.lt_of_lt_of_le h x.ln)).trans (x.ag k h)
  ln := Nat.le_trans x.ln y.ln
  kp := fun z o h n => y.kp z o (x.kp z o h n) fun q => by
    rcases x.fr z q with q | q
    · exact n q
    · rw [h] at q; cases q
  fr := fun z h => by
    by_cases n : Own a z
    · exact .inl n
    · right
      cases e : a.H z with
      | none => rfl
      | some o =>
        have e' := x.kp z o e n
        rcases y.fr z h with q | q
        · rcases x.fr z q with q | q
          · exact (n q).elim
          · rw [e] at q; cases q
        · rw [e'] at q; cases q
section
variable {K : PySem.W.Frag} {mg : Str → Option Value} {N : Addr → Prop}
theorem Ext.fz {a b : S3} (x : Ext a b) : Sub (Fz N a) (Fz N b) := fun z o h => by
  obtain ⟨h1, h2⟩ := hide_some.mp h
  refine hide_some.mpr ⟨fun q => ?_, x.kp z o h2 fun q => h1 (.inr q)⟩
  rcases q with q | q
  · exact h1 (.inl q)
  · rcases x.fr z q with q | q
    · exact h1 (.inr q)
    · rw [h2] at q; cases q
theorem MR.ext {a b : S3} (x : Ext a b) : ∀ {m : Mv} {v : V}, MR K mg N a m v → MR K mg N b m v
  | .val _, _, h => VR.mono x.fz h
  | .loc k, _, ⟨h, e⟩ => ⟨Nat.lt_of_lt_of_le h x.ln, by rw [e, x.ag k h]⟩
theorem MRp.ext {κ κ' : Type} {j : κ → κ'} {a b : S3} (x : Ext a b) {m : κ × Mv} {v : κ' × V} (h : MRp K mg N j a m v) : MRp K mg N j b m v := ⟨h.1, h.2.ext x⟩
theorem MRs.ext {a b : S3} (x : Ext a b) {ms : List Mv} {vs : List V} (h : Paired (MR K mg N a) ms vs) : Paired (MR K mg N b) ms vs := Paired.mapP h fun _ _ q => q.ext x
theorem MRps.ext {κ κ' : Type} {j : κ → κ'} {a b : S3} (x : Ext a b) {ms : List (κ × Mv)} {vs : List (κ' × V)} (h : Paired (MRp K mg N j a) ms vs) : Paired (MRp K mg N j b) ms vs := Paired.mapP h fun _ _ q => q.ext x
theorem SR.lt {a : S3} {b : Addr} (r : SR K mg N a) (h : Own a b) : a.H b ≠ none := by
  obtain ⟨k, ob, e, nd, rfl⟩ := h
  have q := r.at_ k ob e
  cases ob with
  | lst ms => obtain ⟨_, h, _⟩ := q; rw [h]; simp
  | dK ms => obtain ⟨_, h, _⟩ := q; rw [h]; simp
  | dT ms => obtain ⟨_, h, _⟩ := q; rw [h]; simp
  | ins c fs => obtain ⟨_, _, _, h, _⟩ := q; rw [h]; simp
  | dead => exact (nd rfl).elim

/-- an exception, as it lies -/
def ExR (K : PySem.W.Frag) (mg : Str → Option Value) (F : Hp) (e : Exn) (cls : Value) (d : Option Addr) (H : Hp) : Prop :=
  ∃ C, mg e.c = some (.ref C) ∧ cls = .ref C ∧ ((e.fs = [] ∧ d = none) ∨ ∃ dd ws, d = some dd ∧ F dd = some (.xd ws) ∧ VRp K mg F id e.fs ws)

/-- what a result asks -/
def Post {α β : Type} (rel : S3 → α → β → Prop) (K : PySem.W.Frag) (mg : Str → Option Value) (N : Addr → Prop) (a : S3) (W : XK) (Q : β → Hp → Prop) : Rz α → Prop
  | .ok m S' => ∀ b v, b.S = S' → Ext a b → SR K mg N b → rel b m v → Q v b.H
  | .exn e S' => ∀ b cls d, b.S = S' → Ext a b → SR K mg N b → ExR K mg (Fz N b) e cls d b.H → W cls d b.H
  | .stuck => False
theorem Post.mono {α β : Type} {rel : S3 → α → β → Prop} {a : S3} {W : XK} {Q Q' : β → Hp → Prop} {r : Rz α} (h : Post rel K mg N a W Q r) (q : ∀ v H, Q v H → Q' v H) : Post rel K mg N a W Q' r := by
  cases r with
  | ok m S' => exact fun b v e x s m => q _ _ (h b v e x s m)
  | exn e S' => exact h
  | stuck => exact h
theorem Post.from_ {α β : Type} {rel : S3 → α → β → Prop} {a b : S3} {W : XK} {Q : β → Hp → Prop} {r : Rz α} (h : Post rel K mg N a W Q r) (x : Ext a b) : Post rel K mg N b W Q r := by
  cases r with
  | ok m S' => exact fun c v e y s m => h c v e (x.trans y) s m
  | exn e S' => exact fun c v d e y s m => h c v d e (x.trans y) s m
  | stuck => exact h
theorem Post.bind_out {α β γ δ : Type} {rel : S3 → α → β → Prop} {rel2 : S3 → γ → δ → Prop} {a : S3} {W : XK} {Q : δ → Hp → Prop} {x : Rz α} {f : α → Sto → Rz γ} (h : Post rel2 K mg N a W Q (x.bind f)) :
    Post rel K mg N a W (fun v H1 => ∃ b m, b.H = H1 ∧ Ext a b ∧ SR K mg N b ∧ rel b m v ∧ Post rel2 K mg N b W Q (f m b.S)) x := by
  cases x with
  | ok m S' => exact fun b v e y s r => ⟨b, m, rfl, y, s, r, by rw [e]; exact h.from_ y⟩
  | exn e S' => exact h
  | stuck => exact h

/-! ### slots -/
def EnvR (K : PySem.W.Frag) (mg : Str → Option Value) (N : Addr → Prop) (a : S3) (ρ : List (Option Mv)) (σ : St) : Prop :=
  ρ.length = σ.length ∧ ∀ (i : Nat) m, ρ[i]? = some (some m) → ∃ v, σ[i]? = some (some v) ∧ MR K mg N a m v
theorem EnvR.ext {a b : S3} {ρ : List (Option Mv)} {σ : St} (x : Ext a b) (h : EnvR K mg N a ρ σ) : EnvR K mg N b ρ σ :=
  ⟨h.1, fun i m e => let ⟨v, e', r⟩ := h.2 i m e; ⟨v, e', r.ext x⟩⟩
theorem EnvR.set {a : S3} {ρ : List (Option Mv)} {σ : St} {m : Mv} {v : V} (h : EnvR K mg N a ρ σ) (i : Nat) (r : MR K mg N a m v) : EnvR K mg N a (ρ.set i (some m)) (σ.set i (some v)) := by
  refine ⟨by simp [h.1], fun j m' e => ?_⟩
  by_cases hj : i = j
  · subst hj
    by_cases hl : i < ρ.length
    · rw [List.getElem?_set_self hl] at e
      cases e
      exact ⟨v, List.getElem?_set_self (h.1 ▸ hl), r⟩
    · rw [List.getElem?_eq_none (by simpa using hl)] at e; cases e
  · rw [List.getElem?_set_ne hj] at e ⊢
    exact h.2 j m' e
theorem EnvR.unset {a : S3} {ρ : List (Option Mv)} {σ : St} (h : EnvR K mg N a ρ σ) (i : Nat) : EnvR K mg N a (ρ.set i none) (σ.set i none) := by
  refine ⟨by simp [h.1], fun j m' e => ?_⟩
  by_cases hj : i = j
  · subst hj
    by_cases hl : i < ρ.length
    · rw [List.getElem?_set_self hl] at e
      cases e
    · rw [List.getElem?_eq_none (by simpa using hl)] at e; cases e
  · rw [List.getElem?_set_ne hj] at e ⊢
    exact h.2 j m' e

/-! ### the readings -/
abbrev XE := List (Option Mv) → Sto → Rz Mv
abbrev XA := List (Option Mv) → Sto → Rz (List Mv)
abbrev XT := List (Option Mv) → Sto → Rz Bool
def RelB (_ : S3) (a b : Bool) : Prop := a = b
def RelA (K : PySem.W.Frag) (mg : Str → Option Value) (N : Addr → Prop) (a : S3) : List Mv → List V → Prop := Paired (MR K mg N a)
def Rd3 (K : PySem.W.Frag) (mg : Str → Option Value) (N : Addr → Prop) (a : S3) (ρ : List (Option Mv)) (σ : St) (H : Hp) : Prop := a.H = H ∧ SR K mg N a ∧ EnvR K mg N a ρ σ
def IE (K : PySem.W.Frag) (mg : Str → Option Value) (W : WX) (f : XE) : TE := fun σ H Q => ∃ N a ρ, Rd3 K mg N a ρ σ H ∧ Post (MR K mg N) K mg N a (fun c d H' => W c d σ H') Q (f ρ a.S)
def IA (K : PySem.W.Frag) (mg : Str → Option Value) (W : WX) (f : XA) : TA := fun σ H Q => ∃ N a ρ, Rd3 K mg N a ρ σ H ∧ Post (RelA K mg N) K mg N a (fun c d H' => W c d σ H') Q (f ρ a.S)
def IT (K : PySem.W.Frag) (mg : Str → Option Value) (W : WX) (f : XT) : TT := fun σ H Q => ∃ N a ρ, Rd3 K mg N a ρ σ H ∧ Post RelB K mg N a (fun c d H' => W c d σ H') Q (f ρ a.S)

inductive RS where
  | nx (ρ : List (Option Mv)) (S : Sto) | brk (ρ : List (Option Mv)) (S : Sto) | cnt (ρ : List (Option Mv)) (S : Sto) | ret (m : Mv) (S : Sto) | exn (e : Exn) (ρ : List (Option Mv)) (S : Sto) | stuck
abbrev XS := List (Option Mv) → Sto → RS
def PostS (K : PySem.W.Frag) (mg : Str → Option Value) (N : Addr → Prop) (a : S3) (W : WX) (D : Ends) : RS → Prop
  | .nx ρ' S' => ∀ b σ', b.S = S' → Ext a b → SR K mg N b → EnvR K mg N b ρ' σ' → D.nx σ' b.H
  | .brk ρ' S' => ∀ b σ', b.S = S' → Ext a b → SR K mg N b → EnvR K mg N b ρ' σ' → D.bk σ' b.H
  | .cnt ρ' S' => ∀ b σ', b.S = S' → Ext a b → SR K mg N b → EnvR K mg N b ρ' σ' → D.ct σ' b.H
  | .ret m S' => ∀ b v, b.S = S' → Ext a b → SR K mg N b → MR K mg N b m v → D.rt v b.H
  | .exn e ρ' S' => ∀ b σ' cls d, b.S = S' → Ext a b → SR K mg N b → EnvR K mg N b ρ' σ' → ExR K mg (Fz N b) e cls d b.H → W cls d σ' b.H
  | .stuck => False
def IS (K : PySem.W.Frag) (mg : Str → Option Value) (W : WX) (g : XS) : TS := fun D σ H => ∃ N a ρ, Rd3 K mg N a ρ σ H ∧ PostS K mg N a W D (g ρ a.S)
theorem PostS.from_ {a b : S3} {W : WX} {D : Ends} {r : RS} (h : PostS K mg N a W D r) (x : Ext a b) : PostS K mg N b W D r := by
  cases r with
  | nx ρ' S' => exact fun c v e y s m => h c v e (x.trans y) s m
  | brk ρ' S' => exact fun c v e y s m => h c v e (x.trans y) s m
  | cnt ρ' S' => exact fun c v e y s m => h c v e (x.trans y) s m
  | ret ρ' S' => exact fun c v e y s m => h c v e (x.trans y) s m
  | exn e ρ' S' => exact fun c v d f e y s m => h c v d f e (x.trans y) s m
  | stuck => exact h
end
/-- an expression, read by f, .. -/
abbrev QE (X : Cx) (W : WX) (e : Expr) (f : XE) : Prop := PE X e (IE X.K X.mg W f)
abbrev QA (X : Cx) (W : WX) (e : List Expr) (f : XA) : Prop := PA X e (IA X.K X.mg W f)
abbrev QT (X : Cx) (W : WX) (e : Expr) (f : XT) : Prop := PT X e (IT X.K X.mg W f)
abbrev QS (X : Cx) (W : WX) (s : Stmt) (g : XS) : Prop := PS X s (IS X.K X.mg W g)
abbrev QSs (X : Cx) (W : WX) (s : List Stmt) (g : XS) : Prop := PSs X s (IS X.K X.mg W g)
theorem PE.weak {X : Cx} {e : Expr} {t u : TE} (h : PE X e t) (w : ∀ σ H Q, u σ H Q → t σ H Q) : PE X e u := ⟨fun pins s σ H Q I q => h.run pins s σ H Q I (w σ H Q q)⟩
theorem PA.weak {X : Cx} {e : List Expr} {t u : TA} (h : PA X e t) (w : ∀ σ H Q, u σ H Q → t σ H Q) : PA X e u := ⟨fun pos pins s σ H Q I q => h.run pos pins s σ H Q I (w σ H Q q)⟩
theorem PT.weak {X : Cx} {e : Expr} {t u : TT} (h : PT X e t) (w : ∀ σ H Q, u σ H Q → t σ H Q) : PT X e u := ⟨fun pins s σ H Q I q => h.run pins s σ H Q I (w σ H Q q)⟩
theorem PW.weak {X : Cx} {e : Expr} {t u : TT} (h : PW X e t) (w : ∀ σ H Q, u σ H Q → t σ H Q) : PW X e u := ⟨fun wh pins s σ H Q I q => h.run wh pins s σ H Q I (w σ H Q q)⟩
theorem PS.weak {X : Cx} {e : Stmt} {t u : TS} (h : PS X e t) (w : ∀ D σ H, u D σ H → t D σ H) : PS X e u := ⟨fun pins s σ H D I q => h.run pins s σ H D I (w D σ H q)⟩
theorem PSs.weak {X : Cx} {e : List Stmt} {t u : TS} (h : PSs X e t) (w : ∀ D σ H, u D σ H → t D σ H) : PSs X e u := ⟨fun pins s σ H D I q => h.run pins s σ H D I (w D σ H q)⟩
end MK

/-! MK, part 2: expressions. -/
namespace MK
open PySem L2
section
variable {K : PySem.W.Frag} {mg : Str → Option Value} {N : Addr → Prop}
/-! ### objects laid, written -/
theorem laid {a : S3} {p : Addr} {o : HO} (sr : SR K mg N a) (hp : a.H p = none) : Ext a ⟨a.i, a.S, upd a.H p o⟩ ∧ SR K mg N ⟨a.i, a.S, upd a.H p o⟩ ∧ Fz N ⟨a.i, a.S, upd a.H p o⟩ p = some o := by
  have ne : ∀ {x u}, a.H x = some u → x ≠ p := fun h e => by rw [e, hp] at h; cases h
  have ex : Ext a ⟨a.i, a.S, upd a.H p o⟩ := ⟨fun _ _ => rfl, Nat.le_refl _, fun x u h _ => by show upd a.H p o x = _; rw [upd_ne (ne h)]; exact h, fun x h => .inl h⟩
  have own : ∀ {x}, Own a x → x ≠ p := fun h e => by
    have := sr.lt h
    rw [e] at this
    exact this hp
  refine ⟨ex, ⟨fun b h => ?_, sr.nn, sr.inj, fun k ob e => ?_⟩, ?_⟩
  · have q := sr.nm b h
    show upd a.H p o b ≠ none
    rw [upd_ne (fun e => q (by rw [e]; exact hp))]
    exact q
  · have q := sr.at_ k ob e
    cases ob with
    | lst ms => obtain ⟨ws, h, t⟩ := q; exact ⟨ws, by show upd a.H p o _ = _; rw [upd_ne (ne h)]; exact h, MRs.ext ex t⟩
    | dK ms => obtain ⟨ws, h, t⟩ := q; exact ⟨ws, by show upd a.H p o _ = _; rw [upd_ne (ne h)]; exact h, MRps.ext ex t⟩
    | dT ms => obtain ⟨ws, h, t⟩ := q; exact ⟨ws, by show upd a.H p o _ = _; rw [upd_ne (ne h)]; exact h, MRps.ext ex t⟩
    | ins c fs => obtain ⟨C, dx, ws, h, m, t⟩ := q; exact ⟨C, dx, ws, by show upd a.H p o _ = _; rw [upd_ne (ne h)]; exact h, m, MRps.ext ex t⟩
    | dead => trivial
  · refine hide_some.mpr ⟨fun h => ?_, upd_same⟩
    rcases h with h | h
    · exact sr.nm p h hp
    · exact own (x := p) h rfl
/-- where the heap has grown only -/
theorem grown {a : S3} {H' : Hp} (sr : SR K mg N a) (s : Same a.H H') : Ext a ⟨a.i, a.S, H'⟩ ∧ SR K mg N ⟨a.i, a.S, H'⟩ := by
  have ex : Ext a ⟨a.i, a.S, H'⟩ := ⟨fun _ _ => rfl, Nat.le_refl _, fun x u h _ => s x u h, fun x h => .inl h⟩
  refine ⟨ex, ⟨fun b h => ?_, sr.nn, sr.inj, fun k ob e => ?_⟩⟩
  · have q := sr.nm b h
    cases e : a.H b with
    | none => exact (q e).elim
    | some o => show H' b ≠ none; rw [s b o e]; simp
  · have q := sr.at_ k ob e
    cases ob with
    | lst ms => obtain ⟨ws, h, t⟩ := q; exact ⟨ws, s _ _ h, MRs.ext ex t⟩
    | dK ms => obtain ⟨ws, h, t⟩ := q; exact ⟨ws, s _ _ h, MRps.ext ex t⟩
    | dT ms => obtain ⟨ws, h, t⟩ := q; exact ⟨ws, s _ _ h, MRps.ext ex t⟩
    | ins c fs => obtain ⟨C, dx, ws, h, m, t⟩ := q; exact ⟨C, dx, ws, s _ _ h, m, MRps.ext ex t⟩
    | dead => trivial
/-- a new place -/
def put (i : Nat → Addr) (n : Nat) (p : Addr) : Nat → Addr := fun k => if k = n then p else i k
theorem put_at {i : Nat → Addr} {n : Nat} {p : Addr} : put i n p n = p := if_pos rfl
theorem put_ne {i : Nat → Addr} {n : Nat} {p : Addr} {k : Nat} (h : k ≠ n) : put i n p k = i k := if_neg h
theorem placed {a : S3} {p : Addr} {o : HO} {ob : Ob} (sr : SR K mg N a) (hp : a.H p = none)
    (hob : ∀ b : S3, Ext a b → b.H p = some o → OR K mg N b p ob) :
    Ext a ⟨put a.i a.S.length p, a.S ++ [ob], upd a.H p o⟩ ∧ SR K mg N ⟨put a.i a.S.length p, a.S ++ [ob], upd a.H p o⟩ := by
  have ne : ∀ {x u}, a.H x = some u → x ≠ p := fun h e => by rw [e, hp] at h; cases h
  have lo : ∀ {k : Nat} {u}, a.S[k]? = some u → put a.i a.S.length p k = a.i k := fun {k u} h => put_ne (Nat.ne_of_lt (List.getElem?_eq_some_iff.mp h).1)
  have get : ∀ {k : Nat} {u}, (a.S ++ [ob])[k]? = some u → a.S[k]? = some u ∨ (k = a.S.length ∧ u = ob) := fun {k u} h => by
    by_cases hk : k < a.S.length
    · rw [List.getElem?_append_left hk] at h; exact .inl h
    · rw [List.getElem?_append_right (Nat.le_of_not_lt hk)] at h
      have hl := (List.getElem?_eq_some_iff.mp h).1
      have e0 : k - a.S.length = 0 := by simp at hl; omega
      rw [e0] at h
      exact .inr ⟨by omega, by simpa using h.symm⟩
  have ex : Ext a ⟨put a.i a.S.length p, a.S ++ [ob], upd a.H p o⟩ := by
    refine ⟨fun k h => put_ne (Nat.ne_of_lt h), by simp, fun x u h _ => by show upd a.H p o x = _; rw [upd_ne (ne h)]; exact h, fun x h => ?_⟩
    obtain ⟨k, u, e, nd, rfl⟩ := h
    rcases get e with e | ⟨rfl, rfl⟩
    · exact .inl ⟨k, u, e, nd, (lo e).symm⟩
    · right; show a.H (put a.i a.S.length p a.S.length) = none; rw [put_at]; exact hp
  refine ⟨ex, ⟨fun b h => ?_, fun b h => ?_, fun j k oj ok ej ek nj nk e => ?_, fun k u e => ?_⟩⟩
  · have q := sr.nm b h
    show upd a.H p o b ≠ none
    rw [upd_ne (fun e => q (by rw [e]; exact hp))]
    exact q
  · obtain ⟨k, u, e, nd, rfl⟩ := h
    rcases get e with e | ⟨rfl, rfl⟩
    · exact fun q => sr.nn (a.i k) ⟨k, u, e, nd, rfl⟩ (by rw [← lo e]; exact q)
    · intro q
      have q' : N p := by rw [← put_at (i := a.i) (n := a.S.length) (p := p)]; exact q
      exact sr.nm p q' hp
  · replace e : put a.i a.S.length p j = put a.i a.S.length p k := e
    rcases get ej with e1 | ⟨hj, z1⟩
    · rcases get ek with e2 | ⟨hk, z2⟩
      · rw [lo e1, lo e2] at e; exact sr.inj j k oj ok e1 e2 nj nk e
      · rw [lo e1, hk, put_at] at e
        exact (sr.lt ⟨j, oj, e1, nj, e⟩ hp).elim
    · rcases get ek with e2 | ⟨hk, z2⟩
      · rw [lo e2, hj, put_at] at e
        exact (sr.lt ⟨k, ok, e2, nk, e.symm⟩ hp).elim
      · rw [hj, hk]
  · rcases get e with e | ⟨rfl, rfl⟩
    · have q := sr.at_ k u e
      show OR K mg N _ (put a.i a.S.length p k) u
      rw [lo e]
      cases u with
      | lst ms => obtain ⟨ws, h, t⟩ := q; exact ⟨ws, by show upd a.H p o _ = _; rw [upd_ne (ne h)]; exact h, MRs.ext ex t⟩
      | dK ms => obtain ⟨ws, h, t⟩ := q; exact ⟨ws, by show upd a.H p o _ = _; rw [upd_ne (ne h)]; exact h, MRps.ext ex t⟩
      | dT ms => obtain ⟨ws, h, t⟩ := q; exact ⟨ws, by show upd a.H p o _ = _; rw [upd_ne (ne h)]; exact h, MRps.ext ex t⟩
      | ins c fs => obtain ⟨C, dx, ws, h, m, t⟩ := q; exact ⟨C, dx, ws, by show upd a.H p o _ = _; rw [upd_ne (ne h)]; exact h, m, MRps.ext ex t⟩
      | dead => trivial
    · show OR K mg N _ (put a.i a.S.length p a.S.length) u
      rw [put_at]
      exact hob _ ex upd_same
/-- a place written -/
theorem written {a : S3} {k : Nat} {o : HO} {ob ob' : Ob} (sr : SR K mg N a) (e : a.S[k]? = some ob) (nd : ob ≠ .dead) (nd' : ob' ≠ .dead)
    (hob : ∀ b : S3, Ext a b → b.H (a.i k) = some o → OR K mg N b (a.i k) ob') :
    Ext a ⟨a.i, a.S.set k ob', upd a.H (a.i k) o⟩ ∧ SR K mg N ⟨a.i, a.S.set k ob', upd a.H (a.i k) o⟩ := by
  have hk := (List.getElem?_eq_some_iff.mp e).1
  have get : ∀ {j : Nat} {u}, (a.S.set k ob')[j]? = some u → (j = k ∧ u = ob') ∨ (j ≠ k ∧ a.S[j]? = some u) := fun {j u} h => by
    by_cases hj : k = j
    · subst hj
      rw [List.getElem?_set_self hk] at h
      exact .inl ⟨rfl, (Option.some.inj h).symm⟩
    · rw [List.getElem?_set_ne hj] at h
      exact .inr ⟨fun q => hj q.symm, h⟩
  have live : ∀ {x}, Own ⟨a.i, a.S.set k ob', upd a.H (a.i k) o⟩ x → Own a x := fun {x} h => by
    obtain ⟨j, u, e1, n1, rfl⟩ := h
    rcases get e1 with ⟨rfl, rfl⟩ | ⟨_, e1⟩
    · exact ⟨j, ob, e, nd, rfl⟩
    · exact ⟨j, u, e1, n1, rfl⟩
  have ownk : Own a (a.i k) := ⟨k, ob, e, nd, rfl⟩
  have ex : Ext a ⟨a.i, a.S.set k ob', upd a.H (a.i k) o⟩ := by
    refine ⟨fun _ _ => rfl, by simp, fun x u h n => ?_, fun x h => .inl (live h)⟩
    show upd a.H (a.i k) o x = _
    rw [upd_ne (fun q => n (by rw [q]; exact ownk))]
    exact h
  refine ⟨ex, ⟨fun b h => ?_, fun b h => sr.nn b (live h), fun j l oj ol ej el nj nl q => ?_, fun j u e1 => ?_⟩⟩
  · have q := sr.nm b h
    show upd a.H (a.i k) o b ≠ none
    by_cases hb : b = a.i k
    · rw [hb, upd_same]; simp
    · rw [upd_ne hb]; exact q
  · have h1 : ∃ u, a.S[j]? = some u ∧ u ≠ .dead := by
      rcases get ej with ⟨rfl, rfl⟩ | ⟨_, z⟩
      · exact ⟨ob, e, nd⟩
      · exact ⟨oj, z, nj⟩
    have h2 : ∃ u, a.S[l]? = some u ∧ u ≠ .dead := by
      rcases get el with ⟨rfl, rfl⟩ | ⟨_, z⟩
      · exact ⟨ob, e, nd⟩
      · exact ⟨ol, z, nl⟩
    obtain ⟨u, z1, z2⟩ := h1
    obtain ⟨u', z3, z4⟩ := h2
    exact sr.inj j l u u' z1 z3 z2 z4 q
  · rcases get e1 with ⟨rfl, rfl⟩ | ⟨hj, e1⟩
    · exact hob _ ex upd_same
    · have q := sr.at_ j u e1
      have ne : u ≠ .dead → a.i j ≠ a.i k := fun nu z => hj (sr.inj j k u ob e1 e nu nd z)
      cases u with
      | lst ms => obtain ⟨ws, h, t⟩ := q; exact ⟨ws, by show upd a.H _ o _ = _; rw [upd_ne (ne (by simp))]; exact h, MRs.ext ex t⟩
      | dK ms => obtain ⟨ws, h, t⟩ := q; exact ⟨ws, by show upd a.H _ o _ = _; rw [upd_ne (ne (by simp))]; exact h, MRps.ext ex t⟩
      | dT ms => obtain ⟨ws, h, t⟩ := q; exact ⟨ws, by show upd a.H _ o _ = _; rw [upd_ne (ne (by simp))]; exact h, MRps.ext ex t⟩
      | ins c fs => obtain ⟨C, dx, ws, h, m, t⟩ := q; exact ⟨C, dx, ws, by show upd a.H _ o _ = _; rw [upd_ne (ne (by simp))]; exact h, m, MRps.ext ex t⟩
      | dead => trivial

/-! ### results -/
theorem Post.okv {a : S3} {W : XK} {Q : VK} {d : Dv} {v : V} (sr : SR K mg N a) (h : Post (MR K mg N) K mg N a W Q (.ok (.val d) a.S)) (r : VR K mg (Fz N a) d v) : Q v a.H := h a v rfl (.refl a) sr r
theorem Post.okm {α β : Type} {rel : S3 → α → β → Prop} {a : S3} {W : XK} {Q : β → Hp → Prop} {m : α} {v : β} (sr : SR K mg N a) (h : Post rel K mg N a W Q (.ok m a.S)) (r : rel a m v) : Q v a.H := h a v rfl (.refl a) sr r

/-! ### what a value is -/
theorem MR.int {a : S3} {i : Int} {v : V} (h : MR K mg N a (.val (.int i)) v) : v = .int i := by cases h; rfl
theorem MR.bl {a : S3} {i : Bool} {v : V} (h : MR K mg N a (.val (.bl i)) v) : v = .bl i := by cases h; rfl
theorem MR.str {a : S3} {i : Tx} {v : V} (h : MR K mg N a (.val (.str i)) v) : v = .str (sT i) := by cases h; rfl
theorem MR.non {a : S3} {v : V} (h : MR K mg N a (.val .non) v) : v = .non := by cases h; rfl
theorem VRs.paired {a : S3} : ∀ {ds : List Dv} {vs : List V}, VRs K mg (Fz N a) ds vs → Paired (MR K mg N a) (ds.map .val) vs
  | _, _, .nil => .nil
  | _, _, .cons h t => .cons h (VRs.paired t)
theorem paired_vals {a : S3} : ∀ {ds : List Dv} {vs : List V}, Paired (MR K mg N a) (ds.map .val) vs → VRs K mg (Fz N a) ds vs
  | [], _, .nil => .nil
  | _ :: _, _, .cons h t => .cons h (paired_vals t)
theorem MR.tup {a : S3} {ds : List Dv} {v : V} (h : MR K mg N a (.val (.tup ds)) v) : ∃ p ws, v = .ref p ∧ SqT K a.H p ws ∧ VRs K mg (Fz N a) ds ws := by
  cases h with
  | tup h t => exact ⟨_, _, rfl, Fz.sub.sqT h, t⟩
theorem MR.lst {a : S3} {ds : List Dv} {v : V} (h : MR K mg N a (.val (.lst ds)) v) : ∃ p ws, v = .ref p ∧ SqL K a.H p ws ∧ VRs K mg (Fz N a) ds ws := by
  cases h with
  | lst h t => exact ⟨_, _, rfl, Fz.sub.sqL h, t⟩

/-- the items of a list, a tuple, by value or in the store -/
inductive Sq where | l | t
def seqOf (S : Sto) : Mv → Option (Sq × List Mv)
  | .val (.tup ds) => some (.t, ds.map .val)
  | .val (.lst ds) => some (.l, ds.map .val)
  | .loc k => match S[k]? with
    | some (.lst ms) => some (.l, ms)
    | _ => none
  | _ => none
@[simp] theorem seqOf_tup (S : Sto) (ds : List Dv) : seqOf S (.val (.tup ds)) = some (.t, ds.map .val) := rfl
@[simp] theorem seqOf_lst (S : Sto) (ds : List Dv) : seqOf S (.val (.lst ds)) = some (.l, ds.map .val) := rfl
def SqO (K : PySem.W.Frag) (s : Sq) (H : Hp) (p : Addr) (ws : List V) : Prop := match s with
  | .l => SqL K H p ws
  | .t => SqT K H p ws
theorem seqOf_ok {a : S3} {m : Mv} {v : V} {s : Sq} {ms : List Mv} (sr : SR K mg N a) (r : MR K mg N a m v) (e : seqOf a.S m = some (s, ms)) : ∃ p ws, v = .ref p ∧ SqO K s a.H p ws ∧ Paired (MR K mg N a) ms ws := by
  cases m with
  | val d =>
    cases d with
    | tup ds =>
      cases e
      obtain ⟨p, ws, e, h, t⟩ := MR.tup r
      exact ⟨p, ws, e, h, VRs.paired t⟩
    | lst ds =>
      cases e
      obtain ⟨p, ws, e, h, t⟩ := MR.lst r
      exact ⟨p, ws, e, h, VRs.paired t⟩
    | _ => cases e
  | loc k =>
    obtain ⟨hk, rfl⟩ := r
    replace e : (match a.S[k]? with | some (.lst ms) => some (Sq.l, ms) | _ => none) = some (s, ms) := e
    cases q : a.S[k]? with
    | none => rw [q] at e; cases e
    | some ob =>
      rw [q] at e
      cases ob with
      | lst ms' =>
        cases e
        obtain ⟨ws, h, t⟩ := sr.at_ k _ q
        exact ⟨_, ws, rfl, SqL.of h, t⟩
      | _ => cases e
end

/-! ### names, constants -/
section
variable {X : Cx} {W : WX}
def eVar (i : Nat) : XE := fun ρ S => match ρ[i]? with
  | some (some m) => .ok m S
  | _ => .stuck
theorem qe_var (i : Nat) {x : Str} {pos : Pos} (hN : X.N[i]? = some x := by rfl) (hv : Vis X.env.scope x := by first | exact Or.inl rfl | exact Or.inr (Or.inl rfl) | exact Or.inr (Or.inr rfl)) (hd : (x == ("__debug__" : Str)) = false := by decide)
    (hcd : (x == ("__classdict__" : Str)) = false := by decide) : QE X W (.Name x pos) (eVar i) := by
  refine PE.weak (pv i hN hv hd hcd) ?_
  rintro σ H Q ⟨N, a, ρ, ⟨rfl, sr, en⟩, h⟩
  unfold eVar at h
  split at h
  · rename_i m e
    obtain ⟨v, ev, r⟩ := en.2 i m e
    exact ⟨v, ev, h a v rfl (.refl a) sr r⟩
  · exact h.elim
def eC (d : Dv) : XE := fun _ S => .ok (.val d) S
def flat1 : Dv → Option V
  | .non => some .non
  | .bl b => some (.bl b)
  | .int i => some (.int i)
  | .str x => some (.str (sT x))
  | _ => none
theorem VR.flat {K : PySem.W.Frag} {mg : Str → Option Value} {F : Hp} {d : Dv} {v : V} (h : flat1 d = some v) : VR K mg F d v := by
  cases d with
  | non => cases h; exact .non
  | bl b => cases h; exact .bl
  | int b => cases h; exact .int
  | str b => cases h; exact .str
  | _ => cases h
theorem qe_C {e : Expr} {d : Dv} {v : V} (h : PE X e (tC v)) (hf : flat1 d = some v) : QE X W e (eC d) := by
  refine PE.weak h ?_
  rintro σ H Q ⟨N, a, ρ, ⟨rfl, sr, en⟩, h⟩
  exact Post.okv sr h (.flat hf)
theorem qe_int {i j pos} : QE X W (.Constant (.int i) j pos) (eC (.int i)) := qe_C pe_int rfl
theorem qe_bl {i j pos} : QE X W (.Constant (.bool i) j pos) (eC (.bl i)) := qe_C pe_bl rfl
theorem qe_str {x : Str} {i : Tx} {j pos} (h : x = sT i := by decide +kernel) : QE X W (.Constant (.str x) j pos) (eC (.str i)) := by
  subst h
  exact qe_C pe_str rfl
theorem qe_non {j pos} : QE X W (.Constant .none j pos) (eC .non) := qe_C pe_non rfl

/-! ### operators -/
def eBin (F : Mv → Mv → Sto → Rz Mv) (fa fb : XE) : XE := fun ρ S => (fa ρ S).bind fun x S1 => (fb ρ S1).bind fun y S2 => F x y S2
def eUn (F : Mv → Sto → Rz Mv) (fa : XE) : XE := fun ρ S => (fa ρ S).bind fun x S1 => F x S1
def BinOk (K : PySem.W.Frag) (mg : Str → Option Value) (r : R2) (F : Mv → Mv → Sto → Rz Mv) : Prop :=
  ∀ (N : Addr → Prop) (a : S3) (x y : Mv) (v w : V) (W : XK) (Q : VK), SR K mg N a → MR K mg N a x v → MR K mg N a y w → Post (MR K mg N) K mg N a W Q (F x y a.S) → r v w a.H Q
def UnOk (K : PySem.W.Frag) (mg : Str → Option Value) (r : V → Hp → VK → Prop) (F : Mv → Sto → Rz Mv) : Prop :=
  ∀ (N : Addr → Prop) (a : S3) (x : Mv) (v : V) (W : XK) (Q : VK), SR K mg N a → MR K mg N a x v → Post (MR K mg N) K mg N a W Q (F x a.S) → r v a.H Q
theorem bin_read {K : PySem.W.Frag} {mg : Str → Option Value} {r : R2} {F : Mv → Mv → Sto → Rz Mv} {fa fb : XE} (hr : BinOk K mg r F) (σ : St) (H : Hp) (Q : VK) (h : IE K mg W (eBin F fa fb) σ H Q) : tOp r (IE K mg W fa) (IE K mg W fb) σ H Q := by
  obtain ⟨N, a, ρ, ⟨rfl, sr, en⟩, h⟩ := h
  refine ⟨N, a, ρ, ⟨rfl, sr, en⟩, (Post.bind_out (rel := MR K mg N) h).mono ?_⟩
  rintro v H1 ⟨b, m, rfl, x, sb, rm, h1⟩
  refine ⟨N, b, ρ, ⟨rfl, sb, en.ext x⟩, (Post.bind_out (rel := MR K mg N) h1).mono ?_⟩
  rintro w H2 ⟨c, m2, rfl, y, sc, rm2, h2⟩
  exact hr N c m m2 v w _ Q sc (rm.ext y) rm2 h2
theorem un_read {K : PySem.W.Frag} {mg : Str → Option Value} {r : V → Hp → VK → Prop} {F : Mv → Sto → Rz Mv} {fa : XE} (hr : UnOk K mg r F) (σ : St) (H : Hp) (Q : VK) (h : IE K mg W (eUn F fa) σ H Q) : tUn r (IE K mg W fa) σ H Q := by
  obtain ⟨N, a, ρ, ⟨rfl, sr, en⟩, h⟩ := h
  refine ⟨N, a, ρ, ⟨rfl, sr, en⟩, (Post.bind_out (rel := MR K mg N) h).mono ?_⟩
  rintro v H1 ⟨b, m, rfl, x, sb, rm, h1⟩
  exact hr N b m v _ Q sb rm h1
theorem qe_op {a b : Expr} {pos : Pos} {op : Operator} {r : R2} {F : Mv → Mv → Sto → Rz Mv} {fa fb : XE} (ho : OpR X (binaryOp op) r ∧ BinOk X.K X.mg r F) (ha : QE X W a fa) (hb : QE X W b fb) : QE X W (.BinOp a op b pos) (eBin F fa fb) :=
  PE.weak (pe_op ho.1 ha hb) (bin_read ho.2)
theorem qe_un {a : Expr} {pos : Pos} {op : UnaryOp} {r : V → Hp → VK → Prop} {F : Mv → Sto → Rz Mv} {fa : XE} (ho : UnR X (unaryOp op) r ∧ UnOk X.K X.mg r F) (ha : QE X W a fa) : QE X W (.UnaryOp op a pos) (eUn F fa) :=
  PE.weak (pe_un ho.1 ha) (un_read ho.2)
theorem qe_cmp {a b : Expr} {pos : Pos} {op : CmpOp} {r : R2} {F : Mv → Mv → Sto → Rz Mv} {fa fb : XE} (ho : OpR X (compareOp op) r ∧ BinOk X.K X.mg r F) (ha : QE X W a fa) (hb : QE X W b fb) (hm : behindInMarks op b = false := by first | exact nobehind _ (by decide) (by decide) | rfl) :
    QE X W (.Compare a [op] [b] pos) (eBin F fa fb) :=
  PE.weak (pe_cmpR ho.1 ha hb hm) (bin_read ho.2)
theorem qe_ix {a b : Expr} {pos : Pos} {r : R2} {F : Mv → Mv → Sto → Rz Mv} {fa fb : XE} (ho : IxR X r ∧ BinOk X.K X.mg r F) (ha : QE X W a fa) (hb : QE X W b fb) (hs : PlainIx b := by exact fun _ _ => rfl) : QE X W (.Subscript a b pos) (eBin F fa fb) :=
  PE.weak (pe_ix ho.1 ha hb hs) (bin_read ho.2)
/-- a < b < c -/
def eChain (F G : Mv → Mv → Sto → Rz Mv) (fa fb fc : XE) : XE := fun ρ S => (fa ρ S).bind fun x S1 => (fb ρ S1).bind fun y S2 => (F x y S2).bind fun z S3 => match z with
  | .val (.bl true) => (fc ρ S3).bind fun w S4 => G y w S4
  | .val (.bl false) => .ok (.val (.bl false)) S3
  | _ => .stuck
theorem qe_chain {a b c : Expr} {pos : Pos} {op op' : CmpOp} {r r' : R2} {F G : Mv → Mv → Sto → Rz Mv} {fa fb fc : XE} (ho : OpR X (compareOp op) r ∧ BinOk X.K X.mg r F) (ho' : OpR X (compareOp op') r' ∧ BinOk X.K X.mg r' G)
    (ha : QE X W a fa) (hb : QE X W b fb) (hc : QE X W c fc) (hm : lastMarks [op, op'] [b, c] = false := by with_unfolding_all rfl) : QE X W (.Compare a [op, op'] [b, c] pos) (eChain F G fa fb fc) := by
  refine PE.weak (pe_chain ho.1 ho'.1 ha hb hc hm) ?_
  rintro σ H Q ⟨N, a, ρ, ⟨rfl, sr, en⟩, h⟩
  refine ⟨N, a, ρ, ⟨rfl, sr, en⟩, (Post.bind_out (rel := MR X.K X.mg N) h).mono ?_⟩
  rintro v H1 ⟨b, m, rfl, x, sb, rm, h1⟩
  refine ⟨N, b, ρ, ⟨rfl, sb, en.ext x⟩, (Post.bind_out (rel := MR X.K X.mg N) h1).mono ?_⟩
  rintro w H2 ⟨c, m2, rfl, y, sc, rm2, h2⟩
  refine ho.2 N c m m2 v w (fun c d H' => W c d σ H') _ sc (rm.ext y) rm2 ((Post.bind_out (rel := MR X.K X.mg N) h2).mono ?_)
  rintro z H3 ⟨d, m3, rfl, zx, sd, rm3, h3⟩
  split at h3
  · cases rm3
    refine ⟨true, rfl, iteT ⟨N, d, ρ, ⟨rfl, sd, (en.ext x).ext (y.trans zx)⟩, (Post.bind_out (rel := MR X.K X.mg N) h3).mono ?_⟩⟩
    rintro w' H4 ⟨e, m4, rfl, q, se, rm4, h4⟩
    exact ho'.2 N e m2 m4 w w' _ Q se (rm2.ext (zx.trans q)) rm4 h4
  · cases rm3
    exact ⟨false, rfl, iteF (Post.okv sd h3 .bl)⟩
  · exact h3.elim

/-! ### tests -/
/-- truth of a value -/
def tru (S : Sto) : Mv → Option Bool
  | .val .non => some false
  | .val (.bl b) => some b
  | .val (.int i) => some (i != 0)
  | .val (.str x) => if x.length ≤ sizeLine then some (x.length != 0) else none
  | m => (seqOf S m).map fun p => !p.2.isEmpty
theorem isEmpty_paired {α β : Type} {F : α → β → Prop} : ∀ {xs : List α} {ys : List β}, Paired F xs ys → xs.isEmpty = ys.isEmpty
  | _, _, .nil => rfl
  | _, _, .cons _ _ => rfl
theorem tru_seq {K : PySem.W.Frag} {mg : Str → Option Value} {N : Addr → Prop} {a : S3} {m : Mv} {v : V} {b : Bool} (sr : SR K mg N a) (r : MR K mg N a m v) (e : (seqOf a.S m).map (fun p => !p.2.isEmpty) = some b) : TruV K v a.H b := by
  cases q : seqOf a.S m with
  | none => rw [q] at e; cases e
  | some p =>
    obtain ⟨s, ms⟩ := p
    rw [q] at e
    cases e
    obtain ⟨p, ws, rfl, h, t⟩ := seqOf_ok sr r q
    cases s with
    | l => exact .inl ⟨ws, h, by show (!ms.isEmpty) = _; rw [isEmpty_paired t]⟩
    | t => exact .inr (.inl ⟨ws, h, by show (!ms.isEmpty) = _; rw [isEmpty_paired t]⟩)
theorem tru_ok' {K : PySem.W.Frag} {mg : Str → Option Value} {N : Addr → Prop} {a : S3} {m : Mv} {v : V} {b : Bool} (sr : SR K mg N a) (r : MR K mg N a m v) (e : tru a.S m = some b) : TruV K v a.H b := by
  cases m with
  | loc k => exact tru_seq sr r e
  | val d =>
    cases d with
    | non => cases r; cases e; rfl
    | bl k => cases r; cases e; rfl
    | int i => cases r; cases e; rfl
    | str x =>
      cases r
      unfold tru at e
      by_cases hl : x.length ≤ sizeLine
      · simp only [hl, if_true] at e
        cases e
        refine ⟨by simpa using hl, ?_⟩
        show (x.length != 0) = (((sT x).length : Int) != 0)
        rw [sT_length]
        by_cases h0 : x.length = 0
        · rw [h0]; rfl
        · have e1 : (x.length != 0) = true := by simpa using h0
          have e2 : ((x.length : Int) != 0) = true := by simpa using h0
          rw [e1, e2]
      · simp [hl] at e
    | tup ds => exact tru_seq sr r e
    | lst ds => exact tru_seq sr r e
    | dK ds => cases e
    | dT ds => cases e
    | ins c fs => cases e
def xT (f : XE) : XT := fun ρ S => (f ρ S).bind fun m S1 => match tru S1 m with
  | some b => .ok b S1
  | none => .stuck
theorem qt_of {e : Expr} {f : XE} (h : QE X W e f) (he : ∀ whole, isTrue e X.env whole = (do let v ← whole; standAt e.pos; holding [v] (truthy v)) := by intro _; rfl) : QT X W e (xT f) := by
  refine PT.weak (pt_truth h he) ?_
  rintro σ H Q ⟨N, a, ρ, ⟨rfl, sr, en⟩, h⟩
  refine ⟨N, a, ρ, ⟨rfl, sr, en⟩, (Post.bind_out (rel := MR X.K X.mg N) h).mono ?_⟩
  rintro v H1 ⟨b, m, rfl, x, sb, rm, h1⟩
  split at h1
  · rename_i k e
    exact ⟨k, tru_ok' sb rm e, h1 b k rfl (.refl b) sb rfl⟩
  · exact h1.elim
abbrev QW (X : Cx) (W : WX) (e : Expr) (f : XT) : Prop := PW X e (IT X.K X.mg W f)
def xAnd (f g : XT) : XT := fun ρ S => (f ρ S).bind fun b S1 => match b with
  | true => g ρ S1
  | false => .ok false S1
def xOr (f g : XT) : XT := fun ρ S => (f ρ S).bind fun b S1 => match b with
  | false => g ρ S1
  | true => .ok true S1
def xNot (f : XT) : XT := fun ρ S => (f ρ S).bind fun b S1 => .ok (!b) S1
theorem and_read {K : PySem.W.Frag} {mg : Str → Option Value} {f g : XT} (σ : St) (H : Hp) (Q : Bool → Hp → Prop) (h : IT K mg W (xAnd f g) σ H Q) : tAnd (IT K mg W f) (IT K mg W g) σ H Q := by
  obtain ⟨N, a, ρ, ⟨rfl, sr, en⟩, h⟩ := h
  refine ⟨N, a, ρ, ⟨rfl, sr, en⟩, (Post.bind_out (rel := RelB) h).mono ?_⟩
  rintro v H1 ⟨b, m, rfl, x, sb, rm, h1⟩
  cases rm
  cases v with
  | true => exact iteT ⟨N, b, ρ, ⟨rfl, sb, en.ext x⟩, h1⟩
  | false => exact iteF (h1 b false rfl (.refl b) sb rfl)
theorem or_read {K : PySem.W.Frag} {mg : Str → Option Value} {f g : XT} (σ : St) (H : Hp) (Q : Bool → Hp → Prop) (h : IT K mg W (xOr f g) σ H Q) : tOr (IT K mg W f) (IT K mg W g) σ H Q := by
  obtain ⟨N, a, ρ, ⟨rfl, sr, en⟩, h⟩ := h
  refine ⟨N, a, ρ, ⟨rfl, sr, en⟩, (Post.bind_out (rel := RelB) h).mono ?_⟩
  rintro v H1 ⟨b, m, rfl, x, sb, rm, h1⟩
  cases rm
  cases v with
  | true => exact iteT (h1 b true rfl (.refl b) sb rfl)
  | false => exact iteF ⟨N, b, ρ, ⟨rfl, sb, en.ext x⟩, h1⟩
theorem qt_and1 {a : Expr} {pos : Pos} {f : XT} (h : QT X W a f) : QW X W (.BoolOp .And [a] pos) f := pw_and1 h
theorem qt_or1 {a : Expr} {pos : Pos} {f : XT} (h : QT X W a f) : QW X W (.BoolOp .Or [a] pos) f := pw_or1 h
theorem qw_and {a b : Expr} {rest : List Expr} {pos : Pos} {f g : XT} (ha : QT X W a f) (hb : QW X W (.BoolOp .And (b :: rest) pos) g) : QW X W (.BoolOp .And (a :: b :: rest) pos) (xAnd f g) := PW.weak (pw_and ha hb) and_read
theorem qw_or {a b : Expr} {rest : List Expr} {pos : Pos} {f g : XT} (ha : QT X W a f) (hb : QW X W (.BoolOp .Or (b :: rest) pos) g) : QW X W (.BoolOp .Or (a :: b :: rest) pos) (xOr f g) := PW.weak (pw_or ha hb) or_read
theorem qt_w {e : Expr} {f : XT} (h : QW X W e f) : QT X W e f := PW.pt h
theorem qt_not {a : Expr} {pos : Pos} {f : XT} (h : QT X W a f) : QT X W (.UnaryOp .Not a pos) (xNot f) := by
  refine PT.weak (pt_not h) ?_
  rintro σ H Q ⟨N, a, ρ, ⟨rfl, sr, en⟩, h⟩
  refine ⟨N, a, ρ, ⟨rfl, sr, en⟩, (Post.bind_out (rel := RelB) h).mono ?_⟩
  rintro v H1 ⟨b, m, rfl, x, sb, rm, h1⟩
  cases rm
  exact h1 b _ rfl (.refl b) sb rfl
/-- and, or, not as values, by truth -/
def eAnd (fa fb : XE) : XE := fun ρ S => (fa ρ S).bind fun x S1 => match tru S1 x with
  | some true => fb ρ S1
  | some false => .ok x S1
  | none => .stuck
def eOr (fa fb : XE) : XE := fun ρ S => (fa ρ S).bind fun x S1 => match tru S1 x with
  | some false => fb ρ S1
  | some true => .ok x S1
  | none => .stuck
def eNot (fa : XE) : XE := fun ρ S => (fa ρ S).bind fun x S1 => match tru S1 x with
  | some b => .ok (.val (.bl (!b))) S1
  | none => .stuck
theorem qe_one {a : Expr} {op : BoolOp} {pos : Pos} {f : XE} (h : QE X W a f) : QE X W (.BoolOp op [a] pos) f := pe_one h
theorem qe_or {a b : Expr} {rest : List Expr} {pos : Pos} {f g : XE} (ha : QE X W a f) (hb : QE X W (.BoolOp .Or (b :: rest) pos) g) : QE X W (.BoolOp .Or (a :: b :: rest) pos) (eOr f g) := by
  refine PE.weak (pe_orT ha hb) ?_
  rintro σ H Q ⟨N, a, ρ, ⟨rfl, sr, en⟩, h⟩
  refine ⟨N, a, ρ, ⟨rfl, sr, en⟩, (Post.bind_out (rel := MR X.K X.mg N) h).mono ?_⟩
  rintro v H1 ⟨b, m, rfl, x, sb, rm, h1⟩
  split at h1
  · rename_i e
    exact ⟨false, tru_ok' sb rm e, iteF ⟨N, b, ρ, ⟨rfl, sb, en.ext x⟩, h1⟩⟩
  · rename_i e
    exact ⟨true, tru_ok' sb rm e, iteT (Post.okm sb h1 rm)⟩
  · exact h1.elim
theorem qe_and {a b : Expr} {rest : List Expr} {pos : Pos} {f g : XE} (ha : QE X W a f) (hb : QE X W (.BoolOp .And (b :: rest) pos) g) : QE X W (.BoolOp .And (a :: b :: rest) pos) (eAnd f g) := by
  refine PE.weak (pe_andT ha hb) ?_
  rintro σ H Q ⟨N, a, ρ, ⟨rfl, sr, en⟩, h⟩
  refine ⟨N, a, ρ, ⟨rfl, sr, en⟩, (Post.bind_out (rel := MR X.K X.mg N) h).mono ?_⟩
  rintro v H1 ⟨b, m, rfl, x, sb, rm, h1⟩
  split at h1
  · rename_i e
    exact ⟨true, tru_ok' sb rm e, iteT ⟨N, b, ρ, ⟨rfl, sb, en.ext x⟩, h1⟩⟩
  · rename_i e
    exact ⟨false, tru_ok' sb rm e, iteF (Post.okm sb h1 rm)⟩
  · exact h1.elim
theorem qe_not {a : Expr} {pos : Pos} {f : XE} (ha : QE X W a f) : QE X W (.UnaryOp .Not a pos) (eNot f) := by
  refine PE.weak (pe_notT ha) ?_
  rintro σ H Q ⟨N, a, ρ, ⟨rfl, sr, en⟩, h⟩
  refine ⟨N, a, ρ, ⟨rfl, sr, en⟩, (Post.bind_out (rel := MR X.K X.mg N) h).mono ?_⟩
  rintro v H1 ⟨b, m, rfl, x, sb, rm, h1⟩
  split at h1
  · rename_i k e
    exact ⟨k, tru_ok' sb rm e, Post.okv sb h1 .bl⟩
  · exact h1.elim
def eIf (t : XT) (fa fb : XE) : XE := fun ρ S => (t ρ S).bind fun b S1 => match b with
  | true => fa ρ S1
  | false => fb ρ S1
theorem qe_if {c a b : Expr} {pos : Pos} {t : XT} {f g : XE} (hc : QT X W c t) (ha : QE X W a f) (hb : QE X W b g) : QE X W (.IfExp c a b pos) (eIf t f g) := by
  refine PE.weak (pe_ifExp hc ha hb) ?_
  rintro σ H Q ⟨N, a, ρ, ⟨rfl, sr, en⟩, h⟩
  refine ⟨N, a, ρ, ⟨rfl, sr, en⟩, (Post.bind_out (rel := RelB) h).mono ?_⟩
  rintro v H1 ⟨b, m, rfl, x, sb, rm, h1⟩
  cases rm
  cases v with
  | true => exact iteT ⟨N, b, ρ, ⟨rfl, sb, en.ext x⟩, h1⟩
  | false => exact iteF ⟨N, b, ρ, ⟨rfl, sb, en.ext x⟩, h1⟩

/-! ### arguments, displays -/
def aNil : XA := fun _ S => .ok [] S
def aCons (f : XE) (g : XA) : XA := fun ρ S => (f ρ S).bind fun x S1 => (g ρ S1).bind fun xs S2 => .ok (x :: xs) S2
theorem qa_nil : QA X W [] aNil := by
  refine PA.weak pa_nil ?_
  rintro σ H Q ⟨N, a, ρ, ⟨rfl, sr, en⟩, h⟩
  exact h a [] rfl (.refl a) sr .nil
theorem qa_cons {e : Expr} {es : List Expr} {f : XE} {g : XA} (ha : QE X W e f) (hr : QA X W es g) (hs : starEach (e :: es) X.env = (false, eval e X.env) :: starEach es X.env := by rfl) : QA X W (e :: es) (aCons f g) := by
  refine PA.weak (pa_cons ha hr hs) ?_
  rintro σ H Q ⟨N, a, ρ, ⟨rfl, sr, en⟩, h⟩
  refine ⟨N, a, ρ, ⟨rfl, sr, en⟩, (Post.bind_out (rel := MR X.K X.mg N) h).mono ?_⟩
  rintro v H1 ⟨b, m, rfl, x, sb, rm, h1⟩
  refine ⟨N, b, ρ, ⟨rfl, sb, en.ext x⟩, (Post.bind_out (rel := RelA X.K X.mg N) h1).mono ?_⟩
  rintro ws H2 ⟨c, ms, rfl, y, sc, rms, h2⟩
  exact h2 c _ rfl (.refl c) sc (.cons (rm.ext y) rms)
/-- all plain -/
def vals : List Mv → Option (List Dv)
  | [] => some []
  | .val d :: ms => (vals ms).map (d :: ·)
  | .loc _ :: _ => none
@[simp] theorem vals_nil : vals [] = some [] := rfl
@[simp] theorem vals_cons (d : Dv) (ms : List Mv) : vals (.val d :: ms) = (vals ms).map (d :: ·) := rfl
@[simp] theorem vals_map (ds : List Dv) : vals (ds.map .val) = some ds := by
  induction ds with
  | nil => rfl
  | cons d ds ih => simp [ih]
theorem vals_some : ∀ {ms : List Mv} {ds : List Dv}, vals ms = some ds → ms = ds.map .val
  | [], _, h => by cases h; rfl
  | .val d :: ms, ds, h => by
    cases q : vals ms with
    | none => rw [vals_cons, q] at h; cases h
    | some es =>
      rw [vals_cons, q] at h
      cases h
      rw [vals_some q]; rfl
  | .loc _ :: _, _, h => by cases h
theorem paired_len {α β : Type} {F : α → β → Prop} : ∀ {xs : List α} {ys : List β}, Paired F xs ys → xs.length = ys.length
  | _, _, .nil => rfl
  | _, _, .cons _ t => congrArg (· + 1) (paired_len t)
/-- a new tuple, by value -/
def mkTup (ms : List Mv) (S : Sto) : Rz Mv := match vals ms with
  | some ds => if ds.length ≤ sizeLine then .ok (.val (.tup ds)) S else .stuck
  | none => .stuck
/-- a new list that is never changed, by value -/
def mkLst (ms : List Mv) (S : Sto) : Rz Mv := match vals ms with
  | some ds => if ds.length ≤ sizeLine then .ok (.val (.lst ds)) S else .stuck
  | none => .stuck
/-- a new list in the store -/
def mkLoc (ms : List Mv) (S : Sto) : Rz Mv := if ms.length ≤ sizeLine then .ok (.loc S.length) (S ++ [.lst ms]) else .stuck
section
variable {K : PySem.W.Frag} {mg : Str → Option Value} {N : Addr → Prop}
theorem mkTup_ok {a : S3} {ms : List Mv} {ws : List V} {W : XK} {Q : VK} (sr : SR K mg N a) (r : Paired (MR K mg N a) ms ws) (h : Post (MR K mg N) K mg N a W Q (mkTup ms a.S)) : ws.length ≤ sizeLine ∧ ∀ p, a.H p = none → Q (.ref p) (upd a.H p (.tup ws)) := by
  unfold mkTup at h
  split at h
  · rename_i ds e
    rw [vals_some e] at r
    split at h
    · rename_i hl
      have rs := paired_vals r
      refine ⟨by rw [← rs.length]; exact hl, fun p hp => ?_⟩
      obtain ⟨ex, sr', fz⟩ := laid (o := .tup ws) sr hp
      exact h ⟨a.i, a.S, upd a.H p (.tup ws)⟩ (.ref p) rfl ex sr' (VR.tup (SqT.of fz) (rs.mono ex.fz))
    · exact h.elim
  · exact h.elim
theorem mkLst_ok {a : S3} {ms : List Mv} {ws : List V} {W : XK} {Q : VK} (sr : SR K mg N a) (r : Paired (MR K mg N a) ms ws) (h : Post (MR K mg N) K mg N a W Q (mkLst ms a.S)) : ws.length ≤ sizeLine ∧ ∀ p, a.H p = none → Q (.ref p) (upd a.H p (.lst ws)) := by
  unfold mkLst at h
  split at h
  · rename_i ds e
    rw [vals_some e] at r
    split at h
    · rename_i hl
      have rs := paired_vals r
      refine ⟨by rw [← rs.length]; exact hl, fun p hp => ?_⟩
      obtain ⟨ex, sr', fz⟩ := laid (o := .lst ws) sr hp
      exact h ⟨a.i, a.S, upd a.H p (.lst ws)⟩ (.ref p) rfl ex sr' (VR.lst (SqL.of fz) (rs.mono ex.fz))
    · exact h.elim
  · exact h.elim
theorem mkLoc_ok {a : S3} {ms : List Mv} {ws : List V} {W : XK} {Q : VK} (sr : SR K mg N a) (r : Paired (MR K mg N a) ms ws) (h : Post (MR K mg N) K mg N a W Q (mkLoc ms a.S)) : ws.length ≤ sizeLine ∧ ∀ p, a.H p = none → Q (.ref p) (upd a.H p (.lst ws)) := by
  unfold mkLoc at h
  split at h
  · rename_i hl
    refine ⟨by rw [← paired_len r]; exact hl, fun p hp => ?_⟩
    obtain ⟨ex, sr'⟩ := placed (o := .lst ws) (ob := .lst ms) sr hp fun b x q => ⟨ws, q, MRs.ext x r⟩
    exact h ⟨put a.i a.S.length p, a.S ++ [.lst ms], upd a.H p (.lst ws)⟩ (.ref p) rfl ex sr' ⟨by simp, by show V.ref p = V.ref (put a.i a.S.length p a.S.length); rw [put_at]⟩
  · exact h.elim
end
def eMk (F : List Mv → Sto → Rz Mv) (g : XA) : XE := fun ρ S => (g ρ S).bind F
def MkOk (K : PySem.W.Frag) (mg : Str → Option Value) (r : List V → Hp → VK → Prop) (F : List Mv → Sto → Rz Mv) : Prop :=
  ∀ (N : Addr → Prop) (a : S3) (xs : List Mv) (vs : List V) (W : XK) (Q : VK), SR K mg N a → Paired (MR K mg N a) xs vs → Post (MR K mg N) K mg N a W Q (F xs a.S) → r vs a.H Q
theorem mk_read {K : PySem.W.Frag} {mg : Str → Option Value} {r : List V → Hp → VK → Prop} {F : List Mv → Sto → Rz Mv} {g : XA} (hr : MkOk K mg r F) (σ : St) (H : Hp) (Q : VK) (h : IE K mg W (eMk F g) σ H Q) : IA K mg W g σ H (fun vs H1 => r vs H1 Q) := by
  obtain ⟨N, a, ρ, ⟨rfl, sr, en⟩, h⟩ := h
  refine ⟨N, a, ρ, ⟨rfl, sr, en⟩, (Post.bind_out (rel := RelA K mg N) h).mono ?_⟩
  rintro v H1 ⟨b, m, rfl, x, sb, rm, h1⟩
  exact hr N b m v _ Q sb rm h1
theorem qe_tup {es : List Expr} {x1} {pos : Pos} {g : XA} (h : QA X W es g) : QE X W (.Tuple es x1 pos) (eMk mkTup g) := PE.weak (pe_tup h) (mk_read fun _ _ _ _ _ _ => mkTup_ok)
theorem qe_lst {es : List Expr} {pos : Pos} {g : XA} (h : QA X W es g) : QE X W (.List es pos) (eMk mkLst g) := PE.weak (pe_lst h) (mk_read fun _ _ _ _ _ _ => mkLst_ok)
theorem qe_lstN {es : List Expr} {pos : Pos} {g : XA} (h : QA X W es g) : QE X W (.List es pos) (eMk mkLoc g) := PE.weak (pe_lst h) (mk_read fun _ _ _ _ _ _ => mkLoc_ok)
/-! ### calls of built-ins -/
theorem qe_callB {id : String} {x : Str} {p pos : Pos} {e : Expr} {es : List Expr} {g : XA} {r : List V → Hp → VK → Prop} {F : List Mv → Sto → Rz Mv} (hc : CallR X (.builtin id) r ∧ MkOk X.K X.mg r F) (hm : X.mg x = none) (ha : QA X W (e :: es) g) (hg : Gl X x := by rfl) (hv : bootBuiltins x = some (.builtin id) := by decide +kernel)
    (hn : x ≠ "__name__" := by decide) (hdb : (x == ("__debug__" : Str)) = false := by decide)
    (he : starEach (e :: es) X.env = (false, eval e X.env) :: starEach es X.env := by rfl) (hpl : (backTo pos (starEach es X.env)).any (·.1) = false := by rfl) : QE X W (.Call (.Name x p) (e :: es) [] pos) (eMk F g) :=
  PE.weak (pe_callB hc.1 hg hm hv ha hn hdb he hpl) (mk_read hc.2)
theorem qe_callTy {T : String} {x : Str} {p pos : Pos} {e : Expr} {es : List Expr} {g : XA} {r : List V → Hp → VK → Prop} {F : List Mv → Sto → Rz Mv} (hc : CallR X (.type T) r ∧ MkOk X.K X.mg r F) (hm : X.mg x = none) (ha : QA X W (e :: es) g) (hg : Gl X x := by rfl) (hv : bootBuiltins x = some (.type T) := by decide +kernel)
    (hn : x ≠ "__name__" := by decide) (hdb : (x == ("__debug__" : Str)) = false := by decide)
    (he : starEach (e :: es) X.env = (false, eval e X.env) :: starEach es X.env := by rfl) (hpl : (backTo pos (starEach es X.env)).any (·.1) = false := by rfl) : QE X W (.Call (.Name x p) (e :: es) [] pos) (eMk F g) :=
  PE.weak (pe_callTy hc.1 hg hm hv ha hn hdb he hpl) (mk_read hc.2)
/-! ### methods of built-in types -/
def eBm0 (F : Mv → List Mv → Sto → Rz Mv) (f : XE) : XE := fun ρ S => (f ρ S).bind fun x S1 => F x [] S1
def eBm (F : Mv → List Mv → Sto → Rz Mv) (T : Sto → Mv → Bool) (f : XE) (g : XA) : XE := fun ρ S => (f ρ S).bind fun x S1 => if T S1 x then (g ρ S1).bind fun xs S2 => F x xs S2 else .stuck
def MtOk (K : PySem.W.Frag) (mg : Str → Option Value) (r : V → List V → Hp → VK → Prop) (F : Mv → List Mv → Sto → Rz Mv) : Prop :=
  ∀ (N : Addr → Prop) (a : S3) (x : Mv) (v : V) (xs : List Mv) (vs : List V) (W : XK) (Q : VK), SR K mg N a → MR K mg N a x v → Paired (MR K mg N a) xs vs → Post (MR K mg N) K mg N a W Q (F x xs a.S) → r v vs a.H Q
/-- is it of the built-in type T (so that T's method is found) -/
def isStr (_ : Sto) : Mv → Bool
  | .val (.str _) => true
  | _ => false
def isLst (S : Sto) : Mv → Bool
  | .val (.lst _) => true
  | .loc k => match S[k]? with
    | some (.lst _) => true
    | _ => false
  | _ => false
def isDic (S : Sto) : Mv → Bool
  | .loc k => match S[k]? with
    | some (.dK _) => true
    | some (.dT _) => true
    | _ => false
  | _ => false
def TyOk (K : PySem.W.Frag) (mg : Str → Option Value) (T : String) (f : Sto → Mv → Bool) : Prop := ∀ (N : Addr → Prop) (a : S3) (x : Mv) (v : V), SR K mg N a → MR K mg N a x v → f a.S x = true → tyV K T v a.H
theorem ty_str {K : PySem.W.Frag} {mg : Str → Option Value} : TyOk K mg "str" isStr := by
  intro N a x v sr r h
  cases x with
  | loc k => cases h
  | val d =>
    cases d with
    | str x => cases r; rfl
    | _ => cases h
theorem ty_lst {K : PySem.W.Frag} {mg : Str → Option Value} : TyOk K mg "list" isLst := by
  intro N a x v sr r h
  cases x with
  | loc k =>
    obtain ⟨hk, rfl⟩ := r
    replace h : (match a.S[k]? with | some (.lst _) => true | _ => false) = true := h
    split at h
    · rename_i ms e
      obtain ⟨ws, h, _⟩ := sr.at_ k _ e
      exact .inl ⟨rfl, ws, .of h⟩
    · cases h
  | val d =>
    cases d with
    | lst x =>
      obtain ⟨p, ws, rfl, h, _⟩ := MR.lst r
      exact .inl ⟨rfl, ws, h⟩
    | _ => cases h
theorem ty_dic {K : PySem.W.Frag} {mg : Str → Option Value} : TyOk K mg "dict" isDic := by
  intro N a x v sr r h
  cases x with
  | loc k =>
    obtain ⟨hk, rfl⟩ := r
    replace h : (match a.S[k]? with | some (.dK _) => true | some (.dT _) => true | _ => false) = true := h
    split at h
    · rename_i ms e
      obtain ⟨ws, h, _⟩ := sr.at_ k _ e
      exact .inr (.inr (.inl ⟨rfl, .inl ⟨ws, h⟩⟩))
    · rename_i ms e
      obtain ⟨ws, h, _⟩ := sr.at_ k _ e
      exact .inr (.inr (.inl ⟨rfl, .inr ⟨ws, h⟩⟩))
    · cases h
  | val d => cases h
theorem qe_bm {name : Str} {T id : String} {o e : Expr} {es : List Expr} {apos cpos : Pos} {f : XE} {g : XA} {r : V → List V → Hp → VK → Prop} {F : Mv → List Mv → Sto → Rz Mv} {ty : Sto → Mv → Bool} (pa : PlainAttrs T) (slot : Slot T name id) (hty : typeOf (.builtin id) = pure (.type "method_descriptor"))
    (hm : MtR X id r ∧ MtOk X.K X.mg r F) (tk : TyOk X.K X.mg T ty) (ho : QE X W o f) (ha : QA X W (e :: es) g)
    (hbase : attributeBase o name X.env (eval o X.env) = eval o X.env := by rfl)
    (hfew : ((backTo cpos (starEach (e :: es) X.env)).all (fun x => !x.1) && (backToKw cpos (keywordEach [] X.env)).all (fun x => x.1.isSome)
      && decide ((e :: es).length + ([] : List Keyword).length + (if ([] : List Keyword).isEmpty then 0 else 1) < 30)) = true := by rfl)
    (hline : (apos.endLine == cpos.line) = true := by rfl) (hs : starEach (e :: es) X.env = (false, eval e X.env) :: starEach es X.env := by rfl) (hplain : (backTo cpos (starEach es X.env)).any (·.1) = false := by rfl) :
    QE X W (.Call (.Attribute o name apos) (e :: es) [] cpos) (eBm F ty f g) := by
  refine PE.weak (pe_bm pa slot hty hm.1 ho ha hbase hfew hline hs hplain) ?_
  rintro σ H Q ⟨N, a, ρ, ⟨rfl, sr, en⟩, h⟩
  refine ⟨N, a, ρ, ⟨rfl, sr, en⟩, (Post.bind_out (rel := MR X.K X.mg N) h).mono ?_⟩
  rintro v H1 ⟨b, m, rfl, x, sb, rm, h1⟩
  split at h1
  · rename_i ht
    refine ⟨tk N b m v sb rm ht, N, b, ρ, ⟨rfl, sb, en.ext x⟩, (Post.bind_out (rel := RelA X.K X.mg N) h1).mono ?_⟩
    rintro ws H2 ⟨c, ms, rfl, y, sc, rms, h2⟩
    exact hm.2 N c m v ms ws _ Q sc (rm.ext y) rms h2
  · exact h1.elim
def eBmN (F : Mv → List Mv → Sto → Rz Mv) (T : Sto → Mv → Bool) (f : XE) : XE := fun ρ S => (f ρ S).bind fun x S1 => if T S1 x then F x [] S1 else .stuck
theorem qe_bm0 {name : Str} {T id : String} {o : Expr} {apos cpos : Pos} {f : XE} {r : V → List V → Hp → VK → Prop} {F : Mv → List Mv → Sto → Rz Mv} {ty : Sto → Mv → Bool} (pa : PlainAttrs T) (slot : Slot T name id) (hty : typeOf (.builtin id) = pure (.type "method_descriptor"))
    (hm : MtR X id r ∧ MtOk X.K X.mg r F) (tk : TyOk X.K X.mg T ty) (ho : QE X W o f)
    (hbase : attributeBase o name X.env (eval o X.env) = eval o X.env := by rfl) (hline : (apos.endLine == cpos.line) = true := by rfl) : QE X W (.Call (.Attribute o name apos) [] [] cpos) (eBmN F ty f) := by
  refine PE.weak (pe_bm0 pa slot hty hm.1 ho hbase hline) ?_
  rintro σ H Q ⟨N, a, ρ, ⟨rfl, sr, en⟩, h⟩
  refine ⟨N, a, ρ, ⟨rfl, sr, en⟩, (Post.bind_out (rel := MR X.K X.mg N) h).mono ?_⟩
  rintro v H1 ⟨b, m, rfl, x, sb, rm, h1⟩
  split at h1
  · rename_i ht
    exact ⟨tk N b m v sb rm ht, hm.2 N b m v [] [] _ Q sb rm .nil h1⟩
  · exact h1.elim
end
end MK

/-! MK, part 3: statements, loops. -/
namespace MK
open PySem L2
def Rz.thn {α : Type} (x : Rz α) (ρ : List (Option Mv)) (k : α → Sto → RS) : RS := match x with
  | .ok a S => k a S
  | .exn e S => .exn e ρ S
  | .stuck => .stuck
@[simp] theorem Rz.thn_ok {α : Type} (a : α) (S : Sto) (ρ : List (Option Mv)) (k : α → Sto → RS) : (Rz.ok a S).thn ρ k = k a S := rfl
@[simp] theorem Rz.thn_exn {α : Type} (e : Exn) (S : Sto) (ρ : List (Option Mv)) (k : α → Sto → RS) : (Rz.exn e S : Rz α).thn ρ k = .exn e ρ S := rfl
@[simp] theorem Rz.thn_stuck {α : Type} (ρ : List (Option Mv)) (k : α → Sto → RS) : (Rz.stuck : Rz α).thn ρ k = .stuck := rfl
def RS.seq (x : RS) (k : List (Option Mv) → Sto → RS) : RS := match x with
  | .nx ρ S => k ρ S
  | r => r
@[simp] theorem RS.seq_nx (ρ : List (Option Mv)) (S : Sto) (k) : (RS.nx ρ S).seq k = k ρ S := rfl
@[simp] theorem RS.seq_ret (m : Mv) (S : Sto) (k) : (RS.ret m S).seq k = .ret m S := rfl
@[simp] theorem RS.seq_brk (ρ : List (Option Mv)) (S : Sto) (k) : (RS.brk ρ S).seq k = .brk ρ S := rfl
@[simp] theorem RS.seq_cnt (ρ : List (Option Mv)) (S : Sto) (k) : (RS.cnt ρ S).seq k = .cnt ρ S := rfl
@[simp] theorem RS.seq_exn (e : Exn) (ρ : List (Option Mv)) (S : Sto) (k) : (RS.exn e ρ S).seq k = .exn e ρ S := rfl
@[simp] theorem RS.seq_stuck (k) : RS.stuck.seq k = .stuck := rfl
/-- a turn of a loop: what follows is k -/
def RS.turn (x : RS) (k : List (Option Mv) → Sto → RS) : RS := match x with
  | .nx ρ S => k ρ S
  | .cnt ρ S => k ρ S
  | .brk ρ S => .nx ρ S
  | r => r
@[simp] theorem RS.turn_nx (ρ : List (Option Mv)) (S : Sto) (k) : (RS.nx ρ S).turn k = k ρ S := rfl
@[simp] theorem RS.turn_cnt (ρ : List (Option Mv)) (S : Sto) (k) : (RS.cnt ρ S).turn k = k ρ S := rfl
@[simp] theorem RS.turn_brk (ρ : List (Option Mv)) (S : Sto) (k) : (RS.brk ρ S).turn k = .nx ρ S := rfl
@[simp] theorem RS.turn_ret (m : Mv) (S : Sto) (k) : (RS.ret m S).turn k = .ret m S := rfl
@[simp] theorem RS.turn_exn (e : Exn) (ρ : List (Option Mv)) (S : Sto) (k) : (RS.exn e ρ S).turn k = .exn e ρ S := rfl
@[simp] theorem RS.turn_stuck (k) : RS.stuck.turn k = .stuck := rfl
section
variable {K : PySem.W.Frag} {mg : Str → Option Value} {N : Addr → Prop}
theorem PostS.thn_out {α β : Type} {rel : S3 → α → β → Prop} {a : S3} {W : WX} {D : Ends} {x : Rz α} {ρ : List (Option Mv)} {σ : St} {k : α → Sto → RS} (en : EnvR K mg N a ρ σ) (h : PostS K mg N a W D (x.thn ρ k)) :
    Post rel K mg N a (fun c d H' => W c d σ H') (fun v H1 => ∃ b m, b.H = H1 ∧ Ext a b ∧ SR K mg N b ∧ rel b m v ∧ PostS K mg N b W D (k m b.S)) x := by
  cases x with
  | ok m S' => exact fun b v e y s r => ⟨b, m, rfl, y, s, r, by rw [e]; exact h.from_ y⟩
  | exn e S' => exact fun b cls d e y s q => h b σ cls d e y s (en.ext y) q
  | stuck => exact h
theorem PostS.seq_out {a : S3} {W : WX} {D : Ends} {x : RS} {k : List (Option Mv) → Sto → RS} (h : PostS K mg N a W D (x.seq k)) :
    PostS K mg N a W { D with nx := fun σ' H' => ∃ b ρ', Rd3 K mg N b ρ' σ' H' ∧ Ext a b ∧ PostS K mg N b W D (k ρ' b.S) } x := by
  cases x with
  | nx ρ S' => exact fun b σ' e y s en => ⟨b, ρ, ⟨rfl, s, en⟩, y, by rw [e]; exact h.from_ y⟩
  | brk ρ S' => exact h
  | cnt ρ S' => exact h
  | ret m S' => exact h
  | exn e ρ S' => exact h
  | stuck => exact h
theorem PostS.turn_out {a : S3} {W : WX} {D : Ends} {x : RS} {k : List (Option Mv) → Sto → RS} (h : PostS K mg N a W D (x.turn k)) :
    PostS K mg N a W { D with nx := fun σ' H' => ∃ b ρ', Rd3 K mg N b ρ' σ' H' ∧ Ext a b ∧ PostS K mg N b W D (k ρ' b.S), ct := fun σ' H' => ∃ b ρ', Rd3 K mg N b ρ' σ' H' ∧ Ext a b ∧ PostS K mg N b W D (k ρ' b.S), bk := D.nx } x := by
  cases x with
  | nx ρ S' => exact fun b σ' e y s en => ⟨b, ρ, ⟨rfl, s, en⟩, y, by rw [e]; exact h.from_ y⟩
  | cnt ρ S' => exact fun b σ' e y s en => ⟨b, ρ, ⟨rfl, s, en⟩, y, by rw [e]; exact h.from_ y⟩
  | brk ρ S' => exact h
  | ret m S' => exact h
  | exn e ρ S' => exact h
  | stuck => exact h
/-- what is wanted may be weakened -/
theorem PostS.mono {a : S3} {W : WX} {D D' : Ends} {x : RS} (h : PostS K mg N a W D x) (n : ∀ σ H, D.nx σ H → D'.nx σ H) (b : ∀ σ H, D.bk σ H → D'.bk σ H) (c : ∀ σ H, D.ct σ H → D'.ct σ H) (r : ∀ v H, D.rt v H → D'.rt v H) : PostS K mg N a W D' x := by
  cases x with
  | nx ρ S' => exact fun b σ' e y s en => n _ _ (h b σ' e y s en)
  | brk ρ S' => exact fun c σ' e y s en => b _ _ (h c σ' e y s en)
  | cnt ρ S' => exact fun b σ' e y s en => c _ _ (h b σ' e y s en)
  | ret m S' => exact fun b v e y s q => r _ _ (h b v e y s q)
  | exn e ρ S' => exact h
  | stuck => exact h
end
section
variable {X : Cx} {W : WX}
def sSeq (g h : XS) : XS := fun ρ S => (g ρ S).seq h
def sNil : XS := fun ρ S => .nx ρ S
theorem qss_nil : QSs X W [] sNil := by
  refine PSs.weak pss_nil ?_
  rintro D σ H ⟨N, a, ρ, ⟨rfl, sr, en⟩, h⟩
  exact h a σ rfl (.refl a) sr en
theorem qss_cons {st : Stmt} {rest : List Stmt} {g h : XS} (h1 : QS X W st g) (h2 : QSs X W rest h) : QSs X W (st :: rest) (sSeq g h) := by
  refine PSs.weak (pss_cons h1 h2) ?_
  rintro D σ H ⟨N, a, ρ, ⟨rfl, sr, en⟩, h⟩
  refine ⟨N, a, ρ, ⟨rfl, sr, en⟩, (PostS.seq_out h).mono ?_ (fun _ _ h => h) (fun _ _ h => h) (fun _ _ h => h)⟩
  rintro σ' H' ⟨b, ρ', r, x, p⟩
  exact ⟨N, b, ρ', r, p⟩
theorem qss_one {st : Stmt} {g : XS} (h : QS X W st g) : QSs X W [st] g := pss_one h
def sNever : XS := fun _ _ => .stuck
theorem qs_never {st : Stmt} : QS X W st sNever := PS.weak ps_never fun D σ H ⟨_, _, _, _, h⟩ => h.elim
theorem qss_never {sts : List Stmt} : QSs X W sts sNever := PSs.weak pss_never fun D σ H ⟨_, _, _, _, h⟩ => h.elim
theorem qs_pass {pos : Pos} : QS X W (.Pass pos) sNil := by
  refine PS.weak ps_pass ?_
  rintro D σ H ⟨N, a, ρ, ⟨rfl, sr, en⟩, h⟩
  exact h a σ rfl (.refl a) sr en
def sCont : XS := fun ρ S => .cnt ρ S
theorem qs_continue {pos : Pos} : QS X W (.Continue pos) sCont := by
  refine PS.weak ps_continue ?_
  rintro D σ H ⟨N, a, ρ, ⟨rfl, sr, en⟩, h⟩
  exact h a σ rfl (.refl a) sr en
def sBrk : XS := fun ρ S => .brk ρ S
theorem qs_break {pos : Pos} : QS X W (.Break pos) sBrk := by
  refine PS.weak ps_break ?_
  rintro D σ H ⟨N, a, ρ, ⟨rfl, sr, en⟩, h⟩
  exact h a σ rfl (.refl a) sr en
def sRet (f : XE) : XS := fun ρ S => (f ρ S).thn ρ fun m S1 => .ret m S1
theorem qs_ret {e : Expr} {pos : Pos} {f : XE} (he : QE X W e f) : QS X W (.Return (some e) pos) (sRet f) := by
  refine PS.weak (ps_ret he) ?_
  rintro D σ H ⟨N, a, ρ, ⟨rfl, sr, en⟩, h⟩
  refine ⟨N, a, ρ, ⟨rfl, sr, en⟩, (PostS.thn_out (rel := MR X.K X.mg N) en h).mono ?_⟩
  rintro v H1 ⟨b, m, rfl, x, sb, r, h1⟩
  exact h1 b v rfl (.refl b) sb r
def sRetN : XS := fun _ S => .ret (.val .non) S
theorem qs_retN {pos : Pos} : QS X W (.Return none pos) sRetN := by
  refine PS.weak ps_retN ?_
  rintro D σ H ⟨N, a, ρ, ⟨rfl, sr, en⟩, h⟩
  exact h a .non rfl (.refl a) sr VR.non
def sExpr (f : XE) : XS := fun ρ S => (f ρ S).thn ρ fun _ S1 => .nx ρ S1
theorem qs_expr {e : Expr} {pos : Pos} {f : XE} (he : QE X W e f) (hs : swapsWith e none pos.line X.env = pure false := by rfl) : QS X W (.Expr e pos) (sExpr f) := by
  refine PS.weak (ps_expr he hs) ?_
  rintro D σ H ⟨N, a, ρ, ⟨rfl, sr, en⟩, h⟩
  refine ⟨N, a, ρ, ⟨rfl, sr, en⟩, (PostS.thn_out (rel := MR X.K X.mg N) en h).mono ?_⟩
  rintro v H1 ⟨b, m, rfl, x, sb, r, h1⟩
  exact h1 b σ rfl (.refl b) sb (en.ext x)
theorem qs_doc {x j pos pos'} : QS X W (.Expr (.Constant (.str x) j pos) pos') sNil := by
  refine PS.weak ps_doc ?_
  rintro D σ H ⟨N, a, ρ, ⟨rfl, sr, en⟩, h⟩
  exact h a σ rfl (.refl a) sr en
def sIf (t : XT) (g h : XS) : XS := fun ρ S => (t ρ S).thn ρ fun b S1 => match b with
  | true => g ρ S1
  | false => h ρ S1
theorem qs_if {c : Expr} {a b : List Stmt} {pos : Pos} {t : XT} {g h : XS} (hc : QT X W c t) (ha : QSs X W a g) (hb : QSs X W b h) : QS X W (.If c a b pos) (sIf t g h) := by
  refine PS.weak (ps_if hc ha hb) ?_
  rintro D σ H ⟨N, a, ρ, ⟨rfl, sr, en⟩, h⟩
  refine ⟨N, a, ρ, ⟨rfl, sr, en⟩, (PostS.thn_out (rel := RelB) en h).mono ?_⟩
  rintro v H1 ⟨b, m, rfl, x, sb, r, h1⟩
  cases r
  cases v with
  | true => exact iteT ⟨N, b, ρ, ⟨rfl, sb, en.ext x⟩, h1⟩
  | false => exact iteF ⟨N, b, ρ, ⟨rfl, sb, en.ext x⟩, h1⟩

/-! ### targets -/
abbrev XG := Mv → XS
def IG (K : PySem.W.Frag) (mg : Str → Option Value) (W : WX) (t : XG) : TG := fun v σ H Q => ∃ N a ρ m, Rd3 K mg N a ρ σ H ∧ MR K mg N a m v ∧ PostS K mg N a W { nx := Q, rt := fun _ _ => False } (t m ρ a.S)
abbrev QG (X : Cx) (W : WX) (e : Expr) (t : XG) : Prop := PG X e (IG X.K X.mg W t)
theorem PG.weak {X : Cx} {e : Expr} {t u : TG} (h : PG X e t) (w : ∀ v σ H Q, u v σ H Q → t v σ H Q) : PG X e u := ⟨fun pins s σ H v u Q I r q => h.run pins s σ H v u Q I r (w _ _ _ _ q)⟩
def tgName (i : Nat) : XG := fun m ρ S => .nx (ρ.set i (some m)) S
theorem qg_name {i : Nat} {x : Str} {pos : Pos} (hN : X.N.Nodup) (hi : X.N[i]? = some x := by rfl) (hx : Loc X.env.scope x := by first | exact .inl rfl | exact .inr rfl) (hf : X.fn x = true ∨ X.env.scope.names.lookup x = some .local := by first | exact .inl rfl | exact .inr rfl) : QG X W (.Name x pos) (tgName i) := by
  refine PG.weak (pg_name hN hi hx hf) ?_
  rintro v σ H Q ⟨N, a, ρ, m, ⟨rfl, sr, en⟩, r, h⟩
  exact h a _ rfl (.refl a) sr (en.set i r)
def IGs (K : PySem.W.Frag) (mg : Str → Option Value) (W : WX) (t : List Mv → XS) : TGs := fun v σ H Q => ∃ N a ρ m, Rd3 K mg N a ρ σ H ∧ Paired (MR K mg N a) m v ∧ PostS K mg N a W { nx := Q, rt := fun _ _ => False } (t m ρ a.S)
theorem PGs.weak {X : Cx} {e : List Expr} {t u : TGs} (h : PGs X e t) (w : ∀ v σ H Q, u v σ H Q → t v σ H Q) : PGs X e u := ⟨fun pins s σ H v u Q I r q => h.run pins s σ H v u Q I r (w _ _ _ _ q)⟩
def tgsNil : List Mv → XS := fun ms ρ S => match ms with
  | [] => .nx ρ S
  | _ => .stuck
def tgsCons (t : XG) (u : List Mv → XS) : List Mv → XS := fun ms ρ S => match ms with
  | m :: r => (t m ρ S).seq fun ρ1 S1 => u r ρ1 S1
  | _ => .stuck
theorem qgs_nil : PGs X [] (IGs X.K X.mg W tgsNil) := by
  refine PGs.weak pgs_nil ?_
  rintro v σ H Q ⟨N, a, ρ, m, ⟨rfl, sr, en⟩, r, h⟩
  cases r with
  | nil => exact ⟨rfl, h a _ rfl (.refl a) sr en⟩
  | cons _ _ => exact h.elim
theorem qgs_cons {e : Expr} {es : List Expr} {t : XG} {u : List Mv → XS} (h1 : QG X W e t) (h2 : PGs X es (IGs X.K X.mg W u)) (hs : (assignEach (e :: es) X.env).map (·.2) = assign e X.env :: (assignEach es X.env).map (·.2) := by rfl) : PGs X (e :: es) (IGs X.K X.mg W (tgsCons t u)) := by
  refine PGs.weak (pgs_cons h1 h2 hs) ?_
  rintro vv σ H Q ⟨N, a, ρ, mm, ⟨rfl, sr, en⟩, r, h⟩
  cases r with
  | nil => exact h.elim
  | cons r1 r2 =>
    refine ⟨_, _, rfl, N, a, ρ, _, ⟨rfl, sr, en⟩, r1, (PostS.seq_out h).mono ?_ (fun _ _ z => z.elim) (fun _ _ z => z.elim) fun _ _ z => z.elim⟩
    rintro σ' H' ⟨b, ρ', rd, x, p⟩
    exact ⟨N, b, ρ', _, rd, MRs.ext x r2, p⟩
def tgTup (n : Nat) (u : List Mv → XS) : XG := fun m ρ S => match m with
  | .val (.tup ds) => if ds.length = n then u (ds.map .val) ρ S else .stuck
  | _ => .stuck
theorem qg_tup {es : List Expr} {pos : Pos} {n : Nat} {u : List Mv → XS} {k1} (hc : X.calm = true) (h : PGs X es (IGs X.K X.mg W u)) (hn : (assignEach es X.env).length = n := by rfl) (hst : (assignEach es X.env).findIdx? (·.1) = none := by rfl) : QG X W (.Tuple es k1 pos) (tgTup n u) := by
  refine PG.weak (pg_tup hc h hn hst) ?_
  rintro v σ H Q ⟨N, a, ρ, m, ⟨rfl, sr, en⟩, r, h⟩
  unfold tgTup at h
  split at h
  · rename_i ds
    split at h
    · rename_i hl
      obtain ⟨p, ws, e, hs, t⟩ := MR.tup r
      exact ⟨p, ws, e, hs, by rw [← t.length]; exact hl, N, a, ρ, ds.map .val, ⟨rfl, sr, en⟩, VRs.paired t, h⟩
    · exact h.elim
  · exact h.elim
/-- a store to o[i], by values -/
def SetOk (K : PySem.W.Frag) (mg : Str → Option Value) (r : TSet) (F : Mv → Mv → Mv → Sto → Rz Unit) : Prop :=
  ∀ (N : Addr → Prop) (a : S3) (o i m : Mv) (v w x : V) (W : XK) (Q : Hp → Prop), SR K mg N a → MR K mg N a o v → MR K mg N a i w → MR K mg N a m x → Post (fun _ (_ _ : Unit) => True) K mg N a W (fun _ => Q) (F o i m a.S) → r v w x a.H Q
def tgSub (F : Mv → Mv → Mv → Sto → Rz Unit) (fo fi : XE) : XG := fun m ρ S => (fo ρ S).thn ρ fun o S1 => (fi ρ S1).thn ρ fun i S2 => (F o i m S2).thn ρ fun _ S3 => .nx ρ S3
theorem qg_sub {o i : Expr} {pos : Pos} {fo fi : XE} {r : TSet} {F : Mv → Mv → Mv → Sto → Rz Unit} (hs : PSet X r ∧ SetOk X.K X.mg r F) (ho : QE X W o fo) (hi : QE X W i fi)
    (ha : ∀ v, assign (.Subscript o i pos) X.env v = (do
      let ov ← holding [v] (eval o X.env)
      let iv ← holding [v, ov] (eval i X.env)
      standAt pos
      holding [v, ov, iv] (setItem ov iv v)
      release [v, ov, iv] []) := by intro _; rfl) : QG X W (.Subscript o i pos) (tgSub F fo fi) := by
  refine PG.weak (pg_sub ho hi hs.1 ha) ?_
  rintro v σ H Q ⟨N, a, ρ, m, ⟨rfl, sr, en⟩, r, h⟩
  refine ⟨N, a, ρ, ⟨rfl, sr, en⟩, (PostS.thn_out (rel := MR X.K X.mg N) en h).mono ?_⟩
  rintro ov H1 ⟨b, mo, rfl, x, sb, ro, h1⟩
  refine ⟨N, b, ρ, ⟨rfl, sb, en.ext x⟩, (PostS.thn_out (rel := MR X.K X.mg N) (en.ext x) h1).mono ?_⟩
  rintro iv H2 ⟨c, mi, rfl, y, sc, ri, h2⟩
  refine hs.2 N c mo mi m ov iv v _ _ sc (ro.ext y) ri ((r.ext x).ext y) ((PostS.thn_out (rel := fun _ (_ _ : Unit) => True) ((en.ext x).ext y) h2).mono ?_)
  rintro _ H3 ⟨d, _, rfl, z, sd, _, h3⟩
  exact h3 d σ rfl (.refl d) sd (((en.ext x).ext y).ext z)
/-- only what a store may come to -/
def RS.only : RS → RS
  | .nx ρ S => .nx ρ S
  | .exn e ρ S => .exn e ρ S
  | _ => .stuck
@[simp] theorem RS.only_nx (ρ : List (Option Mv)) (S : Sto) : (RS.nx ρ S).only = .nx ρ S := rfl
@[simp] theorem RS.only_exn (e : Exn) (ρ : List (Option Mv)) (S : Sto) : (RS.exn e ρ S).only = .exn e ρ S := rfl
@[simp] theorem RS.only_stuck : RS.stuck.only = .stuck := rfl
theorem PostS.only_out {K : PySem.W.Frag} {mg : Str → Option Value} {N : Addr → Prop} {a : S3} {D : Ends} {x : RS} (h : PostS K mg N a W D x.only) : PostS K mg N a W { nx := D.nx, rt := fun _ _ => False } x := by
  cases x with
  | nx ρ S' => exact h
  | exn e ρ S' => exact h
  | brk ρ S' => exact h.elim
  | cnt ρ S' => exact h.elim
  | ret m S' => exact h.elim
  | stuck => exact h
def sAsg (f : XE) (t : XG) : XS := fun ρ S => (f ρ S).thn ρ fun m S1 => (t m ρ S1).only
theorem qs_asg {tg e : Expr} {pos : Pos} {f : XE} {t : XG} (he : QE X W e f) (hg : QG X W tg t) (hs : swapsWithSole [tg] e pos.line X.env = pure false := by rfl) (hw : swappedStores [tg] e X.env = pure none := by rfl)
    (h1 : (assignEach [tg] X.env).map (·.2) = [assign tg X.env] := by rfl) : QS X W (.Assign [tg] e pos) (sAsg f t) := by
  refine PS.weak (ps_asg he hg hs hw h1) ?_
  rintro D σ H ⟨N, a, ρ, ⟨rfl, sr, en⟩, h⟩
  refine ⟨N, a, ρ, ⟨rfl, sr, en⟩, (PostS.thn_out (rel := MR X.K X.mg N) en h).mono ?_⟩
  rintro v H1 ⟨b, m, rfl, x, sb, r, h1⟩
  exact ⟨N, b, ρ, m, ⟨rfl, sb, en.ext x⟩, r, h1.only_out⟩
def sSet (i : Nat) (f : XE) : XS := fun ρ S => (f ρ S).thn ρ fun m S1 => .nx (ρ.set i (some m)) S1
theorem qs_set {i : Nat} {x : Str} {e : Expr} {pos pos' : Pos} {f : XE} (hN : X.N.Nodup) (he : QE X W e f) (hi : X.N[i]? = some x := by rfl) (hx : Loc X.env.scope x := by first | exact .inl rfl | exact .inr rfl) (hs : swapsWith e (some (.Name x pos')) pos.line X.env = pure false := by rfl) (hf : X.fn x = true ∨ X.env.scope.names.lookup x = some .local := by first | exact .inl rfl | exact .inr rfl) :
    QS X W (.Assign [.Name x pos'] e pos) (sSet i f) := by
  refine PS.weak (ps_set hN hi hx he hs hf) ?_
  rintro D σ H ⟨N, a, ρ, ⟨rfl, sr, en⟩, h⟩
  refine ⟨N, a, ρ, ⟨rfl, sr, en⟩, (PostS.thn_out (rel := MR X.K X.mg N) en h).mono ?_⟩
  rintro v H1 ⟨b, m, rfl, x, sb, r, h1⟩
  exact h1 b _ rfl (.refl b) sb ((en.ext x).set i r)
/-- x op= e -/
def InOk (X : Cx) (op : Operator) (F : Mv → Mv → Sto → Rz Mv) : Prop := ∃ ti, PIp X op ti ∧ BinOk X.K X.mg ti F
def sAug (i : Nat) (F : Mv → Mv → Sto → Rz Mv) (f : XE) : XS := fun ρ S => match ρ[i]? with
  | some (some m) => (f ρ S).thn ρ fun y S1 => (F m y S1).thn ρ fun z S2 => .nx (ρ.set i (some z)) S2
  | _ => .stuck
theorem qs_aug {i : Nat} {x : Str} {e : Expr} {op : Operator} {pos pos' : Pos} {F : Mv → Mv → Sto → Rz Mv} {f : XE} (hN : X.N.Nodup) (hop : InOk X op F) (he : QE X W e f) (hi : X.N[i]? = some x := by rfl) (hx : Loc X.env.scope x := by first | exact .inl rfl | exact .inr rfl) (hf : X.fn x = true ∨ X.env.scope.names.lookup x = some .local := by first | exact .inl rfl | exact .inr rfl) :
    QS X W (.AugAssign (.Name x pos') op e pos) (sAug i F f) := by
  obtain ⟨ti, h1, h2⟩ := hop
  refine PS.weak (ps_aug hN hi hx he h1 hf) ?_
  rintro D σ H ⟨N, a, ρ, ⟨rfl, sr, en⟩, h⟩
  unfold sAug at h
  split at h
  · rename_i m e
    obtain ⟨v, ev, r⟩ := en.2 i m e
    refine ⟨v, ev, N, a, ρ, ⟨rfl, sr, en⟩, (PostS.thn_out (rel := MR X.K X.mg N) en h).mono ?_⟩
    rintro w H1 ⟨b, y, rfl, x, sb, ry, h1⟩
    refine h2 N b m y v w _ _ sb (r.ext x) ry ((PostS.thn_out (rel := MR X.K X.mg N) (en.ext x) h1).mono ?_)
    rintro z H2 ⟨c, mz, rfl, x2, sc, rz, h3⟩
    exact h3 c _ rfl (.refl c) sc (((en.ext x).ext x2).set i rz)
  · exact h.elim

/-! ### loops -/
/-- more is hidden: only what is new -/
structure More (N N' : Addr → Prop) (a : S3) : Prop where
  up : ∀ x, N x → N' x
  new : ∀ x, N' x → N x ∨ a.H x = none
theorem More.refl (N : Addr → Prop) (a : S3) : More N N a := ⟨fun _ h => h, fun _ h => .inl h⟩
theorem Ext.fzN {N N' : Addr → Prop} {a b : S3} (m : More N N' a) (x : Ext a b) : Sub (Fz N a) (Fz N' b) := fun z o h => by
  obtain ⟨h1, h2⟩ := hide_some.mp h
  refine hide_some.mpr ⟨fun q => ?_, x.kp z o h2 fun q => h1 (.inr q)⟩
  rcases q with q | q
  · rcases m.new z q with q | q
    · exact h1 (.inl q)
    · rw [h2] at q; cases q
  · rcases x.fr z q with q | q
    · exact h1 (.inr q)
    · rw [h2] at q; cases q
theorem MR.extN {K : PySem.W.Frag} {mg : Str → Option Value} {N N' : Addr → Prop} {a b : S3} (mo : More N N' a) (x : Ext a b) : ∀ {m : Mv} {v : V}, MR K mg N a m v → MR K mg N' b m v
  | .val _, _, h => VR.mono (x.fzN mo) h
  | .loc k, _, ⟨h, e⟩ => ⟨Nat.lt_of_lt_of_le h x.ln, by rw [e, x.ag k h]⟩
theorem MRs.extN {K : PySem.W.Frag} {mg : Str → Option Value} {N N' : Addr → Prop} {a b : S3} (mo : More N N' a) (x : Ext a b) {ms : List Mv} {vs : List V} (h : Paired (MR K mg N a) ms vs) : Paired (MR K mg N' b) ms vs := Paired.mapP h fun _ _ q => q.extN mo x
theorem EnvR.extN {K : PySem.W.Frag} {mg : Str → Option Value} {N N' : Addr → Prop} {a b : S3} {ρ : List (Option Mv)} {σ : St} (mo : More N N' a) (x : Ext a b) (h : EnvR K mg N a ρ σ) : EnvR K mg N' b ρ σ :=
  ⟨h.1, fun i m e => let ⟨v, e', r⟩ := h.2 i m e; ⟨v, e', r.extN mo x⟩⟩
/-- what is walked: its items, and what of the store must stay while it is walked -/
def Walks (K : PySem.W.Frag) (mg : Str → Option Value) (N : Addr → Prop) (a : S3) (p : List Mv × (Sto → Prop)) (J : It) : Prop :=
  ∀ N' b, More N N' a → Ext a b → SR K mg N' b → p.2 b.S → ∀ i, (p.1.length ≤ i → J.stop i b.H) ∧
    ∀ m, p.1[i]? = some m → J.go i b.H ∧ ∀ x H', J.yld i b.H x H' → ∃ c, c.S = b.S ∧ c.H = H' ∧ Ext b c ∧ SR K mg N' c ∧ MR K mg N' c m x
abbrev XI := List (Option Mv) → Sto → Rz (List Mv × (Sto → Prop))
def II (K : PySem.W.Frag) (mg : Str → Option Value) (W : WX) (f : XI) : TI := fun σ H R => ∃ N a ρ, Rd3 K mg N a ρ σ H ∧ Post (Walks K mg N) K mg N a (fun c d H' => W c d σ H') R (f ρ a.S)
abbrev QI (X : Cx) (W : WX) (tg it : Expr) (f : XI) : Prop := PI X tg it (II X.K X.mg W f)
theorem PI.weak {X : Cx} {tg e : Expr} {t u : TI} (h : PI X tg e t) (w : ∀ σ H Q, u σ H Q → t σ H Q) : PI X tg e u := ⟨fun pins s σ H R I q => h.run pins s σ H R I (w _ _ _ q)⟩
open Classical in
noncomputable def forS (chk : Sto → Prop) (t : XG) (g : XS) : List Mv → XS
  | [], ρ, S => if chk S then .nx ρ S else .stuck
  | m :: ms, ρ, S => if chk S then (t m ρ S).only.seq fun ρ1 S1 => (g ρ1 S1).turn fun ρ2 S2 => forS chk t g ms ρ2 S2 else .stuck
noncomputable def sFor (f : XI) (t : XG) (g : XS) : XS := fun ρ S => (f ρ S).thn ρ fun p S1 => forS p.2 t g p.1 ρ S1
theorem qs_for {tg iter : Expr} {body : List Stmt} {pos : Pos} {f : XI} {t : XG} {g : XS} (hp : PassesOwn (model X.prog X.w) X.A X.env X.xe) (hc : X.calm = true) (hi : QI X W tg iter f) (hg : QG X W tg t) (hb : QSs X W body g) (hs : ∀ x, foldedSetIterable iter X.env x = pure x := by intro _; rfl) : QS X W (.For tg iter body [] pos) (sFor f t g) := by
  refine PS.weak (ps_for hp hc hi hg hb hs) ?_
  rintro D σ H ⟨N, a, ρ, ⟨rfl, sr, en⟩, h⟩
  refine ⟨N, a, ρ, ⟨rfl, sr, en⟩, (PostS.thn_out (rel := Walks X.K X.mg N) en h).mono ?_⟩
  rintro J H1 ⟨b, p, rfl, x, sb, wk, h1⟩
  obtain ⟨ms, chk⟩ := p
  refine ⟨fun i m σ H => m = ms.length - i ∧ i ≤ ms.length ∧ ∃ c ρ, Rd3 X.K X.mg N c ρ σ H ∧ Ext b c ∧ PostS X.K X.mg N c W D (forS chk t g (ms.drop i) ρ c.S), ⟨_, rfl, Nat.zero_le _, b, ρ, ⟨rfl, sb, en.ext x⟩, .refl b, h1⟩, ?_⟩
  rintro i n σ H ⟨rfl, hi, c, ρ, ⟨rfl, sc, ec⟩, xc, hh⟩
  by_cases hl : i < ms.length
  · have ed : ms.drop i = ms[i] :: ms.drop (i + 1) := (List.drop_eq_getElem_cons hl)
    rw [ed] at hh
    unfold forS at hh
    split at hh
    · rename_i hk
      obtain ⟨_, wk2⟩ := wk N c (.refl N b) xc sc hk i
      obtain ⟨go, wk3⟩ := wk2 ms[i] (List.getElem?_eq_getElem hl)
      refine .inr ⟨go, fun σ' H' => ∃ c ρ, Rd3 X.K X.mg N c ρ σ' H' ∧ Ext b c ∧ PostS X.K X.mg N c W D (forS chk t g (ms.drop (i + 1)) ρ c.S), fun σ' H' q => ⟨ms.length - (i + 1), by omega, rfl, hl, q⟩, fun y H' hy => ?_⟩
      obtain ⟨d, eS, rfl, xd, sd, rm⟩ := wk3 y H' hy
      refine ⟨N, d, ρ, ms[i], ⟨rfl, sd, ec.ext xd⟩, rm, ?_⟩
      rw [eS]
      refine (PostS.seq_out (hh.from_ xd)).only_out.mono ?_ (fun _ _ z => z.elim) (fun _ _ z => z.elim) (fun _ _ z => z.elim)
      rintro σ2 H2 ⟨e, ρ2, ⟨rfl, se, ee⟩, xe, h2⟩
      refine ⟨N, e, ρ2, ⟨rfl, se, ee⟩, (PostS.turn_out h2).mono ?_ (fun _ _ z => z) ?_ (fun _ _ z => z)⟩
      · rintro σ3 H3 ⟨u, ρ3, r3, xu, h3⟩
        exact ⟨u, ρ3, r3, xc.trans (xd.trans (xe.trans xu)), h3⟩
      · rintro σ3 H3 ⟨u, ρ3, r3, xu, h3⟩
        exact ⟨u, ρ3, r3, xc.trans (xd.trans (xe.trans xu)), h3⟩
    · exact hh.elim
  · have e : i = ms.length := by omega
    subst e
    rw [List.drop_length] at hh
    unfold forS at hh
    split at hh
    · rename_i hk
      exact .inl ⟨(wk N c (.refl N b) xc sc hk _).1 (Nat.le_refl _), hh c σ rfl (.refl c) sc ec⟩
    · exact hh.elim
/-- while, with fuel -/
def whileS : Nat → XT → XS → XS
  | 0, _, _, _, _ => .stuck
  | n + 1, c, g, ρ, S => (c ρ S).thn ρ fun b S1 => match b with
    | true => (g ρ S1).turn fun ρ2 S2 => whileS n c g ρ2 S2
    | false => .nx ρ S1
def sWhile (n : Nat) (c : XT) (g : XS) : XS := fun ρ S => whileS n c g ρ S
theorem qs_while (n : Nat) {c : Expr} {body : List Stmt} {pos : Pos} {t : XT} {g : XS} (hp : PassesOwn (model X.prog X.w) X.A X.env X.xe) (hc : QT X W c t) (hb : QSs X W body g) : QS X W (.While c body [] pos) (sWhile n t g) := by
  refine PS.weak (ps_while hp hc hb) ?_
  rintro D σ H ⟨N, a, ρ, r, h⟩
  refine ⟨fun m σ H => ∃ c ρ, Rd3 X.K X.mg N c ρ σ H ∧ PostS X.K X.mg N c W D (whileS m t g ρ c.S), ⟨n, a, ρ, r, h⟩, ?_⟩
  rintro m σ H ⟨c, ρ, ⟨rfl, sc, ec⟩, hh⟩
  cases m with
  | zero => exact (show False from hh).elim
  | succ m =>
    refine ⟨N, c, ρ, ⟨rfl, sc, ec⟩, (PostS.thn_out (rel := RelB) ec (show PostS X.K X.mg N c W D ((t ρ c.S).thn ρ _) from hh)).mono ?_⟩
    rintro v H1 ⟨b, w, rfl, x, sb, rb, h1⟩
    cases rb
    cases v with
    | true =>
      refine iteT ⟨fun σ' H' => ∃ c ρ, Rd3 X.K X.mg N c ρ σ' H' ∧ PostS X.K X.mg N c W D (whileS m t g ρ c.S), fun σ' H' q => ⟨m, Nat.lt_succ_self m, q⟩, ?_⟩
      refine ⟨N, b, ρ, ⟨rfl, sb, ec.ext x⟩, (PostS.turn_out h1).mono ?_ (fun _ _ z => z) ?_ (fun _ _ z => z)⟩
      · rintro σ3 H3 ⟨u, ρ3, r3, xu, h3⟩
        exact ⟨u, ρ3, r3, h3⟩
      · rintro σ3 H3 ⟨u, ρ3, r3, xu, h3⟩
        exact ⟨u, ρ3, r3, h3⟩
    | false => exact iteF (h1 b σ rfl (.refl b) sb (ec.ext x))

/-! ### what may be walked -/
def always : Sto → Prop := fun _ => True
/-- over a sequence -/
def iSeq (k : Sq) (f : XE) : XI := fun ρ S => (f ρ S).bind fun m S1 => match m, seqOf S1 m with
  | .val _, some (k', ms) => match k, k' with
    | .l, .l => .ok (ms, always) S1
    | .t, .t => .ok (ms, always) S1
    | _, _ => .stuck
  | .loc n, some (k', ms) => match k, k' with
    | .l, .l => .ok (ms, fun S => S[n]? = some (.lst ms)) S1
    | _, _ => .stuck
  | _, _ => .stuck
section
variable {K : PySem.W.Frag} {mg : Str → Option Value} {N : Addr → Prop}
theorem paired_at {α β : Type} {F : α → β → Prop} : ∀ {xs : List α} {ys : List β}, Paired F xs ys → ∀ {i : Nat} {x : α}, xs[i]? = some x → ∃ y, ys[i]? = some y ∧ F x y
  | _, _, .nil, _, _, h => by simp at h
  | _, _, .cons r _, 0, _, h => by simp at h; subst h; exact ⟨_, rfl, r⟩
  | _, _, .cons _ t, i + 1, _, h => by
    obtain ⟨y, h1, h2⟩ := paired_at t (i := i) (by simpa using h)
    exact ⟨y, by simpa using h1, h2⟩
theorem walks_l {a : S3} {p : Addr} {ms : List Mv} {ws : List V} (h : SqL K (Fz N a) p ws) (t : Paired (MR K mg N a) ms ws) : Walks K mg N a (ms, always) (Itl K p) := by
  intro N' b mo x sb _ i
  have hb : SqL K b.H p ws := Fz.sub.sqL ((x.fzN mo).sqL h)
  have tb := MRs.extN mo x t
  refine ⟨fun hi => ⟨ws, hb, by rw [← paired_len t]; exact hi⟩, fun m hm => ?_⟩
  obtain ⟨w, hw, r⟩ := paired_at tb hm
  refine ⟨⟨ws, w, hb, hw⟩, fun y H' hy => ?_⟩
  obtain ⟨rfl, hy⟩ := hy
  have e : w = y := by
    have := hy ws hb
    rw [hw] at this
    exact Option.some.inj this
  subst e
  exact ⟨b, rfl, rfl, .refl b, sb, r⟩
theorem walks_t {a : S3} {p : Addr} {ms : List Mv} {ws : List V} (h : SqT K (Fz N a) p ws) (t : Paired (MR K mg N a) ms ws) : Walks K mg N a (ms, always) (Itt K p) := by
  intro N' b mo x sb _ i
  have hb : SqT K b.H p ws := Fz.sub.sqT ((x.fzN mo).sqT h)
  have tb := MRs.extN mo x t
  refine ⟨fun hi => ⟨ws, hb, by rw [← paired_len t]; exact hi⟩, fun m hm => ?_⟩
  obtain ⟨w, hw, r⟩ := paired_at tb hm
  refine ⟨⟨ws, w, hb, hw⟩, fun y H' hy => ?_⟩
  obtain ⟨rfl, hy⟩ := hy
  have e : w = y := by
    have := hy ws hb
    rw [hw] at this
    exact Option.some.inj this
  subst e
  exact ⟨b, rfl, rfl, .refl b, sb, r⟩
theorem walks_loc {a : S3} {n : Nat} {ms : List Mv} (hn : n < a.S.length) : Walks K mg N a (ms, fun S => S[n]? = some (.lst ms)) (Itl K (a.i n)) := by
  intro N' b mo x sb hc i
  obtain ⟨ws, hw0, t⟩ := sb.at_ n _ hc
  rw [x.ag n hn] at hw0
  have hb : SqL K b.H (a.i n) ws := .of hw0
  refine ⟨fun hi => ⟨ws, hb, by rw [← paired_len t]; exact hi⟩, fun m hm => ?_⟩
  obtain ⟨w, hw, r⟩ := paired_at t hm
  refine ⟨⟨ws, w, hb, hw⟩, fun y H' hy => ?_⟩
  obtain ⟨rfl, hy⟩ := hy
  have e : w = y := by
    have := hy ws hb
    rw [hw] at this
    exact Option.some.inj this
  subst e
  exact ⟨b, rfl, rfl, .refl b, sb, r⟩
end
theorem qi_list {tg l : Expr} {f : XE} (h : QE X W l f) : QI X W tg l (iSeq .l f) := by
  refine PI.weak (pi_list h) ?_
  rintro σ H R ⟨N, a, ρ, ⟨rfl, sr, en⟩, h⟩
  refine ⟨N, a, ρ, ⟨rfl, sr, en⟩, (Post.bind_out (rel := MR X.K X.mg N) h).mono ?_⟩
  rintro v H1 ⟨b, m, rfl, x, sb, r, h1⟩
  cases m with
  | val d =>
    cases d with
    | lst ds =>
      cases r with
      | lst hs t => exact ⟨_, rfl, ⟨_, Fz.sub.sqL hs⟩, h1 b _ rfl (.refl b) sb (walks_l hs (VRs.paired t))⟩
    | _ => exact (show False from h1).elim
  | loc n =>
    obtain ⟨hn, rfl⟩ := r
    cases q : seqOf b.S (.loc n) with
    | none => rw [q] at h1; exact (show False from h1).elim
    | some p =>
      obtain ⟨k', ms⟩ := p
      rw [q] at h1
      have q2 : b.S[n]? = some (.lst ms) ∧ k' = .l := by
        unfold seqOf at q
        simp only at q
        split at q
        · rename_i ms' e
          simp only [Option.some.injEq, Prod.mk.injEq] at q
          obtain ⟨rfl, rfl⟩ := q
          exact ⟨e, rfl⟩
        · cases q
      obtain ⟨q2, rfl⟩ := q2
      obtain ⟨ws, hw, _⟩ := sb.at_ n _ q2
      exact ⟨_, rfl, ⟨ws, .of hw⟩, h1 b _ rfl (.refl b) sb (walks_loc hn)⟩
theorem qi_tup {tg l : Expr} {f : XE} (h : QE X W l f) : QI X W tg l (iSeq .t f) := by
  refine PI.weak (pi_tup h) ?_
  rintro σ H R ⟨N, a, ρ, ⟨rfl, sr, en⟩, h⟩
  refine ⟨N, a, ρ, ⟨rfl, sr, en⟩, (Post.bind_out (rel := MR X.K X.mg N) h).mono ?_⟩
  rintro v H1 ⟨b, m, rfl, x, sb, r, h1⟩
  cases m with
  | val d =>
    cases d with
    | tup ds =>
      cases r with
      | tup hs t => exact ⟨_, rfl, ⟨_, Fz.sub.sqT hs⟩, h1 b _ rfl (.refl b) sb (walks_t hs (VRs.paired t))⟩
    | _ => exact (show False from h1).elim
  | loc n =>
    cases q : seqOf b.S (.loc n) with
    | none => rw [q] at h1; exact (show False from h1).elim
    | some p =>
      obtain ⟨k', ms⟩ := p
      rw [q] at h1
      cases k' <;> exact (show False from h1).elim
/-- over range(..) -/
def rangeL (lo : Int) (n : Nat) : List Mv := (List.range n).map fun i => .val (.int (lo + (i : Nat)))
def iRng1 (g : XA) : XI := fun ρ S => (g ρ S).bind fun ms S1 => match ms with
  | [.val (.int j)] => if -(2 ^ 62) ≤ j ∧ j < 2 ^ 62 then .ok (rangeL 0 j.toNat, always) S1 else .stuck
  | _ => .stuck
def iRng2 (g : XA) : XI := fun ρ S => (g ρ S).bind fun ms S1 => match ms with
  | [.val (.int i), .val (.int j)] => if -(2 ^ 62) ≤ i ∧ i < 2 ^ 62 ∧ -(2 ^ 62) ≤ j ∧ j < 2 ^ 62 then .ok (rangeL i (j - i).toNat, always) S1 else .stuck
  | _ => .stuck
theorem walks_r {K : PySem.W.Frag} {mg : Str → Option Value} {N : Addr → Prop} {a : S3} (lo : Int) (n : Nat) : Walks K mg N a (rangeL lo n, always) (Itr lo n) := by
  intro N' b mo x sb _ i
  refine ⟨fun hi => show n ≤ i by simpa [rangeL] using hi, fun m hm => ?_⟩
  have hi : i < n := by
    have := (List.getElem?_eq_some_iff.mp hm).1
    simpa [rangeL] using this
  refine ⟨hi, fun y H' hy => ?_⟩
  obtain ⟨rfl, rfl⟩ := hy
  have e : m = .val (.int (lo + (i : Nat))) := by
    simp [rangeL, hi] at hm
    exact hm.symm
  subst e
  exact ⟨b, rfl, rfl, .refl b, sb, VR.int⟩
theorem paired1 {α β : Type} {F : α → β → Prop} {x : α} {vs : List β} (h : Paired F [x] vs) : ∃ v, vs = [v] ∧ F x v := by
  cases h with
  | cons r t => cases t; exact ⟨_, rfl, r⟩
theorem paired2 {α β : Type} {F : α → β → Prop} {x y : α} {vs : List β} (h : Paired F [x, y] vs) : ∃ v w, vs = [v, w] ∧ F x v ∧ F y w := by
  cases h with
  | cons r t =>
    obtain ⟨w, rfl, q⟩ := paired1 t
    exact ⟨_, _, rfl, r, q⟩
theorem paired3 {α β : Type} {F : α → β → Prop} {x y z : α} {vs : List β} (h : Paired F [x, y, z] vs) : ∃ v w u, vs = [v, w, u] ∧ F x v ∧ F y w ∧ F z u := by
  cases h with
  | cons r t =>
    obtain ⟨w, u, rfl, q, q2⟩ := paired2 t
    exact ⟨_, _, _, rfl, r, q, q2⟩
theorem qi_range1 {tg a : Expr} {p pos : Pos} {g : XA} (hm : X.mg "range" = none) (ha : QA X W [a] g) (hg : Gl X "range" := by rfl) (hs : starEach [a] X.env = [(false, eval a X.env)] := by rfl) : QI X W tg (.Call (.Name "range" p) [a] [] pos) (iRng1 g) := by
  refine PI.weak (pi_range1 hg hm ha hs) ?_
  rintro σ H R ⟨N, a, ρ, ⟨rfl, sr, en⟩, h⟩
  refine ⟨N, a, ρ, ⟨rfl, sr, en⟩, (Post.bind_out (rel := RelA X.K X.mg N) h).mono ?_⟩
  rintro v H1 ⟨b, m, rfl, x, sb, r, h1⟩
  split at h1
  · rename_i j
    obtain ⟨w, rfl, r1⟩ := paired1 r
    have e := MR.int r1
    subst e
    split at h1
    · rename_i hj
      exact ⟨j, rfl, hj.1, hj.2, h1 b _ rfl (.refl b) sb (walks_r _ _)⟩
    · exact h1.elim
  · exact h1.elim
theorem qi_range2 {tg a c : Expr} {p pos : Pos} {g : XA} (hm : X.mg "range" = none) (ha : QA X W [a, c] g) (hg : Gl X "range" := by rfl) (hs : starEach [a, c] X.env = [(false, eval a X.env), (false, eval c X.env)] := by rfl) (hs2 : starEach [c] X.env = [(false, eval c X.env)] := by rfl) : QI X W tg (.Call (.Name "range" p) [a, c] [] pos) (iRng2 g) := by
  refine PI.weak (pi_range2 hg hm ha hs hs2) ?_
  rintro σ H R ⟨N, a, ρ, ⟨rfl, sr, en⟩, h⟩
  refine ⟨N, a, ρ, ⟨rfl, sr, en⟩, (Post.bind_out (rel := RelA X.K X.mg N) h).mono ?_⟩
  rintro v H1 ⟨b, m, rfl, x, sb, r, h1⟩
  split at h1
  · rename_i i j
    obtain ⟨w, u, rfl, r, r2⟩ := paired2 r
    have e := MR.int r
    have e2 := MR.int r2
    subst e e2
    split at h1
    · rename_i hj
      exact ⟨i, j, rfl, hj, h1 b _ rfl (.refl b) sb (walks_r _ _)⟩
    · exact h1.elim
  · exact h1.elim
end
end MK

/-! MK, part 4: defs, calls, fields, methods, new instances. -/
namespace MK
open PySem L2
/-! ### what a def promises -/
inductive R0 where
  | ok (d : Dv) | exn (e : Exn) | stuck
abbrev PFn := List Dv → R0
abbrev SFn := List Mv → Sto → Rz Mv
def spP (K : PySem.W.Frag) (mg : Str → Option Value) (F : PFn) : Sp := fun vs H Q E => ∃ (N : Addr → Prop) (ds : List Dv), (∀ b, N b → H b ≠ none) ∧ VRs K mg (hide N H) ds vs ∧ match F ds with
  | .ok d => ∀ H' v, Same H H' → VR K mg (hide N H') d v → Q v H'
  | .exn e => ∀ H' cls dd, Same H H' → ExR K mg (hide N H') e cls dd H' → E cls dd H'
  | .stuck => False
def spS (K : PySem.W.Frag) (mg : Str → Option Value) (F : SFn) : Sp := fun vs H Q E => ∃ (N : Addr → Prop) (a : S3) (ms : List Mv), a.H = H ∧ SR K mg N a ∧ Paired (MR K mg N a) ms vs ∧ Post (MR K mg N) K mg N a E Q (F ms a.S)
def RS.fin : RS → Rz Mv
  | .nx _ S => .ok (.val .non) S
  | .ret m S => .ok m S
  | .exn e _ S => .exn e S
  | _ => .stuck
@[simp] theorem RS.fin_nx (ρ) (S : Sto) : (RS.nx ρ S).fin = .ok (.val .non) S := rfl
@[simp] theorem RS.fin_ret (m) (S : Sto) : (RS.ret m S).fin = .ok m S := rfl
@[simp] theorem RS.fin_exn (e ρ) (S : Sto) : (RS.exn e ρ S).fin = .exn e S := rfl
@[simp] theorem RS.fin_stuck : RS.stuck.fin = .stuck := rfl
/-- a body as a function: n parameters, m slots -/
def fnS (n m : Nat) (g : XS) : SFn := fun ms S => if ms.length = n then (g (ms.map some ++ List.replicate (m - n) none) S).fin else .stuck
/-- a value without places -/
def rfy : Nat → Sto → Mv → Option Dv
  | _, _, .val d => some d
  | 0, _, _ => none
  | n + 1, S, .loc k => match S[k]? with
    | some (.lst ms) => (ms.mapM (rfy n S)).map .lst
    | some (.dK kvs) => (kvs.mapM fun p => (rfy n S p.2).map fun d => (p.1, d)).map .dK
    | some (.dT kvs) => (kvs.mapM fun p => (rfy n S p.2).map fun d => (p.1, d)).map .dT
    | some (.ins c fs) => (fs.mapM fun p => (rfy n S p.2).map fun d => (p.1, d)).map (.ins c)
    | _ => none
def Rz.pure0 : Rz Mv → R0
  | .ok m S => match rfy 8 S m with
    | some d => .ok d
    | none => .stuck
  | .exn e _ => .exn e
  | .stuck => .stuck
/-- a body as a function of plain data -/
def fnP (n m : Nat) (g : XS) : PFn := fun ds => (fnS n m g (ds.map .val) []).pure0
section
variable {K : PySem.W.Frag} {mg : Str → Option Value} {N : Addr → Prop}
theorem fz_hide {a : S3} : Sub (Fz N a) (hide N a.H) := fun x o h => by
  obtain ⟨h1, h2⟩ := hide_some.mp h
  exact hide_some.mpr ⟨fun q => h1 (.inl q), h2⟩
theorem mapM_vrs {F : Hp} {n : Nat} {S : Sto} {a : S3} (ih : ∀ {m : Mv} {v : V} {d : Dv}, MR K mg N a m v → rfy n S m = some d → VR K mg F d v) : ∀ {ms : List Mv} {vs : List V} {ds : List Dv}, Paired (MR K mg N a) ms vs → ms.mapM (rfy n S) = some ds → VRs K mg F ds vs
  | [], _, _, .nil, h => by
    simp at h; subst h; exact .nil
  | m :: ms, _, _, .cons r t, h => by
    simp only [List.mapM_cons] at h
    cases e1 : rfy n S m with
    | none => rw [e1] at h; simp at h
    | some d =>
      cases e2 : ms.mapM (rfy n S) with
      | none => rw [e1, e2] at h; simp at h
      | some ds =>
        rw [e1, e2] at h
        simp at h
        subst h
        exact .cons (ih r e1) (mapM_vrs ih t e2)
theorem mapM_vrp {κ κ' : Type} {j : κ → κ'} {F : Hp} {n : Nat} {S : Sto} {a : S3} (ih : ∀ {m : Mv} {v : V} {d : Dv}, MR K mg N a m v → rfy n S m = some d → VR K mg F d v) : ∀ {ms : List (κ × Mv)} {vs : List (κ' × V)} {ds : List (κ × Dv)}, Paired (MRp K mg N j a) ms vs → (ms.mapM fun p => (rfy n S p.2).map fun d => (p.1, d)) = some ds → VRp K mg F j ds vs
  | [], _, _, .nil, h => by
    simp at h; subst h; exact .nil
  | (k, m) :: ms, _, _, .cons (b := (k', v)) ⟨e, r⟩ t, h => by
    simp only [List.mapM_cons] at h
    cases e1 : rfy n S m with
    | none => rw [e1] at h; simp at h
    | some d =>
      cases e2 : (ms.mapM fun p => (rfy n S p.2).map fun d => (p.1, d)) with
      | none => rw [e1, e2] at h; simp at h
      | some ds =>
        rw [e1, e2] at h
        simp at h
        subst h
        cases (show j k = k' from e)
        exact .cons (ih r e1) (mapM_vrp ih t e2)
theorem rfy_ok {a : S3} (sr : SR K mg N a) : ∀ (n : Nat) {m : Mv} {v : V} {d : Dv}, MR K mg N a m v → rfy n a.S m = some d → VR K mg (hide N a.H) d v
  | n, .val d', _, d, r, e => by
    have e : d' = d := by cases n <;> exact Option.some.inj e
    subst e
    exact VR.mono fz_hide r
  | 0, .loc k, _, _, r, e => by cases e
  | n + 1, .loc k, _, _, r, e => by
    obtain ⟨hk, rfl⟩ := r
    unfold rfy at e
    have own : ∀ {ob : Ob}, a.S[k]? = some ob → ob ≠ .dead → ∀ {o}, a.H (a.i k) = some o → hide N a.H (a.i k) = some o := fun q nd _ h => hide_some.mpr ⟨fun hn => sr.nn _ ⟨k, _, q, nd, rfl⟩ hn, h⟩
    split at e
    · rename_i ms q
      obtain ⟨ws, h, t⟩ := sr.at_ k _ q
      cases e2 : ms.mapM (rfy n a.S) with
      | none => rw [e2] at e; cases e
      | some ds =>
        rw [e2] at e
        cases e
        exact .lst (SqL.of (own q (by simp) h)) (mapM_vrs (fun r e => rfy_ok sr n r e) t e2)
    · rename_i ms q
      obtain ⟨ws, h, t⟩ := sr.at_ k _ q
      cases e2 : (ms.mapM fun p => (rfy n a.S p.2).map fun d => (p.1, d)) with
      | none => rw [e2] at e; cases e
      | some ds =>
        rw [e2] at e
        cases e
        exact .dK (.inl (own q (by simp) h)) (mapM_vrp (fun r e => rfy_ok sr n r e) t e2)
    · rename_i ms q
      obtain ⟨ws, h, t⟩ := sr.at_ k _ q
      cases e2 : (ms.mapM fun p => (rfy n a.S p.2).map fun d => (p.1, d)) with
      | none => rw [e2] at e; cases e
      | some ds =>
        rw [e2] at e
        cases e
        exact .dT (.inl (own q (by simp) h)) (mapM_vrp (fun r e => rfy_ok sr n r e) t e2)
    · rename_i c ms q
      obtain ⟨C, dx, ws, h, hm, t⟩ := sr.at_ k _ q
      cases e2 : (ms.mapM fun p => (rfy n a.S p.2).map fun d => (p.1, d)) with
      | none => rw [e2] at e; cases e
      | some ds =>
        rw [e2] at e
        cases e
        exact .ins (own q (by simp) h) hm (mapM_vrp (fun r e => rfy_ok sr n r e) t e2)
    · cases e
theorem same_of {a b : S3} (hS : a.S = []) (x : Ext a b) : Same a.H b.H := fun z o h => x.kp z o h fun ⟨k, ob, e, _⟩ => by rw [hS] at e; simp at e
/-- a state with an empty store -/
theorem sr_nil {H : Hp} (h : ∀ b, N b → H b ≠ none) (i : Nat → Addr) : SR K mg N ⟨i, [], H⟩ := ⟨h, fun b ⟨k, ob, e, _⟩ => by simp at e, fun j k oj ok e => by simp at e, fun k ob e => by simp at e⟩
theorem fz_nil {H : Hp} {i : Nat → Addr} : Sub (hide N H) (Fz N ⟨i, [], H⟩) := fun x o h => by
  obtain ⟨h1, h2⟩ := hide_some.mp h
  refine hide_some.mpr ⟨fun q => ?_, h2⟩
  rcases q with q | ⟨k, ob, e, _⟩
  · exact h1 q
  · simp at e
theorem ExR.mono {F F' : Hp} {e : Exn} {cls : Value} {d : Option Addr} {H : Hp} (x : Sub F F') (h : ExR K mg F e cls d H) : ExR K mg F' e cls d H := by
  obtain ⟨C, h1, h2, h3⟩ := h
  refine ⟨C, h1, h2, ?_⟩
  rcases h3 with h3 | ⟨dd, ws, e1, e2, t⟩
  · exact .inl h3
  · exact .inr ⟨dd, ws, e1, x _ _ e2, t.mono x⟩
theorem ExR.H {F : Hp} {e : Exn} {cls : Value} {d : Option Addr} {H H' : Hp} (h : ExR K mg F e cls d H) : ExR K mg F e cls d H' := h
/-- the slots at a def's entry -/
theorem env_start {a : S3} {ms : List Mv} {vs : List V} (r : Paired (MR K mg N a) ms vs) (n m : Nat) (hn : ms.length = n) : EnvR K mg N a (ms.map some ++ List.replicate (m - n) none) (vs.map some ++ List.replicate (m - n) none) := by
  have hl := paired_len r
  refine ⟨by simp [hl], fun i x e => ?_⟩
  by_cases hi : i < ms.length
  · rw [List.getElem?_append_left (by simpa using hi)] at e
    rw [List.getElem?_append_left (by simpa [← hl] using hi)]
    rw [List.getElem?_map] at e ⊢
    cases q : ms[i]? with
    | none => rw [q] at e; cases e
    | some y =>
      rw [q] at e
      cases e
      obtain ⟨v, h1, h2⟩ := paired_at r q
      exact ⟨v, by rw [h1]; rfl, h2⟩
  · rw [List.getElem?_append_right (by simpa using Nat.le_of_not_lt hi)] at e
    rw [List.getElem?_replicate] at e
    split at e <;> cases e
end
section
variable {P : Program} {w : World} {K : PySem.W.Frag} {mg : Str → Option Value} {base : Heap}
theorem postS_fin {N : Addr → Prop} {a : S3} {E : XK} {Q : VK} {r : RS} (h : Post (MR K mg N) K mg N a E Q r.fin) : PostS K mg N a (fun c d _ H => E c d H) { nx := fun _ H' => Q .non H', rt := Q } r := by
  cases r with
  | nx ρ S => exact fun b σ' e x s en => h b .non e x s VR.non
  | ret m S => exact h
  | exn e ρ S => exact fun b σ' cls d e x s en q => h b cls d e x s q
  | brk ρ S => exact h.elim
  | cnt ρ S => exact h.elim
  | stuck => exact h
abbrev WD (E : XK) : WX := fun c d _ H => E c d H
theorem ok_S {x qual : Str} {st : Stmt} {f : Addr} {fd : FuncData} {Ns ps : List Str} {k : Nat} {g : XS} (F : Fun K x qual st f fd) (S : FnScope Ns ps (defScope st))
    (hb : ∀ (cdv : Value) (A : Around) (outer : List Env) (s : Shared) (H : Hp) (E : XK), Room k (A.deeper (PyProof.Rows.envOfC qual (defScope st) s.heap.objs.size f cdv)) →
      QSs (cxOf (L2.CX P w) P w K mg base Ns qual (defScope st) f cdv A outer s H E) (WD E) (defBody st) g) :
    FnOk P w K mg base (L2.CX P w) (k + 1) f fd ps (spS K mg (fnS ps.length Ns.length g)) := by
  refine F.okX S (fun vs H Q E h => ?_) fun cdv A outer s H vs Q E hr h => ⟨_, hb cdv A outer s H E hr, ?_⟩
  · obtain ⟨N, a, ms, _, _, r, h⟩ := h
    unfold fnS at h
    split at h
    · rename_i hl
      rw [← paired_len r]; exact hl
    · exact h.elim
  · obtain ⟨N, a, ms, rfl, sr, r, h⟩ := h
    unfold fnS at h
    split at h
    · rename_i hl
      refine ⟨N, a, _, ⟨rfl, sr, ?_⟩, postS_fin h⟩
      have := env_start r ps.length Ns.length hl
      unfold L2.start
      rw [← paired_len r, hl]
      exact this
    · exact h.elim
/-- from a function on stores to one on plain data -/
theorem spP_of {F : SFn} {vs : List V} {H : Hp} {Q : VK} {E : XK} (h : spP K mg (fun ds => (F (ds.map .val) []).pure0) vs H Q E) : spS K mg F vs H Q E := by
  obtain ⟨N, ds, hN, r, h⟩ := h
  refine ⟨N, ⟨fun _ => 0, [], H⟩, ds.map .val, rfl, sr_nil hN _, VRs.paired (r.mono fz_nil), ?_⟩
  show Post _ _ _ _ _ _ _ (F (ds.map .val) [])
  replace h : (match (F (ds.map .val) []).pure0 with
    | .ok d => ∀ H' v, Same H H' → VR K mg (hide N H') d v → Q v H'
    | .exn e => ∀ H' cls dd, Same H H' → ExR K mg (hide N H') e cls dd H' → E cls dd H'
    | .stuck => False) := h
  cases q : F (ds.map .val) [] with
  | ok m S' =>
    rw [q] at h
    intro b v e x s rm
    unfold Rz.pure0 at h
    simp only at h
    cases q2 : rfy 8 S' m with
    | none => rw [q2] at h; exact h.elim
    | some d =>
      rw [q2] at h
      exact h b.H v (same_of rfl x) (rfy_ok s 8 rm (by rw [e]; exact q2))
  | exn e S' =>
    rw [q] at h
    intro b cls d _ x s q
    exact h b.H cls d (same_of rfl x) (q.mono fz_hide)
  | stuck => rw [q] at h; exact h
theorem ok_P {x qual : Str} {st : Stmt} {f : Addr} {fd : FuncData} {Ns ps : List Str} {k : Nat} {g : XS} (F : Fun K x qual st f fd) (S : FnScope Ns ps (defScope st))
    (hb : ∀ (cdv : Value) (A : Around) (outer : List Env) (s : Shared) (H : Hp) (E : XK), Room k (A.deeper (PyProof.Rows.envOfC qual (defScope st) s.heap.objs.size f cdv)) →
      QSs (cxOf (L2.CX P w) P w K mg base Ns qual (defScope st) f cdv A outer s H E) (WD E) (defBody st) g) :
    FnOk P w K mg base (L2.CX P w) (k + 1) f fd ps (spP K mg (fnP ps.length Ns.length g)) :=
  (ok_S F S hb).imp fun _ _ _ _ h => spP_of h
/-- the module's def x keeps sp, at level k -/
structure HasFn (P : Program) (w : World) (K : PySem.W.Frag) (mg : Str → Option Value) (base : Heap) (x : Str) (k : Nat) (sp : Sp) : Prop where
  ex : ∃ f fd ps, FnOk P w K mg base (L2.CX P w) k f fd ps sp ∧ mg x = some (.ref f) ∧ PySem.W.keepIn K (.ref f) = true ∧ Binds K fd ps []
theorem HasFn.mono {P : Program} {w : World} {base : Heap} {x : Str} {j k : Nat} {sp : Sp} (h : HasFn P w K mg base x j sp) (l : j ≤ k) : HasFn P w K mg base x k sp := by
  obtain ⟨f, fd, ps, F, r⟩ := h.ex
  exact ⟨f, fd, ps, F.mono l, r⟩
end
section
variable {X : Cx} {W : WX}
/-! ### calls of the module's defs -/
def liftP : R0 → Sto → Rz Mv
  | .ok d, S => .ok (.val d) S
  | .exn e, S => .exn e S
  | .stuck, _ => .stuck
@[simp] theorem liftP_ok (d : Dv) (S : Sto) : liftP (.ok d) S = .ok (.val d) S := rfl
@[simp] theorem liftP_exn (d : Exn) (S : Sto) : liftP (.exn d) S = .exn d S := rfl
def callP (G : PFn) (ms : List Mv) (S : Sto) : Rz Mv := match vals ms with
  | some ds => liftP (G ds) S
  | none => .stuck
theorem callP_ok {K : PySem.W.Frag} {mg : Str → Option Value} {N : Addr → Prop} {a : S3} {G : PFn} {ms : List Mv} {vs : List V} {W : XK} {Q : VK} (sr : SR K mg N a) (r : Paired (MR K mg N a) ms vs) (h : Post (MR K mg N) K mg N a W Q (callP G ms a.S)) : spP K mg G vs a.H Q W := by
  unfold callP at h
  cases q : vals ms with
  | none => rw [q] at h; exact h.elim
  | some ds =>
    rw [q] at h
    replace h : Post (MR K mg N) K mg N a W Q (liftP (G ds) a.S) := h
    rw [vals_some q] at r
    refine ⟨fun b => N b ∨ Own a b, ds, fun b hb => ?_, paired_vals r, ?_⟩
    · rcases hb with hb | hb
      · exact sr.nm b hb
      · exact sr.lt hb
    · cases q2 : G ds with
      | ok d =>
        rw [q2] at h
        intro H' v s hv
        obtain ⟨ex, sr'⟩ := grown sr s
        exact h ⟨a.i, a.S, H'⟩ v rfl ex sr' hv
      | exn e =>
        rw [q2] at h
        intro H' cls d s hv
        obtain ⟨ex, sr'⟩ := grown sr s
        exact h ⟨a.i, a.S, H'⟩ cls d rfl ex sr' hv
      | stuck => rw [q2] at h; exact h
theorem callS_ok {K : PySem.W.Frag} {mg : Str → Option Value} {N : Addr → Prop} {a : S3} {G : SFn} {ms : List Mv} {vs : List V} {W : XK} {Q : VK} (sr : SR K mg N a) (r : Paired (MR K mg N a) ms vs) (h : Post (MR K mg N) K mg N a W Q (G ms a.S)) : spS K mg G vs a.H Q W := ⟨N, a, ms, rfl, sr, r, h⟩
/-- what kind of promise a def's function makes -/
def SpOk (K : PySem.W.Frag) (mg : Str → Option Value) (sp : Sp) (F : SFn) : Prop := ∀ (N : Addr → Prop) (a : S3) (ms : List Mv) (vs : List V) (W : XK) (Q : VK), SR K mg N a → Paired (MR K mg N a) ms vs → Post (MR K mg N) K mg N a W Q (F ms a.S) → sp vs a.H Q W
theorem spOkP {K : PySem.W.Frag} {mg : Str → Option Value} (G : PFn) : SpOk K mg (spP K mg G) (callP G) := fun _ _ _ _ _ _ => callP_ok
theorem spOkS {K : PySem.W.Frag} {mg : Str → Option Value} (G : SFn) : SpOk K mg (spS K mg G) G := fun _ _ _ _ _ _ => callS_ok
theorem qe_call {k : Nat} {x : Str} {p pos : Pos} {e : Expr} {es : List Expr} {g : XA} {sp : Sp} {F : SFn} (h : HasFn X.prog X.w X.K X.mg X.base x k sp) (so : SpOk X.K X.mg sp F) (hr : Room k X.A) (tk : Takes X W) (ha : QA X W (e :: es) g) (hg : Gl X x := by rfl) (hdb : (x == ("__debug__" : Str)) = false := by decide)
    (he : starEach (e :: es) X.env = (false, eval e X.env) :: starEach es X.env := by rfl) (hpl : (backTo pos (starEach es X.env)).any (·.1) = false := by rfl) : QE X W (.Call (.Name x p) (e :: es) [] pos) (eMk F g) := by
  obtain ⟨f, fd, ps, FO, hm, hk, hb⟩ := h.ex
  refine PE.weak (pe_callS FO hr hg hm hk hb (fun σ => passAt tk σ) ha hdb he hpl) ?_
  rintro σ H Q ⟨N, a, ρ, ⟨rfl, sr, en⟩, h⟩
  refine ⟨N, a, ρ, ⟨rfl, sr, en⟩, (Post.bind_out (rel := RelA X.K X.mg N) h).mono ?_⟩
  rintro v H1 ⟨b, m, rfl, x, sb, rm, h1⟩
  exact so N b m v _ Q sb rm h1

/-! ### instances -/
def insOf (S : Sto) : Mv → Option (Str × List (Str × Mv))
  | .val (.ins c fs) => some (c, fs.map fun p => (p.1, .val p.2))
  | .loc k => match S[k]? with
    | some (.ins c fs) => some (c, fs)
    | _ => none
  | _ => none
theorem VRp.paired {K : PySem.W.Frag} {mg : Str → Option Value} {N : Addr → Prop} {κ κ' : Type} {j : κ → κ'} {a : S3} : ∀ {ds : List (κ × Dv)} {vs : List (κ' × V)}, VRp K mg (Fz N a) j ds vs → Paired (MRp K mg N j a) (ds.map fun p => (p.1, Mv.val p.2)) vs
  | _, _, .nil => .nil
  | _, _, .cons h t => .cons ⟨rfl, h⟩ (VRp.paired t)
theorem insOf_ok {K : PySem.W.Frag} {mg : Str → Option Value} {N : Addr → Prop} {a : S3} {m : Mv} {v : V} {c : Str} {fs : List (Str × Mv)} (sr : SR K mg N a) (r : MR K mg N a m v) (e : insOf a.S m = some (c, fs)) : ∃ p C dx ws, v = .ref p ∧ a.H p = some (.ins C dx ws) ∧ mg c = some (.ref C) ∧ Paired (MRp K mg N id a) fs ws := by
  cases m with
  | val d =>
    cases d with
    | ins c' fs' =>
      cases e
      cases r with
      | ins h hm t => exact ⟨_, _, _, _, rfl, Fz.sub _ _ h, hm, VRp.paired t⟩
    | _ => cases e
  | loc k =>
    obtain ⟨hk, rfl⟩ := r
    replace e : (match a.S[k]? with | some (.ins c fs) => some (c, fs) | _ => none) = some (c, fs) := e
    split at e
    · rename_i c' fs' q
      cases e
      obtain ⟨C, dx, ws, h, hm, t⟩ := sr.at_ k _ q
      exact ⟨_, C, dx, ws, rfl, h, hm, t⟩
    · cases e
theorem paired_lookup {K : PySem.W.Frag} {mg : Str → Option Value} {N : Addr → Prop} {a : S3} {f : Str} : ∀ {fs : List (Str × Mv)} {ws : List (Str × V)}, Paired (MRp K mg N id a) fs ws →
    (∀ m, fs.lookup f = some m → ∃ v, ws.lookup f = some v ∧ MR K mg N a m v) ∧ (fs.lookup f = none → ws.lookup f = none)
  | _, _, .nil => ⟨fun _ h => by simp at h, fun _ => rfl⟩
  | (n, m) :: fs, (n', v) :: ws, .cons ⟨e, r⟩ t => by
    obtain rfl : n = n' := e
    simp only [List.lookup]
    cases q : f == n with
    | true => exact ⟨fun m' h => ⟨v, rfl, by cases h; exact r⟩, fun h => by cases h⟩
    | false => exact paired_lookup t
def putM (f : Str) (m : Mv) : List (Str × Mv) → List (Str × Mv)
  | [] => [(f, m)]
  | p :: r => if p.1 = f then (f, m) :: r else p :: putM f m r
theorem paired_put {K : PySem.W.Frag} {mg : Str → Option Value} {N : Addr → Prop} {a : S3} {f : Str} {m : Mv} {v : V} (r : MR K mg N a m v) : ∀ {fs : List (Str × Mv)} {ws : List (Str × V)}, Paired (MRp K mg N id a) fs ws → Paired (MRp K mg N id a) (putM f m fs) (putF f v ws)
  | _, _, .nil => .cons ⟨rfl, r⟩ .nil
  | (n, m') :: fs, (n', v') :: ws, .cons ⟨e, r'⟩ t => by
    obtain rfl : n = n' := e
    unfold putF putM
    by_cases q : n = f
    · simp only [q, if_true]; exact .cons ⟨rfl, r⟩ t
    · simp only [q, if_false]; exact .cons ⟨rfl, r'⟩ (paired_put r t)
/-- the module's class c; its instances have fields fld -/
structure HasCls (K : PySem.W.Frag) (mg : Str → Option Value) (c : Str) (fld : List Str) : Prop where
  ex : ∃ C, mg c = some (.ref C) ∧ Cls K C ∧ ∀ f ∈ fld, NoAttr K C f
def eFld (c f : Str) (fo : XE) : XE := fun ρ S => (fo ρ S).bind fun x S1 => match insOf S1 x with
  | some (c', fs) => if c' = c then (match fs.lookup f with | some m => .ok m S1 | none => .stuck) else .stuck
  | none => .stuck
theorem qe_fld {e : Expr} {f c : Str} {pos : Pos} {fo : XE} {fld : List Str} (h : HasCls X.K X.mg c fld) (he : QE X W e fo) (hf : f ∈ fld := by decide) (hb : attributeBase e f X.env (eval e X.env) = eval e X.env := by rfl) : QE X W (.Attribute e f pos) (eFld c f fo) := by
  obtain ⟨C, hC, cl, na⟩ := h.ex
  refine PE.weak (pe_fld he hb) ?_
  rintro σ H Q ⟨N, a, ρ, ⟨rfl, sr, en⟩, h⟩
  refine ⟨N, a, ρ, ⟨rfl, sr, en⟩, (Post.bind_out (rel := MR X.K X.mg N) h).mono ?_⟩
  rintro v H1 ⟨b, m, rfl, x, sb, rm, h1⟩
  split at h1
  · rename_i c' fs q
    split at h1
    · rename_i ec
      subst ec
      obtain ⟨p, C', dx, ws, rfl, hp, hm, t⟩ := insOf_ok sb rm q
      rw [hC] at hm
      cases hm
      split at h1
      · rename_i m' l
        obtain ⟨v, l2, r⟩ := (paired_lookup t).1 m' l
        exact ⟨p, C, dx, ws, v, rfl, hp, cl, na f hf, l2, Post.okm sb h1 r⟩
      · exact h1.elim
    · exact h1.elim
  · exact h1.elim
/-- o.f = e -/
def sFldS (c f : Str) (fo fe : XE) : XS := fun ρ S => (fe ρ S).thn ρ fun y S1 => (fo ρ S1).thn ρ fun x S2 => match x with
  | .loc k => match S2[k]? with
    | some (.ins c' fs) => if c' = c ∧ fs.length < 1000 then .nx ρ (S2.set k (.ins c (putM f y fs))) else .stuck
    | _ => .stuck
  | _ => .stuck
theorem qs_fld {o e : Expr} {f c : Str} {pos pos' : Pos} {fo fe : XE} {fld : List Str} (h : HasCls X.K X.mg c fld) (ho : QE X W o fo) (he : QE X W e fe) (hf : f ∈ fld := by decide) (hs : swapsWith e (some (.Attribute o f pos')) pos.line X.env = pure false := by rfl) :
    QS X W (.Assign [.Attribute o f pos'] e pos) (sFldS c f fo fe) := by
  obtain ⟨C, hC, cl, na⟩ := h.ex
  refine PS.weak (ps_fld ho he hs) ?_
  rintro D σ H ⟨N, a, ρ, ⟨rfl, sr, en⟩, h⟩
  refine ⟨N, a, ρ, ⟨rfl, sr, en⟩, (PostS.thn_out (rel := MR X.K X.mg N) en h).mono ?_⟩
  rintro y H1 ⟨b, m, rfl, x, sb, r, h1⟩
  refine ⟨N, b, ρ, ⟨rfl, sb, en.ext x⟩, (PostS.thn_out (rel := MR X.K X.mg N) (en.ext x) h1).mono ?_⟩
  rintro ov H2 ⟨d, mo, rfl, x2, sd, ro, h2⟩
  split at h2
  · rename_i k
    obtain ⟨hk, rfl⟩ := ro
    split at h2
    · rename_i c' fs q
      split at h2
      · rename_i hc
        obtain ⟨rfl, hl⟩ := hc
        obtain ⟨C', dx, ws, hp, hm, t⟩ := sd.at_ k _ q
        rw [hC] at hm
        cases hm
        refine ⟨_, C, dx, ws, rfl, hp, cl, na f hf, by rw [← paired_len t]; exact hl, ?_⟩
        obtain ⟨ex, sr'⟩ := written (o := .ins C dx (putF f y ws)) (ob' := .ins c' (putM f m fs)) sd q (by simp) (by simp) fun b' xb q' => ⟨C, dx, _, q', hC, paired_put ((r.ext x2).ext xb) (MRps.ext xb t)⟩
        exact h2 _ σ rfl ex sr' (((en.ext x).ext x2).ext ex)
      · exact h2.elim
    · exact h2.elim
  · exact h2.elim
/-- a method m of the class c keeps sp -/
structure HasMeth (P : Program) (w : World) (K : PySem.W.Frag) (mg : Str → Option Value) (base : Heap) (c m : Str) (k : Nat) (sp : Sp) : Prop where
  ex : ∃ C f fd ps, mg c = some (.ref C) ∧ Cls K C ∧ Meth K C m f ∧ FnOk P w K mg base (L2.CX P w) k f fd ps sp ∧ Binds K fd ps []
def eMeth (c m : Str) (F : SFn) (fo : XE) (g : XA) : XE := fun ρ S => (fo ρ S).bind fun x S1 => match insOf S1 x with
  | some (c', fs) => if c' = c then (match fs.lookup m with | none => (g ρ S1).bind fun ms S2 => F (x :: ms) S2 | some _ => .stuck) else .stuck
  | none => .stuck
theorem meth_read {K : PySem.W.Frag} {mg : Str → Option Value} {c m : Str} {F : SFn} {fo : XE} {g : XA} {C : Addr} {sp : Sp} {E : XK} (hC : mg c = some (.ref C)) (so : SpOk K mg sp F) (hE : ∀ σ cls d H, E cls d H ↔ W cls d σ H) (σ : St) (H : Hp) (Q : VK) (h : IE K mg W (eMeth c m F fo g) σ H Q) : tMeth C m sp [] E (IE K mg W fo) (IA K mg W g) σ H Q := by
  obtain ⟨N, a, ρ, ⟨rfl, sr, en⟩, h⟩ := h
  refine ⟨N, a, ρ, ⟨rfl, sr, en⟩, (Post.bind_out (rel := MR K mg N) h).mono ?_⟩
  rintro v H1 ⟨b, mm, rfl, x, sb, rm, h1⟩
  split at h1
  · rename_i c' fs q
    split at h1
    · rename_i ec
      subst ec
      obtain ⟨p, C', dx, ws, rfl, hp, hm', t⟩ := insOf_ok sb rm q
      rw [hC] at hm'
      cases hm'
      split at h1
      · rename_i l
        refine ⟨p, dx, ws, rfl, hp, (paired_lookup t).2 l, N, b, ρ, ⟨rfl, sb, en.ext x⟩, (Post.bind_out (rel := RelA K mg N) h1).mono ?_⟩
        rintro vs H2 ⟨d, ms, rfl, x2, sd, rs, h2⟩
        rw [List.append_nil]
        have e1 : (fun c d H' => W c d σ H') = E := by funext c d H'; exact propext (hE σ c d H').symm
        rw [e1] at h2
        exact so N d _ _ _ Q sd (.cons (rm.ext x2) rs) h2
      · exact h1.elim
    · exact h1.elim
  · exact h1.elim
/-- o.m(e, ..), where what is raised is wanted whatever the slots are -/
theorem qe_meth {k : Nat} {c m : Str} {o e : Expr} {es : List Expr} {apos pos : Pos} {fo : XE} {g : XA} {sp : Sp} {F : SFn} {E : XK} {pl : Sem Bool} (h : HasMeth X.prog X.w X.K X.mg X.base c m k sp) (so : SpOk X.K X.mg sp F) (hr : Room k X.A) (tk : Takes X (WD E)) (ho : QE X (WD E) o fo) (ha : QA X (WD E) (e :: es) g)
    (hst : starEach (e :: es) X.env = (false, eval e X.env) :: starEach es X.env := by rfl) (hpl : (backTo pos (starEach es X.env)).any (·.1) = false := by rfl)
    (ht : eval (.Call (.Attribute o m apos) (e :: es) [] pos) X.env = (do
      let ov ← eval o X.env
      standAt apos.atName
      let (f, first) ← holding [ov] (getMethod ov m pl)
      callWith pos f first (backTo pos (starEach (e :: es) X.env)) (backToKw pos (keywordEach [] X.env))) := by rfl) : QE X (WD E) (.Call (.Attribute o m apos) (e :: es) [] pos) (eMeth c m F fo g) := by
  obtain ⟨C, f, fd, ps, hC, cl, hm, FO, hb⟩ := h.ex
  exact PE.weak (pe_meth ho cl hm FO hr hb .nil (passes_call tk fun _ _ _ _ z => z) ha hst hpl ht) (meth_read hC so fun _ _ _ _ => Iff.rfl)
theorem qe_meth0 {k : Nat} {c m : Str} {o : Expr} {apos pos : Pos} {fo : XE} {sp : Sp} {F : SFn} {E : XK} {pl : Sem Bool} (h : HasMeth X.prog X.w X.K X.mg X.base c m k sp) (so : SpOk X.K X.mg sp F) (hr : Room k X.A) (tk : Takes X (WD E)) (ho : QE X (WD E) o fo)
    (ht : eval (.Call (.Attribute o m apos) [] [] pos) X.env = (do
      let ov ← eval o X.env
      standAt apos.atName
      let (f, first) ← holding [ov] (getMethod ov m pl)
      callWith pos f first (backTo pos (starEach [] X.env)) (backToKw pos (keywordEach [] X.env))) := by rfl) : QE X (WD E) (.Call (.Attribute o m apos) [] [] pos) (eMeth c m F fo aNil) := by
  obtain ⟨C, f, fd, ps, hC, cl, hm, FO, hb⟩ := h.ex
  refine PE.weak (pe_meth0 ho cl hm FO hr hb .nil (passes_call tk fun _ _ _ _ z => z) ht) fun σ H Q h => ?_
  obtain ⟨N, a, ρ, r, h⟩ := meth_read hC so (fun _ _ _ _ => Iff.rfl) σ H Q h
  refine ⟨N, a, ρ, r, h.mono fun v H1 ⟨p, dx, ws, e1, e2, e3, N', b, ρ', r', h'⟩ => ⟨p, dx, ws, e1, e2, e3, ?_⟩⟩
  obtain ⟨rfl, sb, _⟩ := r'
  exact h' b [] rfl (.refl b) sb .nil
/-! ### new instances -/
structure HasInit (P : Program) (w : World) (K : PySem.W.Frag) (mg : Str → Option Value) (base : Heap) (c : Str) (k : Nat) (sp : Sp) : Prop where
  ex : ∃ C f fd ps, mg c = some (.ref C) ∧ Mk K C f ∧ FnOk P w K mg base (L2.CX P w) k f fd ps sp ∧ Binds K fd ps []
def mkIns (c : Str) (F : SFn) (ms : List Mv) (S : Sto) : Rz Mv := (F (.loc S.length :: ms) (S ++ [.ins c []])).bind fun m S2 => match m with
  | .val .non => .ok (.loc S.length) S2
  | _ => .stuck
theorem qe_make {k : Nat} {c : Str} {p pos : Pos} {e : Expr} {es : List Expr} {g : XA} {sp : Sp} {F : SFn} {E : XK} (h : HasInit X.prog X.w X.K X.mg X.base c k sp) (so : SpOk X.K X.mg sp F) (hr : Room (k + 1) X.A) (tk : Takes X (WD E)) (ha : QA X (WD E) (e :: es) g) (hg : Gl X c := by rfl) (hdb : (c == ("__debug__" : Str)) = false := by decide)
    (he : starEach (e :: es) X.env = (false, eval e X.env) :: starEach es X.env := by rfl) (hpl : (backTo pos (starEach es X.env)).any (·.1) = false := by rfl) : QE X (WD E) (.Call (.Name c p) (e :: es) [] pos) (eMk (mkIns c F) g) := by
  obtain ⟨C, f, fd, ps, hC, mk, FO, hb⟩ := h.ex
  refine PE.weak (pe_make mk FO hr hg hC hb .nil (passes_call tk fun _ _ _ _ z => z) ha hdb he hpl) ?_
  rintro σ H Q ⟨N, a, ρ, ⟨rfl, sr, en⟩, h⟩
  refine ⟨N, a, ρ, ⟨rfl, sr, en⟩, (Post.bind_out (rel := RelA X.K X.mg N) h).mono ?_⟩
  rintro vs H1 ⟨b, ms, rfl, x, sb, rs, h1⟩
  intro y dx hy hdx ne
  obtain ⟨x1, s1, _⟩ := laid (o := .own y) sb hdx
  have hy' : upd b.H dx (.own y) y = none := by rw [upd_ne (Ne.symm ne)]; exact hy
  obtain ⟨x2, s2⟩ := placed (a := ⟨b.i, b.S, upd b.H dx (.own y)⟩) (o := .ins C dx []) (ob := .ins c []) s1 hy' fun b' _ q => ⟨C, dx, [], q, hC, .nil⟩
  rw [List.append_nil]
  refine so N _ (.loc b.S.length :: ms) _ E _ s2 (.cons ⟨by simp, by show V.ref y = V.ref (put b.i b.S.length y b.S.length); rw [put_at]⟩ (MRs.ext (x1.trans x2) rs)) ?_
  refine (Post.bind_out (rel := MR X.K X.mg N) (h1.from_ (x1.trans x2))).mono ?_
  rintro v H2 ⟨d, m, rfl, xd, sd, rm, h3⟩
  split at h3
  · cases rm
    refine ⟨rfl, Post.okm sd h3 ⟨?_, ?_⟩⟩
    · exact Nat.lt_of_lt_of_le (by simp) xd.ln
    · rw [xd.ag b.S.length (by simp)]
      show V.ref y = V.ref (put b.i b.S.length y b.S.length)
      rw [put_at]
  · exact h3.elim
end
end MK

/-! MK, part 5: comprehensions. -/
namespace MK
open PySem L2
def wipeM (ρ : List (Option Mv)) : List Nat → List (Option Mv)
  | [] => ρ
  | v :: vs => (wipeM ρ vs).set v none
inductive Tg where
  | one (i : Nat) | many (is : List Nat)
def Tg.ix : Tg → List Nat
  | .one i => [i]
  | .many is => is
def gNames : List Nat → TGs
  | [] => gNil
  | i :: is => gCons (gName i) (gNames is)
def tgG (K : PySem.W.Frag) : Tg → TG
  | .one i => gName i
  | .many is => gTup K is.length (gNames is)
def setMany : List Nat → List Dv → List (Option Mv) → List (Option Mv)
  | i :: is, d :: ds, ρ => setMany is ds (ρ.set i (some (.val d)))
  | _, _, ρ => ρ
def tgSet : Tg → Mv → List (Option Mv) → Option (List (Option Mv))
  | .one i, m, ρ => some (ρ.set i (some m))
  | .many is, .val (.tup ds), ρ => if ds.length = is.length then some (setMany is ds ρ) else none
  | _, _, _ => none
section
variable {K : PySem.W.Frag} {mg : Str → Option Value} {N : Addr → Prop}
theorem wipe_len (σ : St) : ∀ vs : List Nat, (wipe σ vs).length = σ.length := wipe_length σ
theorem wipe_get (σ : St) (k : Nat) : ∀ vs : List Nat, (wipe σ vs)[k]? = if k ∈ vs then (if k < σ.length then some none else none) else σ[k]?
  | [] => by simp [wipe]
  | v :: vs => by
    unfold wipe
    rw [List.getElem?_set]
    by_cases hv : v = k
    · subst hv
      simp [wipe_length]
    · have hv' : ¬ k = v := fun e => hv e.symm
      simp only [hv, if_false, List.mem_cons, hv', false_or]
      exact wipe_get σ k vs
theorem wipe_set {σ : St} {i : Nat} {x : Option V} {vs : List Nat} (h : i ∈ vs) : wipe (σ.set i x) vs = wipe σ vs := by
  refine List.ext_getElem? fun k => ?_
  rw [wipe_get, wipe_get]
  by_cases hk : k ∈ vs
  · simp [hk]
  · have : ¬ i = k := fun e => hk (e ▸ h)
    simp only [hk, if_false]
    rw [List.getElem?_set_ne this]
theorem wipe_wipe (σ : St) (vs : List Nat) : wipe (wipe σ vs) vs = wipe σ vs := by
  refine List.ext_getElem? fun k => ?_
  rw [wipe_get, wipe_get]
  by_cases hk : k ∈ vs <;> simp [hk, wipe_length]
theorem EnvR.wipe {a : S3} {ρ : List (Option Mv)} {σ : St} (h : EnvR K mg N a ρ σ) : ∀ vs : List Nat, EnvR K mg N a (wipeM ρ vs) (L2.wipe σ vs)
  | [] => h
  | v :: vs => (EnvR.wipe h vs).unset v
theorem gNames_ok {a : S3} {vs : List Nat} : ∀ {is : List Nat} {ds : List Dv} {ws : List V} {ρ : List (Option Mv)} {σ σ0 : St} {R : St → Hp → Prop}, ds.length = is.length → (∀ i ∈ is, i ∈ vs) → VRs K mg (Fz N a) ds ws → EnvR K mg N a ρ σ → L2.wipe σ vs = L2.wipe σ0 vs →
    (∀ σ2, EnvR K mg N a (setMany is ds ρ) σ2 → L2.wipe σ2 vs = L2.wipe σ0 vs → R σ2 a.H) → gNames is ws σ a.H R
  | [], [], _, _, _, _, _, _, _, .nil, en, e, h => ⟨rfl, h _ en e⟩
  | i :: is, d :: ds, _, _, _, _, _, hl, hi, .cons r t, en, e, h => by
    refine ⟨_, _, rfl, ?_⟩
    exact gNames_ok (by simpa using hl) (fun j hj => hi j (List.mem_cons_of_mem _ hj)) t (en.set (m := .val d) i r) (by rw [wipe_set (hi i List.mem_cons_self)]; exact e) h
theorem tgG_ok {a : S3} {t : Tg} {m : Mv} {v : V} {ρ ρ2 : List (Option Mv)} {σ : St} {R : St → Hp → Prop} (r : MR K mg N a m v) (en : EnvR K mg N a ρ (L2.wipe σ t.ix)) (e : tgSet t m ρ = some ρ2)
    (h : ∀ σ2, EnvR K mg N a ρ2 σ2 → L2.wipe σ2 t.ix = L2.wipe σ t.ix → R σ2 a.H) : tgG K t v (L2.wipe σ t.ix) a.H R := by
  cases t with
  | one i =>
    cases e
    exact h _ (en.set i r) ((wipe_set (List.mem_singleton.mpr rfl)).trans (wipe_wipe σ [i]))
  | many is =>
    cases m with
    | loc k => cases e
    | val d =>
      cases d with
      | tup ds =>
        replace e : (if ds.length = is.length then some (setMany is ds ρ) else none) = some ρ2 := e
        split at e
        · rename_i hl
          cases e
          obtain ⟨p, ws, rfl, hs, t⟩ := MR.tup r
          exact ⟨p, ws, rfl, hs, by rw [← t.length]; exact hl, gNames_ok (vs := is) hl (fun _ h => h) t en (wipe_wipe σ is) h⟩
        · cases e
      | _ => cases e
/-- D is hidden and written -/
theorem SR.hid {a : S3} {D : Addr} {o : HO} (sr : SR K mg N a) (hD : N D) : SR K mg N ⟨a.i, a.S, upd a.H D o⟩ ∧ (∀ {m : Mv} {v : V}, MR K mg N a m v → MR K mg N ⟨a.i, a.S, upd a.H D o⟩ m v) := by
  have fz : Sub (Fz N a) (Fz N ⟨a.i, a.S, upd a.H D o⟩) := fun z u h => by
    obtain ⟨h1, h2⟩ := hide_some.mp h
    refine hide_some.mpr ⟨h1, ?_⟩
    show upd a.H D o z = some u
    rw [upd_ne (fun e => h1 (.inl (by rw [e]; exact hD)))]
    exact h2
  have mr : ∀ {m : Mv} {v : V}, MR K mg N a m v → MR K mg N ⟨a.i, a.S, upd a.H D o⟩ m v := fun {m v} h => by
    cases m with
    | val d => exact VR.mono fz h
    | loc k => exact h
  refine ⟨⟨fun b h => ?_, sr.nn, sr.inj, fun k ob e => ?_⟩, mr⟩
  · show upd a.H D o b ≠ none
    by_cases hb : b = D
    · rw [hb, upd_same]; simp
    · rw [upd_ne hb]; exact sr.nm b h
  · have q := sr.at_ k ob e
    have ne : ob ≠ .dead → a.i k ≠ D := fun nd z => sr.nn _ ⟨k, ob, e, nd, rfl⟩ (by rw [z]; exact hD)
    cases ob with
    | lst ms => obtain ⟨ws, h, t⟩ := q; exact ⟨ws, by show upd a.H D o _ = _; rw [upd_ne (ne (by simp))]; exact h, Paired.mapP t fun _ _ z => mr z⟩
    | dK ms => obtain ⟨ws, h, t⟩ := q; exact ⟨ws, by show upd a.H D o _ = _; rw [upd_ne (ne (by simp))]; exact h, Paired.mapP t fun _ _ z => ⟨z.1, mr z.2⟩⟩
    | dT ms => obtain ⟨ws, h, t⟩ := q; exact ⟨ws, by show upd a.H D o _ = _; rw [upd_ne (ne (by simp))]; exact h, Paired.mapP t fun _ _ z => ⟨z.1, mr z.2⟩⟩
    | ins c fs => obtain ⟨C, dx, ws, h, m, t⟩ := q; exact ⟨C, dx, ws, by show upd a.H D o _ = _; rw [upd_ne (ne (by simp))]; exact h, m, Paired.mapP t fun _ _ z => ⟨z.1, mr z.2⟩⟩
    | dead => trivial
/-- more is seen -/
theorem SR.show {a : S3} {N' : Addr → Prop} (up : ∀ x, N x → N' x) (sr : SR K mg N' a) : SR K mg N a ∧ (∀ {m : Mv} {v : V}, MR K mg N' a m v → MR K mg N a m v) := by
  have fz : Sub (Fz N' a) (Fz N a) := fun z u h => by
    obtain ⟨h1, h2⟩ := hide_some.mp h
    refine hide_some.mpr ⟨fun q => h1 ?_, h2⟩
    rcases q with q | q
    · exact .inl (up z q)
    · exact .inr q
  have mr : ∀ {m : Mv} {v : V}, MR K mg N' a m v → MR K mg N a m v := fun {m v} h => by
    cases m with
    | val d => exact VR.mono fz h
    | loc k => exact h
  refine ⟨⟨fun b h => sr.nm b (up b h), fun b h q => sr.nn b h (up b q), sr.inj, fun k ob e => ?_⟩, mr⟩
  have q := sr.at_ k ob e
  cases ob with
  | lst ms => obtain ⟨ws, h, t⟩ := q; exact ⟨ws, h, Paired.mapP t fun _ _ z => mr z⟩
  | dK ms => obtain ⟨ws, h, t⟩ := q; exact ⟨ws, h, Paired.mapP t fun _ _ z => ⟨z.1, mr z.2⟩⟩
  | dT ms => obtain ⟨ws, h, t⟩ := q; exact ⟨ws, h, Paired.mapP t fun _ _ z => ⟨z.1, mr z.2⟩⟩
  | ins c fs => obtain ⟨C, dx, ws, h, m, t⟩ := q; exact ⟨C, dx, ws, h, m, Paired.mapP t fun _ _ z => ⟨z.1, mr z.2⟩⟩
  | dead => trivial
/-- nothing is raised -/
def Rz.nox {α : Type} : Rz α → Rz α
  | .ok a S => .ok a S
  | _ => .stuck
@[simp] theorem Rz.nox_ok {α : Type} (a : α) (S : Sto) : (Rz.ok a S).nox = .ok a S := rfl
open Classical in
noncomputable def lcS (chk : Sto → Prop) (t : Tg) (ρ : List (Option Mv)) (tt : XT) (te : XE) : List Mv → List Mv → Sto → Rz (List Mv)
  | [], acc, S => if chk S then .ok acc S else .stuck
  | m :: ms, acc, S => if chk S then (match tgSet t m ρ with
    | some ρ2 => (tt ρ2 S).nox.bind fun b S1 => match b with
      | true => (te ρ2 S1).nox.bind fun y S2 => if acc.length < sizeLine then lcS chk t ρ tt te ms (acc ++ [y]) S2 else .stuck
      | false => lcS chk t ρ tt te ms acc S1
    | none => .stuck) else .stuck
theorem Rz.bind_assoc {α β γ : Type} (x : Rz α) (f : α → Sto → Rz β) (g : β → Sto → Rz γ) : (x.bind f).bind g = x.bind fun a S => (f a S).bind g := by cases x <;> rfl
abbrev W0 : WX := fun _ _ _ _ => False
theorem Post.nox_out {α β γ δ : Type} {rel : S3 → α → β → Prop} {rel2 : S3 → γ → δ → Prop} {N2 : Addr → Prop} {a a2 : S3} {W : XK} {Q : δ → Hp → Prop} {x : Rz α} {f : α → Sto → Rz γ} (h : Post rel2 K mg N2 a2 W Q (x.nox.bind f)) :
    Post rel K mg N a (fun _ _ _ => False) (fun v H1 => ∃ b m, b.H = H1 ∧ Ext a b ∧ SR K mg N b ∧ rel b m v ∧ Post rel2 K mg N2 a2 W Q (f m b.S)) x := by
  cases x with
  | ok m S' => exact fun b v e y s r => ⟨b, m, rfl, y, s, r, by rw [e]; exact h⟩
  | exn e S' => exact h.elim
  | stuck => exact h
end
section
variable {X : Cx} {W : WX}
noncomputable def eLc (fin : List Mv → Sto → Rz Mv) (f : XI) (t : Tg) (tt : XT) (te : XE) : XE := fun ρ S => (f ρ S).bind fun p S1 => (lcS p.2 t (wipeM ρ t.ix) tt te p.1 [] S1).bind fin
def finL (ms : List Mv) (S : Sto) : Rz Mv := match vals ms with
  | some ds => .ok (.val (.lst ds)) S
  | none => .stuck
def finN (ms : List Mv) (S : Sto) : Rz Mv := .ok (.loc S.length) (S ++ [.lst ms])
/-- what a list that a comprehension has made becomes -/
def FinOk (K : PySem.W.Frag) (mg : Str → Option Value) (fin : List Mv → Sto → Rz Mv) : Prop := ∀ (N : Addr → Prop) (a c : S3) (D : Addr) (ms : List Mv) (ws : List V) (W : XK) (Q : VK), Ext a c → a.H D = none → SR K mg (fun x => N x ∨ x = D) c → ¬ N D → c.H D = some (.lst ws) → Paired (MR K mg (fun x => N x ∨ x = D) c) ms ws →
  Post (MR K mg N) K mg N a W Q (fin ms c.S) → Q (.ref D) c.H
theorem finL_ok {K : PySem.W.Frag} {mg : Str → Option Value} : FinOk K mg finL := by
  intro N a c D ms ws W Q x hD sr nD h r hq
  unfold finL at hq
  split at hq
  · rename_i ds e
    rw [vals_some e] at r
    obtain ⟨s2, mr⟩ := SR.show (fun x h => .inl h) sr
    refine hq c (.ref D) rfl x s2 (VR.lst (SqL.of (hide_some.mpr ⟨fun q => ?_, h⟩)) (paired_vals (Paired.mapP r fun _ _ z => mr z)))
    rcases q with q | q
    · exact nD q
    · exact sr.nn D q (.inr rfl)
  · exact hq.elim
theorem finN_ok {K : PySem.W.Frag} {mg : Str → Option Value} : FinOk K mg finN := by
  intro N a c D ms ws W Q x hD sr nD h r hq
  obtain ⟨s2, mr⟩ := SR.show (fun x h => .inl h) sr
  have lo : ∀ {k : Nat} {u}, c.S[k]? = some u → put c.i c.S.length D k = c.i k := fun {k u} h => put_ne (Nat.ne_of_lt (List.getElem?_eq_some_iff.mp h).1)
  have get : ∀ {k : Nat} {u}, (c.S ++ [Ob.lst ms])[k]? = some u → c.S[k]? = some u ∨ (k = c.S.length ∧ u = .lst ms) := fun {k u} h => by
    by_cases hk : k < c.S.length
    · rw [List.getElem?_append_left hk] at h; exact .inl h
    · rw [List.getElem?_append_right (Nat.le_of_not_lt hk)] at h
      have hl := (List.getElem?_eq_some_iff.mp h).1
      have e0 : k - c.S.length = 0 := by simp at hl; omega
      rw [e0] at h
      exact .inr ⟨by omega, by simpa using h.symm⟩
  have ownc : ∀ {z}, Own ⟨put c.i c.S.length D, c.S ++ [.lst ms], c.H⟩ z → Own c z ∨ z = D := fun {z} hz => by
    obtain ⟨k, u, e, nd, rfl⟩ := hz
    rcases get e with e | ⟨rfl, rfl⟩
    · exact .inl ⟨k, u, e, nd, (lo e).symm⟩
    · exact .inr put_at
  have notD : ∀ {k : Nat} {u}, c.S[k]? = some u → u ≠ .dead → c.i k ≠ D := fun {k u} e nd z => sr.nn _ ⟨k, u, e, nd, rfl⟩ (.inr z)
  have fz : Sub (Fz (fun x => N x ∨ x = D) c) (Fz N ⟨put c.i c.S.length D, c.S ++ [.lst ms], c.H⟩) := fun z u hz => by
    obtain ⟨h1, h2⟩ := hide_some.mp hz
    refine hide_some.mpr ⟨fun q => h1 ?_, h2⟩
    rcases q with q | q
    · exact .inl (.inl q)
    · rcases ownc q with q | q
      · exact .inr q
      · exact .inl (.inr q)
  have mr2 : ∀ {m : Mv} {v : V}, MR K mg (fun x => N x ∨ x = D) c m v → MR K mg N ⟨put c.i c.S.length D, c.S ++ [.lst ms], c.H⟩ m v := fun {m v} hm => by
    cases m with
    | val d => exact VR.mono fz hm
    | loc k => exact ⟨by simp; exact Nat.lt_succ_of_lt hm.1, by rw [hm.2]; show V.ref (c.i k) = V.ref (put c.i c.S.length D k); rw [put_ne (Nat.ne_of_lt hm.1)]⟩
  have ex : Ext a ⟨put c.i c.S.length D, c.S ++ [.lst ms], c.H⟩ := by
    refine ⟨fun k hk => ?_, ?_, x.kp, fun z hz => ?_⟩
    · show put c.i c.S.length D k = _
      rw [put_ne (Nat.ne_of_lt (Nat.lt_of_lt_of_le hk x.ln))]
      exact x.ag k hk
    · have := x.ln; simp; omega
    · rcases ownc hz with q | rfl
      · exact x.fr z q
      · exact .inr hD
  refine hq ⟨put c.i c.S.length D, c.S ++ [.lst ms], c.H⟩ (.ref D) rfl ex ⟨s2.nm, fun b hb => ?_, fun j k oj ok ej ek nj nk e => ?_, fun k u e => ?_⟩ ⟨by simp, by show V.ref D = V.ref (put c.i c.S.length D c.S.length); rw [put_at]⟩
  · rcases ownc hb with q | rfl
    · exact s2.nn b q
    · exact nD
  · replace e : put c.i c.S.length D j = put c.i c.S.length D k := e
    rcases get ej with e1 | ⟨hj, z1⟩
    · rcases get ek with e2 | ⟨hk, z2⟩
      · rw [lo e1, lo e2] at e; exact s2.inj j k oj ok e1 e2 nj nk e
      · rw [lo e1, hk, put_at] at e
        exact (notD e1 nj e).elim
    · rcases get ek with e2 | ⟨hk, z2⟩
      · rw [lo e2, hj, put_at] at e
        exact (notD e2 nk e.symm).elim
      · rw [hj, hk]
  · show OR K mg N _ (put c.i c.S.length D k) u
    rcases get e with e | ⟨rfl, rfl⟩
    · rw [lo e]
      have q := sr.at_ k u e
      cases u with
      | lst ms => obtain ⟨ws, h, t⟩ := q; exact ⟨ws, h, Paired.mapP t fun _ _ z => mr2 z⟩
      | dK ms => obtain ⟨ws, h, t⟩ := q; exact ⟨ws, h, Paired.mapP t fun _ _ z => ⟨z.1, mr2 z.2⟩⟩
      | dT ms => obtain ⟨ws, h, t⟩ := q; exact ⟨ws, h, Paired.mapP t fun _ _ z => ⟨z.1, mr2 z.2⟩⟩
      | ins c fs => obtain ⟨C, dx, ws, h, m, t⟩ := q; exact ⟨C, dx, ws, h, m, Paired.mapP t fun _ _ z => ⟨z.1, mr2 z.2⟩⟩
      | dead => trivial
    · rw [put_at]
      exact ⟨ws, h, Paired.mapP r fun _ _ z => mr2 z⟩
theorem lc_read {fin : List Mv → Sto → Rz Mv} {f : XI} {t : Tg} {tt : XT} {te : XE} {K : PySem.W.Frag} {mg : Str → Option Value} (hf : FinOk K mg fin) (σ : St) (H : Hp) (Q : VK) (h : IE K mg W (eLc fin f t tt te) σ H Q) :
    tLc (II K mg W f) (tgG K t) (IT K mg W0 tt) (IE K mg W0 te) t.ix σ H Q := by
  obtain ⟨N, a, ρ, ⟨rfl, sr, en⟩, h⟩ := h
  refine ⟨N, a, ρ, ⟨rfl, sr, en⟩, (Post.bind_out (rel := Walks K mg N) h).mono ?_⟩
  rintro J H1 ⟨b, p, rfl, x, sb, wk, h1⟩
  obtain ⟨ms, chk⟩ := p
  intro D hD
  have nD : ¬ N D := fun q => sb.nm D q hD
  have mo : More N (fun x => N x ∨ x = D) b := ⟨fun x h => .inl h, fun x h => h.elim .inl fun e => .inr (by rw [e]; exact hD)⟩
  have eb := en.ext x
  have ext0 : ∀ {c : S3} {o : HO}, Ext b c → Ext b ⟨c.i, c.S, upd c.H D o⟩ := fun {c o} y => ⟨y.ag, y.ln, fun z u hz n => by
    show upd c.H D o z = some u
    rw [upd_ne (fun e => by rw [e, hD] at hz; cases hz)]
    exact y.kp z u hz n, y.fr⟩
  have s0 : SR K mg (fun x => N x ∨ x = D) ⟨b.i, b.S, upd b.H D (.lst [])⟩ := by
    obtain ⟨x1, s1, _⟩ := laid (o := .lst []) sb hD
    refine ⟨fun z hz => ?_, fun z hz q => ?_, s1.inj, fun k ob e => ?_⟩
    · rcases hz with hz | rfl
      · exact s1.nm z hz
      · show upd b.H z _ z ≠ none
        rw [upd_same]; simp
    · rcases q with q | rfl
      · exact s1.nn z hz q
      · exact sb.lt (b := z) hz hD
    · have q := sb.at_ k ob e
      have ne : ∀ {u}, b.H (b.i k) = some u → b.i k ≠ D := fun h e => by rw [e, hD] at h; cases h
      have mr : ∀ {m : Mv} {v : V}, MR K mg N b m v → MR K mg (fun x => N x ∨ x = D) ⟨b.i, b.S, upd b.H D (.lst [])⟩ m v := fun h => h.extN mo x1
      cases ob with
      | lst ms => obtain ⟨ws, h, t⟩ := q; exact ⟨ws, by show upd b.H D _ _ = _; rw [upd_ne (ne h)]; exact h, Paired.mapP t fun _ _ z => mr z⟩
      | dK ms => obtain ⟨ws, h, t⟩ := q; exact ⟨ws, by show upd b.H D _ _ = _; rw [upd_ne (ne h)]; exact h, Paired.mapP t fun _ _ z => ⟨z.1, mr z.2⟩⟩
      | dT ms => obtain ⟨ws, h, t⟩ := q; exact ⟨ws, by show upd b.H D _ _ = _; rw [upd_ne (ne h)]; exact h, Paired.mapP t fun _ _ z => ⟨z.1, mr z.2⟩⟩
      | ins c fs => obtain ⟨C, dx, ws, h, m, t⟩ := q; exact ⟨C, dx, ws, by show upd b.H D _ _ = _; rw [upd_ne (ne h)]; exact h, m, Paired.mapP t fun _ _ z => ⟨z.1, mr z.2⟩⟩
      | dead => trivial
  refine ⟨fun i m H => m = ms.length - i ∧ i ≤ ms.length ∧ ∃ (c : S3) (acc : List Mv) (ws : List V), c.H = H ∧ Ext b c ∧ SR K mg (fun x => N x ∨ x = D) c ∧ H D = some (.lst ws) ∧ Paired (MR K mg (fun x => N x ∨ x = D) c) acc ws ∧
    Post (MR K mg N) K mg N b (fun c d H' => W c d σ H') Q ((lcS chk t (wipeM ρ t.ix) tt te (ms.drop i) acc c.S).bind fin), ⟨_, rfl, Nat.zero_le _, ⟨b.i, b.S, upd b.H D (.lst [])⟩, [], [], rfl, ext0 (.refl b), s0, upd_same, .nil, h1⟩, ?_⟩
  rintro i n H ⟨rfl, hi, c, acc, ws, rfl, xc, sc, hc, ra, hh⟩
  have notOwn : ∀ {e : S3}, SR K mg (fun x => N x ∨ x = D) e → ¬ Own e D := fun s o => s.nn D o (.inr rfl)
  by_cases hl : i < ms.length
  · have ed : ms.drop i = ms[i] :: ms.drop (i + 1) := (List.drop_eq_getElem_cons hl)
    rw [ed] at hh
    unfold lcS at hh
    split at hh
    · rename_i hk
      obtain ⟨_, wk2⟩ := wk _ c mo xc sc hk i
      obtain ⟨go, wk3⟩ := wk2 ms[i] (List.getElem?_eq_getElem hl)
      refine .inr ⟨go, fun H' => i + 1 ≤ ms.length ∧ ∃ (c : S3) (acc : List Mv) (ws : List V), c.H = H' ∧ Ext b c ∧ SR K mg (fun x => N x ∨ x = D) c ∧ H' D = some (.lst ws) ∧ Paired (MR K mg (fun x => N x ∨ x = D) c) acc ws ∧
        Post (MR K mg N) K mg N b (fun c d H' => W c d σ H') Q ((lcS chk t (wipeM ρ t.ix) tt te (ms.drop (i + 1)) acc c.S).bind fin), fun H' q => ⟨ms.length - (i + 1), by omega, rfl, q⟩, fun y H' hy => ?_⟩
      obtain ⟨d, eS, rfl, xd, sd, rm⟩ := wk3 y H' hy
      have hd := xd.kp D _ hc (notOwn sc)
      split at hh
      · rename_i ρ2 et
        refine tgG_ok rm ((eb.extN mo (xc.trans xd)).wipe t.ix) et fun σ2 e2 w2 => ⟨w2, ?_⟩
        rw [← eS] at hh
        rw [Rz.bind_assoc] at hh
        refine ⟨_, d, ρ2, ⟨rfl, sd, e2⟩, (Post.nox_out (rel := RelB) hh).mono ?_⟩
        rintro k H3 ⟨e, k', rfl, xe, se, rk, h3⟩
        cases rk
        have he := xe.kp D _ hd (notOwn sd)
        cases k with
        | true =>
          rw [Rz.bind_assoc] at h3
          refine iteT ⟨_, e, ρ2, ⟨rfl, se, e2.ext xe⟩, (Post.nox_out (rel := MR K mg _) h3).mono ?_⟩
          rintro z H4 ⟨u, m, rfl, xu, su, rz, h4⟩
          have hu := xu.kp D _ he (notOwn se)
          split at h4
          · rename_i hlen
            have ra' := MRs.ext (xd.trans (xe.trans xu)) ra
            obtain ⟨s5, mr5⟩ := SR.hid (o := .lst (ws ++ [z])) su (.inr rfl)
            refine ⟨ws, hu, by rw [← paired_len ra]; exact hlen, hl, ⟨u.i, u.S, upd u.H D (.lst (ws ++ [z]))⟩, acc ++ [m], ws ++ [z], rfl, ext0 (xc.trans (xd.trans (xe.trans xu))), s5, upd_same, (Paired.mapP ra' fun _ _ q => mr5 q).snoc (mr5 rz), h4⟩
          · exact (show False from h4).elim
        | false =>
          exact iteF ⟨hl, e, acc, ws, rfl, xc.trans (xd.trans xe), se, he, MRs.ext (xd.trans xe) ra, h3⟩
      · exact (show False from hh).elim
    · exact (show False from hh).elim
  · have e : i = ms.length := by omega
    subst e
    rw [List.drop_length] at hh
    unfold lcS at hh
    split at hh
    · rename_i hk
      exact .inl ⟨(wk _ c mo xc sc hk _).1 (Nat.le_refl _), hf N b c D acc ws _ Q xc hD sc nD hc ra hh⟩
    · exact (show False from hh).elim
def xYes : XT := fun _ S => .ok true S
theorem qts_nil {X : Cx} : PTs X [] (IT X.K X.mg W0 xYes) := ⟨fun pins s σ H Q I ⟨N, a, ρ, ⟨e, sr, en⟩, h⟩ => pts_nil.run pins s σ H Q I (by subst e; exact h a true rfl (.refl a) sr rfl)⟩
theorem qts_one {X : Cx} {c : Expr} {f : XT} (h : QT X W0 c f) : PTs X [c] (IT X.K X.mg W0 f) := pts_one h
theorem PG.toTg1 {X : Cx} {i : Nat} {e : Expr} (h : PG X e (gName i)) : PG X e (tgG X.K (.one i)) := h
/-- [elt for target in iter if ..], as a value -/
theorem qe_lc {fin : List Mv → Sto → Rz Mv} {elt tg iter : Expr} {ifs : List Expr} {scope : Scope} {own : List (Str × Nat)} {pos : Pos} {f : XI} {t : Tg} {tt : XT} {te : XE} (hf : FinOk X.K X.mg fin) (hc : X.calm = true) (hN : X.N.Nodup) (ok : BlkOk X.N X.env.scope scope own) (ho : own.map (·.2) = t.ix) (hi : QI X W tg iter f)
    (hg : ∀ (s : Shared) (H : Hp) (C : Addr) (cl : List (Str × Addr)) (fp : List Addr), PG (X.blk s H scope (compEnvC scope cl C X.env) fp) tg (tgG X.K t)) (ht : ∀ (s : Shared) (H : Hp) (C : Addr) (cl : List (Str × Addr)) (fp : List Addr), PTs (X.blk s H scope (compEnvC scope cl C X.env) fp) ifs (IT X.K X.mg W0 tt))
    (he : ∀ (s : Shared) (H : Hp) (C : Addr) (cl : List (Str × Addr)) (fp : List Addr), QE (X.blk s H scope (compEnvC scope cl C X.env) fp) W0 elt te) (hs : ∀ x, foldedSetIterable iter X.env x = pure x := by intro _; rfl) :
    QE X W (.ListComp elt [⟨tg, iter, ifs, 0⟩] scope pos) (eLc fin f t tt te) := by
  have h := pe_lc (pos := pos) (te := IE X.K X.mg W0 te) hc hN hi ok hg ht he hs
  rw [ho] at h
  exact PE.weak h (lc_read hf)
/-- y = [..] -/
theorem qs_setLc {fin : List Mv → Sto → Rz Mv} {i : Nat} {y : Str} {py : Pos} {elt tg iter : Expr} {ifs : List Expr} {scope : Scope} {own : List (Str × Nat)} {pos spos : Pos} {f : XI} {t : Tg} {tt : XT} {te : XE} (hf : FinOk X.K X.mg fin) (hc : X.calm = true) (hN : X.N.Nodup) (ok : BlkOk X.N X.env.scope scope own) (ho : own.map (·.2) = t.ix) (hi : QI X W tg iter f)
    (hg : ∀ (s : Shared) (H : Hp) (C : Addr) (cl : List (Str × Addr)) (fp : List Addr), PG (X.blk s H scope (compEnvC scope cl C X.env) fp) tg (tgG X.K t)) (ht : ∀ (s : Shared) (H : Hp) (C : Addr) (cl : List (Str × Addr)) (fp : List Addr), PTs (X.blk s H scope (compEnvC scope cl C X.env) fp) ifs (IT X.K X.mg W0 tt))
    (he : ∀ (s : Shared) (H : Hp) (C : Addr) (cl : List (Str × Addr)) (fp : List Addr), QE (X.blk s H scope (compEnvC scope cl C X.env) fp) W0 elt te) (hy : X.N[i]? = some y := by rfl) (hyl : X.env.scope.names.lookup y = some .local := by rfl)
    (hsw : swapsWith (.ListComp elt [⟨tg, iter, ifs, 0⟩] scope pos) (some (.Name y py)) spos.line X.env = pure true := by exact sw_true rfl rfl rfl (by decide +kernel)) (hs : ∀ x, foldedSetIterable iter X.env x = pure x := by intro _; rfl) :
    QS X W (.Assign [.Name y py] (.ListComp elt [⟨tg, iter, ifs, 0⟩] scope pos) spos) (sSet i (eLc fin f t tt te)) := by
  have h := ps_setLc (py := py) (pos := pos) (spos := spos) (te := IE X.K X.mg W0 te) hc hN hy hyl hsw hi ok hg ht he hs
  rw [ho] at h
  refine PS.weak h ?_
  rintro D σ H ⟨N, a, ρ, ⟨rfl, sr, en⟩, h⟩
  refine lc_read hf σ _ _ ⟨N, a, ρ, ⟨rfl, sr, en⟩, (PostS.thn_out (rel := MR X.K X.mg N) en h).mono ?_⟩
  rintro v H1 ⟨b, m, rfl, x, sb, r, h1⟩
  exact h1 b _ rfl (.refl b) sb ((en.ext x).set i r)
end
end MK

/-! MK, part 6: what operators, calls and methods do, by values. -/
namespace MK
open PySem L2
/-! ### operators of ints -/
def fInt (C : Int → Int → Bool) (g : Int → Int → Dv) : Mv → Mv → Sto → Rz Mv
  | .val (.int i), .val (.int j), S => if C i j then .ok (.val (g i j)) S else .stuck
  | _, _, _ => .stuck
section
variable {X : Cx}
theorem fInt_ok {K : PySem.W.Frag} {mg : Str → Option Value} {C : Int → Int → Prop} {Cb : Int → Int → Bool} {v : Int → Int → V} {g : Int → Int → Dv} (hC : ∀ i j, Cb i j = true → C i j) (hg : ∀ i j, flat1 (g i j) = some (v i j)) : BinOk K mg (rI C v) (fInt Cb g) := by
  intro N a x y u w W Q sr rx ry h
  unfold fInt at h
  split at h
  · rename_i i j
    split at h
    · rename_i hc
      exact ⟨i, j, MR.int rx, MR.int ry, hC i j hc, Post.okv sr h (.flat (hg i j))⟩
    · exact h.elim
  · exact h.elim
theorem fInt_ok0 {K : PySem.W.Frag} {mg : Str → Option Value} {v : Int → Int → V} {g : Int → Int → Dv} (hg : ∀ i j, flat1 (g i j) = some (v i j)) : BinOk K mg (rI0 v) (fInt (fun _ _ => true) g) := by
  intro N a x y u w W Q sr rx ry h
  unfold fInt at h
  split at h
  · rename_i i j
    simp only [if_true] at h
    exact ⟨i, j, MR.int rx, MR.int ry, Post.okv sr h (.flat (hg i j))⟩
  · exact h.elim
abbrev fSub := fInt (fun _ _ => true) fun i j => .int (i - j)
theorem o_sub : OpR X (binaryOp .Sub) (rI0 fun i j => .int (i - j)) ∧ BinOk X.K X.mg (rI0 fun i j => .int (i - j)) fSub := ⟨op_sub, fInt_ok0 fun _ _ => rfl⟩
abbrev fDiv := fInt (fun _ j => decide (0 < j ∧ j < 1073741824)) fun i j => .int (i / j)
theorem o_div : OpR X (binaryOp .FloorDiv) (rI CDiv fun i j => .int (i / j)) ∧ BinOk X.K X.mg (rI CDiv fun i j => .int (i / j)) fDiv := ⟨op_fdiv, fInt_ok (fun i j h => by simpa [CDiv] using h) fun _ _ => rfl⟩
abbrev fMod := fInt (fun _ j => decide (0 < j)) fun i j => .int (i % j)
theorem o_mod : OpR X (binaryOp .Mod) (rI (fun _ j => 0 < j) fun i j => .int (i % j)) ∧ BinOk X.K X.mg (rI (fun _ j => 0 < j) fun i j => .int (i % j)) fMod := ⟨op_mod, fInt_ok (fun i j h => by simpa using h) fun _ _ => rfl⟩
abbrev fMul := fInt (fun i j => decide ((-(2 ^ 64) < i ∧ i < 2 ^ 64) ∨ (-(2 ^ 64) < j ∧ j < 2 ^ 64))) fun i j => .int (i * j)
theorem o_mul : OpR X (binaryOp .Mult) (rI CMul fun i j => .int (i * j)) ∧ BinOk X.K X.mg (rI CMul fun i j => .int (i * j)) fMul := ⟨op_mul, fInt_ok (fun i j h => by simpa [CMul] using h) fun _ _ => rfl⟩
abbrev fPow := fInt (fun i j => decide (0 ≤ j ∧ j ≤ 1000000 ∧ i.natAbs < 2 ^ 64)) fun i j => .int (i ^ j.toNat)
theorem o_pow : OpR X (binaryOp .Pow) (rI CPow fun i j => .int (i ^ j.toNat)) ∧ BinOk X.K X.mg (rI CPow fun i j => .int (i ^ j.toNat)) fPow := ⟨op_pow, fInt_ok (fun i j h => by simpa [CPow] using h) fun _ _ => rfl⟩
abbrev fLt := fInt (fun _ _ => true) fun i j => .bl (decide (i < j))
theorem o_lt : OpR X (compareOp .Lt) (rI0 fun i j => .bl (decide (i < j))) ∧ BinOk X.K X.mg (rI0 fun i j => .bl (decide (i < j))) fLt := ⟨op_lt, fInt_ok0 fun _ _ => rfl⟩
abbrev fLe := fInt (fun _ _ => true) fun i j => .bl (decide (i ≤ j))
theorem o_le : OpR X (compareOp .LtE) (rI0 fun i j => .bl (decide (i ≤ j))) ∧ BinOk X.K X.mg (rI0 fun i j => .bl (decide (i ≤ j))) fLe := ⟨op_le, fInt_ok0 fun _ _ => rfl⟩
abbrev fGt := fInt (fun _ _ => true) fun i j => .bl (decide (j < i))
theorem o_gt : OpR X (compareOp .Gt) (rI0 fun i j => .bl (decide (j < i))) ∧ BinOk X.K X.mg (rI0 fun i j => .bl (decide (j < i))) fGt := ⟨op_gt, fInt_ok0 fun _ _ => rfl⟩
abbrev fGe := fInt (fun _ _ => true) fun i j => .bl (decide (j ≤ i))
theorem o_ge : OpR X (compareOp .GtE) (rI0 fun i j => .bl (decide (j ≤ i))) ∧ BinOk X.K X.mg (rI0 fun i j => .bl (decide (j ≤ i))) fGe := ⟨op_ge, fInt_ok0 fun _ _ => rfl⟩
def fNeg : Mv → Sto → Rz Mv
  | .val (.int i), S => .ok (.val (.int (-i))) S
  | _, _ => .stuck
theorem o_neg : UnR X (unaryOp .USub) (rU fun i => .int (-i)) ∧ UnOk X.K X.mg (rU fun i => .int (-i)) fNeg := by
  refine ⟨un_neg, fun N a x v W Q sr rx h => ?_⟩
  unfold fNeg at h
  split at h
  · exact ⟨_, MR.int rx, Post.okv sr h .int⟩
  · exact h.elim
/-- + -/
def fAdd : Mv → Mv → Sto → Rz Mv
  | .val (.int i), .val (.int j), S => .ok (.val (.int (i + j))) S
  | .val (.str x), .val (.str y), S => if x.length + y.length ≤ sizeLine then .ok (.val (.str (x ++ y))) S else .stuck
  | .val (.tup x), .val (.tup y), S => if x.length + y.length ≤ sizeLine then .ok (.val (.tup (x ++ y))) S else .stuck
  | _, _, _ => .stuck
def rStrAdd : R2 := fun x y H Q => ∃ i j, x = .str i ∧ y = .str j ∧ i.length + j.length ≤ sizeLine ∧ Q (.str (i ++ j)) H
def rAdd3 (K : PySem.W.Frag) : R2 := fun x y H Q => rI0 (fun i j => .int (i + j)) x y H Q ∨ rStrAdd x y H Q ∨ rCatA K x y H Q
theorem sT_append (x y : Tx) : sT x ++ sT y = sT (x ++ y) := by
  have : (sT x ++ sT y).cps = (sT (x ++ y)).cps := by
    show (sT x).cps ++ (sT y).cps = _
    simp [sT]
  cases h1 : sT x ++ sT y
  cases h2 : sT (x ++ y)
  rw [h1, h2] at this
  exact congrArg Str.mk this
theorem VRs.append {K : PySem.W.Frag} {mg : Str → Option Value} {F : Hp} : ∀ {xs ys : List Dv} {vs ws : List V}, VRs K mg F xs vs → VRs K mg F ys ws → VRs K mg F (xs ++ ys) (vs ++ ws)
  | _, _, _, _, .nil, h => h
  | _, _, _, _, .cons r t, h => .cons r (VRs.append t h)
theorem fAdd_ok {K : PySem.W.Frag} {mg : Str → Option Value} : BinOk K mg (rAdd3 K) fAdd := by
  intro N a x y u w W Q sr rx ry h
  unfold fAdd at h
  split at h
  · exact .inl ⟨_, _, MR.int rx, MR.int ry, Post.okv sr h .int⟩
  · split at h
    · rename_i hl
      refine .inr (.inl ⟨_, _, MR.str rx, MR.str ry, by simpa using hl, ?_⟩)
      rw [sT_append]
      exact Post.okv sr h .str
    · exact h.elim
  · split at h
    · rename_i xs ys _ hl
      cases rx with
      | tup hx tx =>
        cases ry with
        | tup hy ty =>
          rename_i p ws q ws2
          refine .inr (.inr ⟨_, _, _, _, rfl, rfl, Fz.sub.sqT hx, Fz.sub.sqT hy, by rw [← tx.length, ← ty.length]; exact hl, fun e => ?_, fun e e2 => ?_, fun e e2 p hp => ?_⟩)
          · subst e
            cases tx
            exact Post.okv sr h (.tup hy ty)
          · subst e2
            cases ty
            rw [List.append_nil] at h
            exact Post.okv sr h (.tup hx tx)
          · obtain ⟨ex, sr', fz⟩ := laid (o := .tup _) sr hp
            exact h ⟨a.i, a.S, upd a.H p _⟩ (.ref p) rfl ex sr' (VR.tup (SqT.of fz) ((tx.append ty).mono ex.fz))
    · exact h.elim
  · exact h.elim
theorem o_add : OpR X (binaryOp .Add) (rAdd3 X.K) ∧ BinOk X.K X.mg (rAdd3 X.K) fAdd := ⟨op_add.or (op_add_str.or op_catA), fAdd_ok⟩
/-- x += e -/
theorem pip_of {op : Operator} {r : R2} (h : OpR X (inplaceOp op) r) (hn : ∀ (a b : Value), True) (hp : (∀ (x y : Int), True) → PIp X op r) : PIp X op r := hp fun _ _ => trivial
/-! ### == and != of data -/
mutual
def toPy : Dv → Option PyData
  | .non => some .none
  | .bl b => some (.bool b)
  | .int i => some (.int i)
  | .str x => some (.str (sT x))
  | .tup ds => (toPys ds).map .tuple
  | .lst ds => (toPys ds).map .list
  | .dK _ | .dT _ | .ins _ _ => none
def toPys : List Dv → Option (List PyData)
  | [] => some []
  | d :: ds => (toPy d).bind fun p => (toPys ds).map (p :: ·)
end
mutual
theorem dp_of {K : PySem.W.Frag} {mg : Str → Option Value} {F H : Hp} (x : Sub F H) : ∀ {d : Dv} {v : V} {p : PyData}, VR K mg F d v → toPy d = some p → Dp K H v p
  | .non, _, _, .non, e => by cases e; exact .non
  | .bl b, _, _, .bl, e => by cases e; exact .bl b
  | .int b, _, _, .int, e => by cases e; exact .int b
  | .str b, _, _, .str, e => by cases e; exact .str _
  | .tup ds, _, _, .tup h t, e => by
    unfold toPy at e
    cases q : toPys ds with
    | none => rw [q] at e; cases e
    | some ps => rw [q] at e; cases e; exact .tup (x.sqT h) (dps_of x t q)
  | .lst ds, _, _, .lst h t, e => by
    unfold toPy at e
    cases q : toPys ds with
    | none => rw [q] at e; cases e
    | some ps => rw [q] at e; cases e; exact .lst (x.sqL h) (dps_of x t q)
  | .dK _, _, _, _, e => by simp [toPy] at e
  | .dT _, _, _, _, e => by simp [toPy] at e
  | .ins _ _, _, _, _, e => by simp [toPy] at e
theorem dps_of {K : PySem.W.Frag} {mg : Str → Option Value} {F H : Hp} (x : Sub F H) : ∀ {d : List Dv} {v : List V} {p : List PyData}, VRs K mg F d v → toPys d = some p → DpAll K H v p
  | [], _, _, .nil, e => by cases e; exact .nil
  | d :: ds, _, _, .cons r t, e => by
    unfold toPys at e
    cases q : toPy d with
    | none => rw [q] at e; cases e
    | some p =>
      cases q2 : toPys ds with
      | none => rw [q, q2] at e; cases e
      | some ps => rw [q, q2] at e; cases e; exact .cons (dp_of x r q) (dps_of x t q2)
end
/-- are they equal, as Python sees it -/
def eqD (d e : Dv) : Option Bool := (toPy d).bind fun p => (toPy e).bind fun q => if SeqAt.shaped p && SeqAt.shaped q then some (PyData.eqv p q) else none
def fEqq (neg : Bool) (x y : Mv) (S : Sto) : Rz Mv := match rfy 8 S x, rfy 8 S y with
  | some d, some e => match eqD d e with
    | some b => .ok (.val (.bl (b != neg))) S
    | none => .stuck
  | _, _ => .stuck
abbrev fEq := fEqq false
abbrev fNe := fEqq true
theorem eqD_ok {K : PySem.W.Frag} {mg : Str → Option Value} {N : Addr → Prop} {a : S3} {d e : Dv} {v w : V} {b : Bool} (rx : VR K mg (hide N a.H) d v) (ry : VR K mg (hide N a.H) e w) (h : eqD d e = some b) :
    ∃ p q, Dp K a.H v p ∧ Dp K a.H w q ∧ SeqAt.shaped p = true ∧ SeqAt.shaped q = true ∧ PyData.eqv p q = b := by
  unfold eqD at h
  cases q1 : toPy d with
  | none => rw [q1] at h; cases h
  | some p =>
    cases q2 : toPy e with
    | none => rw [q1, q2] at h; cases h
    | some q =>
      rw [q1, q2] at h
      simp only [Option.bind_some] at h
      split at h
      · rename_i hs
        cases h
        rw [Bool.and_eq_true] at hs
        exact ⟨p, q, dp_of hide_sub rx q1, dp_of hide_sub ry q2, hs.1, hs.2, rfl⟩
      · cases h
theorem fEqq_ok {K : PySem.W.Frag} {mg : Str → Option Value} (neg : Bool) : BinOk K mg (if neg then rNeD K else rEqD K) (fEqq neg) := by
  intro N a x y u w W Q sr rx ry h
  unfold fEqq at h
  split at h
  · rename_i d e e1 e2
    split at h
    · rename_i b eb
      obtain ⟨p, q, h1, h2, h3, h4, h5⟩ := eqD_ok (rfy_ok sr 8 rx e1) (rfy_ok sr 8 ry e2) eb
      cases neg with
      | false => exact ⟨p, q, h1, h2, h3, h4, by rw [h5]; simpa using Post.okv sr h .bl⟩
      | true => exact ⟨p, q, h1, h2, h3, h4, by rw [h5]; simpa using Post.okv sr h .bl⟩
    · exact h.elim
  · exact h.elim
theorem o_eq {k : Nat} (hr : Room k X.A) : OpR X (compareOp .Eq) (rEqD X.K) ∧ BinOk X.K X.mg (rEqD X.K) fEq := ⟨op_eqD hr.units, fEqq_ok false⟩
theorem o_ne {k : Nat} (hr : Room k X.A) : OpR X (compareOp .NotEq) (rNeD X.K) ∧ BinOk X.K X.mg (rNeD X.K) fNe := ⟨op_neD hr.units, fEqq_ok true⟩
/-- is None -/
def fIsN (neg : Bool) : Mv → Mv → Sto → Rz Mv
  | .val .non, .val .non, S => .ok (.val (.bl (!neg))) S
  | .val (.ins _ _), .val .non, S => .ok (.val (.bl neg)) S
  | .val (.bl _), .val .non, S => .ok (.val (.bl neg)) S
  | .val (.int _), .val .non, S => .ok (.val (.bl neg)) S
  | .val (.str _), .val .non, S => .ok (.val (.bl neg)) S
  | .val (.tup _), .val .non, S => .ok (.val (.bl neg)) S
  | .val (.lst _), .val .non, S => .ok (.val (.bl neg)) S
  | .val (.dK _), .val .non, S => .ok (.val (.bl neg)) S
  | .val (.dT _), .val .non, S => .ok (.val (.bl neg)) S
  | .loc _, .val .non, S => .ok (.val (.bl neg)) S
  | _, _, _ => .stuck
theorem fIsN_ok {K : PySem.W.Frag} {mg : Str → Option Value} (neg : Bool) : BinOk K mg (fun x y H Q => y = .non ∧ Q (.bl (decide (x = .non) != neg)) H) (fIsN neg) := by
  intro N a x y u w W Q sr rx ry h
  unfold fIsN at h
  split at h
  all_goals first
    | exact h.elim
    | (have e := MR.non ry
       subst e
       refine ⟨rfl, ?_⟩)
  · have e := MR.non rx
    subst e
    exact Post.okv sr h (by cases neg <;> exact .bl)
  all_goals first
    | (cases (show VR K mg (Fz N a) _ u from rx) <;> exact Post.okv sr h (by cases neg <;> exact .bl))
    | (obtain ⟨_, e⟩ := (show _ ∧ u = V.ref _ from rx)
       subst e
       exact Post.okv sr h (by cases neg <;> exact .bl))
theorem o_isN : OpR X (compareOp .Is) (fun x y H Q => y = .non ∧ Q (.bl (decide (x = .non) != false)) H) ∧ BinOk X.K X.mg (fun x y H Q => y = .non ∧ Q (.bl (decide (x = .non) != false)) H) (fIsN false) := by
  refine ⟨?_, fIsN_ok false⟩
  have e : (fun (x y : V) (H : Hp) (Q : VK) => y = .non ∧ Q (.bl (decide (x = .non) != false)) H) = (fun x y H Q => y = .non ∧ Q (.bl (decide (x = .non))) H) := by funext x y H Q; simp
  rw [e]; exact op_isN
theorem o_notN : OpR X (compareOp .IsNot) (fun x y H Q => y = .non ∧ Q (.bl (decide (x = .non) != true)) H) ∧ BinOk X.K X.mg (fun x y H Q => y = .non ∧ Q (.bl (decide (x = .non) != true)) H) (fIsN true) := by
  refine ⟨?_, fIsN_ok true⟩
  have e : (fun (x y : V) (H : Hp) (Q : VK) => y = .non ∧ Q (.bl (decide (x = .non) != true)) H) = (fun x y H Q => y = .non ∧ Q (.bl (!decide (x = .non))) H) := by funext x y H Q; simp
  rw [e]; exact op_notN
/-! ### texts: one sign in a text, order -/
def fInS (neg : Bool) : Mv → Mv → Sto → Rz Mv
  | .val (.str [c]), .val (.str z), S => .ok (.val (.bl (decide (c ∈ z) != neg))) S
  | _, _, _ => .stuck
theorem fInS_ok {K : PySem.W.Frag} {mg : Str → Option Value} (neg : Bool) : BinOk K mg (fun x y H Q => ∃ (c : Nat) (z : Str), x = .str ⟨#[c]⟩ ∧ y = .str z ∧ Q (.bl (decide (c ∈ z.cps.toList) != neg)) H) (fInS neg) := by
  intro N a x y u w W Q sr rx ry h
  unfold fInS at h
  split at h
  · refine ⟨_, _, MR.str rx, MR.str ry, ?_⟩
    rw [sT_cps]
    exact Post.okv sr h .bl
  · exact h.elim
theorem o_inS : OpR X (compareOp .In) (fun x y H Q => ∃ (c : Nat) (z : Str), x = .str ⟨#[c]⟩ ∧ y = .str z ∧ Q (.bl (decide (c ∈ z.cps.toList) != false)) H) ∧ BinOk X.K X.mg (fun x y H Q => ∃ (c : Nat) (z : Str), x = .str ⟨#[c]⟩ ∧ y = .str z ∧ Q (.bl (decide (c ∈ z.cps.toList) != false)) H) (fInS false) := by
  refine ⟨?_, fInS_ok false⟩
  have e : (fun (x y : V) (H : Hp) (Q : VK) => ∃ (c : Nat) (z : Str), x = .str ⟨#[c]⟩ ∧ y = .str z ∧ Q (.bl (decide (c ∈ z.cps.toList) != false)) H) = (fun x y H Q => ∃ (c : Nat) (z : Str), x = .str ⟨#[c]⟩ ∧ y = .str z ∧ Q (.bl (decide (c ∈ z.cps.toList))) H) := by funext x y H Q; simp
  rw [e]; exact op_in_sign
theorem o_notInS : OpR X (compareOp .NotIn) (fun x y H Q => ∃ (c : Nat) (z : Str), x = .str ⟨#[c]⟩ ∧ y = .str z ∧ Q (.bl (decide (c ∈ z.cps.toList) != true)) H) ∧ BinOk X.K X.mg (fun x y H Q => ∃ (c : Nat) (z : Str), x = .str ⟨#[c]⟩ ∧ y = .str z ∧ Q (.bl (decide (c ∈ z.cps.toList) != true)) H) (fInS true) := by
  refine ⟨?_, fInS_ok true⟩
  have e : (fun (x y : V) (H : Hp) (Q : VK) => ∃ (c : Nat) (z : Str), x = .str ⟨#[c]⟩ ∧ y = .str z ∧ Q (.bl (decide (c ∈ z.cps.toList) != true)) H) = (fun x y H Q => ∃ (c : Nat) (z : Str), x = .str ⟨#[c]⟩ ∧ y = .str z ∧ Q (.bl (!decide (c ∈ z.cps.toList))) H) := by funext x y H Q; simp
  rw [e]; exact op_notIn_sign
/-- s <= t -/
def fLeS : Mv → Mv → Sto → Rz Mv
  | .val (.str x), .val (.str y), S => .ok (.val (.bl (!decide (y < x)))) S
  | _, _, _ => .stuck
theorem o_leS : OpR X (compareOp .LtE) (fun x y H Q => ∃ i j, x = .str i ∧ y = .str j ∧ Q (.bl (!decide (j.cps.toList < i.cps.toList))) H) ∧ BinOk X.K X.mg (fun x y H Q => ∃ i j, x = .str i ∧ y = .str j ∧ Q (.bl (!decide (j.cps.toList < i.cps.toList))) H) fLeS := by
  refine ⟨op_le_str, fun N a x y u w W Q sr rx ry h => ?_⟩
  unfold fLeS at h
  split at h
  · refine ⟨_, _, MR.str rx, MR.str ry, ?_⟩
    rw [sT_cps, sT_cps]
    exact Post.okv sr h .bl
  · exact h.elim
/-! ### items -/
def fIx (x y : Mv) (S : Sto) : Rz Mv := match y with
  | .val (.int i) => match x with
    | .val (.str z) => if z.length ≤ sizeLine then (match atI z i with
      | some c => .ok (.val (.str [c])) S
      | none => .stuck) else .stuck
    | x => match seqOf S x with
      | some (_, ms) => (match atI ms i with
        | some m => .ok m S
        | none => .stuck)
      | none => .stuck
  | _ => .stuck
theorem atI_paired {α β : Type} {F : α → β → Prop} {xs : List α} {ys : List β} (h : Paired F xs ys) {i : Int} {x : α} (e : atI xs i = some x) : ∃ y, atI ys i = some y ∧ F x y := by
  unfold atI at e ⊢
  rw [← paired_len h]
  cases q : ixN xs.length i with
  | none => rw [q] at e; cases e
  | some j =>
    rw [q] at e
    exact paired_at h e
theorem fIx_seq {K : PySem.W.Frag} {mg : Str → Option Value} {N : Addr → Prop} {a : S3} {x : Mv} {u : V} {i : Int} {W : XK} {Q : VK} (sr : SR K mg N a) (rx : MR K mg N a x u)
    (h : Post (MR K mg N) K mg N a W Q (match seqOf a.S x with | some (_, ms) => (match atI ms i with | some m => Rz.ok m a.S | none => .stuck) | none => .stuck)) : rIx K u (.int i) a.H Q := by
  split at h
  · rename_i s ms e
    obtain ⟨p, ws, rfl, hs, t⟩ := seqOf_ok sr rx e
    split at h
    · rename_i m e2
      obtain ⟨v, e3, r⟩ := atI_paired t e2
      cases s with
      | l => exact .inl ⟨p, ws, i, v, rfl, rfl, hs, e3, Post.okm sr h r⟩
      | t => exact .inr (.inl ⟨p, ws, i, v, rfl, rfl, hs, e3, Post.okm sr h r⟩)
    · exact h.elim
  · exact h.elim
theorem fIx_ok {K : PySem.W.Frag} {mg : Str → Option Value} : BinOk K mg (rIx K) fIx := by
  intro N a x y u w W Q sr rx ry h
  unfold fIx at h
  split at h
  · have e := MR.int ry
    subst e
    split at h
    · have e := MR.str rx
      subst e
      split at h
      · rename_i hl
        split at h
        · rename_i c e2
          exact .inr (.inr ⟨_, _, c, rfl, rfl, by simpa using hl, by rw [sT_cps]; exact e2, Post.okv sr h .str⟩)
        · exact h.elim
      · exact h.elim
    · exact fIx_seq sr rx h
  · exact h.elim
theorem o_ix : IxR X (rIx X.K) ∧ BinOk X.K X.mg (rIx X.K) fIx := ⟨ix_seq, fIx_ok⟩
end
end MK

/-! MK, part 7: built-in functions and methods, slices, constants of the module. -/
namespace MK
open PySem L2
section
variable {X : Cx} {W : WX}
/-! ### len -/
def fLen : List Mv → Sto → Rz Mv
  | [.val (.str z)], S => if z.length ≤ sizeLine then .ok (.val (.int z.length)) S else .stuck
  | [x], S => match seqOf S x with
    | some (_, ms) => .ok (.val (.int ms.length)) S
    | none => .stuck
  | _, _ => .stuck
theorem o_len : CallR X (.builtin "len") (fun xs H Q => ∃ x n, xs = [x] ∧ LenV X.K x H n ∧ Q (.int n) H) ∧ MkOk X.K X.mg (fun xs H Q => ∃ x n, xs = [x] ∧ LenV X.K x H n ∧ Q (.int n) H) fLen := by
  refine ⟨call_len, fun N a xs vs W Q sr r h => ?_⟩
  unfold fLen at h
  split at h
  · obtain ⟨v, rfl, r1⟩ := paired1 r
    have e := MR.str r1
    subst e
    split at h
    · rename_i hl
      refine ⟨_, _, rfl, ⟨by simpa using hl, rfl⟩, ?_⟩
      rw [sT_length]
      exact Post.okv sr h .int
    · exact h.elim
  · obtain ⟨v, rfl, r1⟩ := paired1 r
    split at h
    · rename_i s ms e
      obtain ⟨p, ws, rfl, hs, t⟩ := seqOf_ok sr r1 e
      cases s with
      | l => exact ⟨_, _, rfl, .inl ⟨ws, hs, rfl⟩, by rw [← paired_len t]; exact Post.okv sr h .int⟩
      | t => exact ⟨_, _, rfl, .inr ⟨ws, hs, rfl⟩, by rw [← paired_len t]; exact Post.okv sr h .int⟩
    · exact h.elim
  · exact h.elim
/-! ### int, str, max -/
def fIntOf : List Mv → Sto → Rz Mv
  | [.val (.int i)], S => .ok (.val (.int i)) S
  | [.val (.bl b)], S => .ok (.val (.int (if b then 1 else 0))) S
  | [.val (.str x)], S => if x.length ≤ 640 then (match PySem.intText? (sT x) with
    | some n => .ok (.val (.int n)) S
    | none => .stuck) else .stuck
  | _, _ => .stuck
def rIntOf : List V → Hp → VK → Prop := fun xs H Q => ((∃ i, xs = [.int i] ∧ Q (.int i) H) ∨ ∃ k, xs = [.bl k] ∧ Q (.int (if k then 1 else 0)) H) ∨ ∃ a n, xs = [.str a] ∧ PySem.intText? a = some n ∧ a.length ≤ 640 ∧ Q (.int n) H
theorem o_int : CallR X (.type "int") rIntOf ∧ MkOk X.K X.mg rIntOf fIntOf := by
  refine ⟨call_int1.or call_int_str, fun N a xs vs W Q sr r h => ?_⟩
  unfold fIntOf at h
  split at h
  · obtain ⟨v, rfl, r1⟩ := paired1 r
    have e := MR.int r1
    subst e
    exact .inl (.inl ⟨_, rfl, Post.okv sr h .int⟩)
  · obtain ⟨v, rfl, r1⟩ := paired1 r
    have e := MR.bl r1
    subst e
    exact .inl (.inr ⟨_, rfl, Post.okv sr h .int⟩)
  · obtain ⟨v, rfl, r1⟩ := paired1 r
    have e := MR.str r1
    subst e
    split at h
    · rename_i hl
      split at h
      · rename_i n e
        exact .inr ⟨_, n, rfl, e, by simpa using hl, Post.okv sr h .int⟩
      · exact h.elim
    · exact h.elim
  · exact h.elim
/-- a number's digits -/
def dec (i : Int) : Tx := (Str.ofString (toString i)).cps.toList
theorem sT_dec (i : Int) : sT (dec i) = Str.ofString (toString i) := sT_of _
def fStr : List Mv → Sto → Rz Mv
  | [.val (.int i)], S => if i.natAbs.log2 < 1920 then .ok (.val (.str (dec i))) S else .stuck
  | [.val (.str x)], S => .ok (.val (.str x)) S
  | _, _ => .stuck
def rStrOf : List V → Hp → VK → Prop := fun xs H Q => (∃ i, xs = [.int i] ∧ i.natAbs.log2 < 1920 ∧ Q (.str (toString i)) H) ∨ ∃ a, xs = [.str a] ∧ Q (.str a) H
theorem o_str : CallR X (.type "str") rStrOf ∧ MkOk X.K X.mg rStrOf fStr := by
  refine ⟨call_str_int.or SkE.call_str_str, fun N a xs vs W Q sr r h => ?_⟩
  unfold fStr at h
  split at h
  · obtain ⟨v, rfl, r1⟩ := paired1 r
    have e := MR.int r1
    subst e
    split at h
    · rename_i i hl
      refine .inl ⟨_, rfl, hl, ?_⟩
      have := Post.okv sr h (v := .str (sT (dec i))) .str
      rw [sT_dec] at this
      exact this
    · exact h.elim
  · obtain ⟨v, rfl, r1⟩ := paired1 r
    have e := MR.str r1
    subst e
    exact .inr ⟨_, rfl, Post.okv sr h .str⟩
  · exact h.elim
def fMax2 : List Mv → Sto → Rz Mv
  | [.val (.int i), .val (.int j)], S => .ok (.val (.int (if j > i then j else i))) S
  | _, _ => .stuck
def fMin2 : List Mv → Sto → Rz Mv
  | [.val (.int i), .val (.int j)], S => .ok (.val (.int (if j < i then j else i))) S
  | _, _ => .stuck
theorem o_max2 (hc : X.calm = true) : CallR X (.builtin "max") (fun xs H Q => ∃ i j, xs = [.int i, .int j] ∧ Q (.int (if j > i then j else i)) H) ∧ MkOk X.K X.mg (fun xs H Q => ∃ i j, xs = [.int i, .int j] ∧ Q (.int (if j > i then j else i)) H) fMax2 := by
  refine ⟨call_max2 hc, fun N a xs vs W Q sr r h => ?_⟩
  unfold fMax2 at h
  split at h
  · obtain ⟨v, w, rfl, r1, r2⟩ := paired2 r
    have e := MR.int r1
    have e2 := MR.int r2
    subst e e2
    exact ⟨_, _, rfl, Post.okv sr h .int⟩
  · exact h.elim
theorem o_min2 (hc : X.calm = true) : CallR X (.builtin "min") (fun xs H Q => ∃ i j, xs = [.int i, .int j] ∧ Q (.int (if j < i then j else i)) H) ∧ MkOk X.K X.mg (fun xs H Q => ∃ i j, xs = [.int i, .int j] ∧ Q (.int (if j < i then j else i)) H) fMin2 := by
  refine ⟨call_min2 hc, fun N a xs vs W Q sr r h => ?_⟩
  unfold fMin2 at h
  split at h
  · obtain ⟨v, w, rfl, r1, r2⟩ := paired2 r
    have e := MR.int r1
    have e2 := MR.int r2
    subst e e2
    exact ⟨_, _, rfl, Post.okv sr h .int⟩
  · exact h.elim
/-! ### tuple(x), list(x) -/
def fTupOf : List Mv → Sto → Rz Mv
  | [x], S => match seqOf S x with
    | some (_, ms) => (match vals ms with
      | some ds => .ok (.val (.tup ds)) S
      | none => .stuck)
    | none => .stuck
  | _, _ => .stuck
theorem o_tuple : CallR X (.type "tuple") (fun xs H Q => ∃ p ys, xs = [.ref p] ∧ ((SqL X.K H p ys ∧ ∀ l, H l = none → Q (.ref l) (upd H l (.tup ys))) ∨ (SqT X.K H p ys ∧ Q (.ref p) H))) ∧
    MkOk X.K X.mg (fun xs H Q => ∃ p ys, xs = [.ref p] ∧ ((SqL X.K H p ys ∧ ∀ l, H l = none → Q (.ref l) (upd H l (.tup ys))) ∨ (SqT X.K H p ys ∧ Q (.ref p) H))) fTupOf := by
  refine ⟨call_tuple_of, fun N a xs vs W Q sr r h => ?_⟩
  unfold fTupOf at h
  split at h
  · rename_i x
    obtain ⟨v, rfl, r1⟩ := paired1 r
    cases q : seqOf a.S x with
    | none => rw [q] at h; exact (show False from h).elim
    | some p =>
      obtain ⟨s, ms⟩ := p
      rw [q] at h
      cases q2 : vals ms with
      | none => simp only [q2] at h; exact (show False from h).elim
      | some ds =>
        simp only [q2] at h
        obtain ⟨p, ws, rfl, hs, t⟩ := seqOf_ok sr r1 q
        have e := vals_some q2
        rw [e] at t
        cases s with
        | l =>
          refine ⟨p, ws, rfl, .inl ⟨hs, fun l hl => ?_⟩⟩
          obtain ⟨ex, sr', fz⟩ := laid (o := .tup ws) sr hl
          exact h ⟨a.i, a.S, upd a.H l _⟩ (.ref l) rfl ex sr' (VR.tup (SqT.of fz) ((paired_vals t).mono ex.fz))
        | t =>
          refine ⟨p, ws, rfl, .inr ⟨hs, ?_⟩⟩
          cases x with
          | loc k =>
            unfold seqOf at q
            simp only at q
            split at q <;> cases q
          | val d =>
            cases d with
            | tup ds' =>
              have e2 : ds' = ds := by
                have : some (Sq.t, ds'.map Mv.val) = some (Sq.t, ms) := q
                cases this
                rw [vals_map] at q2
                exact Option.some.inj q2
              subst e2
              exact Post.okm sr h r1
            | lst ds' => cases q
            | _ => cases q
  · exact h.elim
def fLstOf (mk : List Mv → Sto → Rz Mv) : List Mv → Sto → Rz Mv
  | [x], S => match seqOf S x with
    | some (_, ms) => mk ms S
    | none => .stuck
  | _, _ => .stuck
def rLstOf (K : PySem.W.Frag) : List V → Hp → VK → Prop := fun xs H Q => ∃ p ys, xs = [.ref p] ∧ (SqL K H p ys ∨ SqT K H p ys) ∧ ∀ l, H l = none → Q (.ref l) (upd H l (.lst ys))
/-- how a list is made new -/
def NewOk (K : PySem.W.Frag) (mg : Str → Option Value) (mk : List Mv → Sto → Rz Mv) : Prop := ∀ (N : Addr → Prop) (a : S3) (ms : List Mv) (ws : List V) (W : XK) (Q : VK), SR K mg N a → Paired (MR K mg N a) ms ws → Post (MR K mg N) K mg N a W Q (mk ms a.S) → ws.length ≤ sizeLine ∧ ∀ p, a.H p = none → Q (.ref p) (upd a.H p (.lst ws))
theorem newL {K : PySem.W.Frag} {mg : Str → Option Value} : NewOk K mg mkLst := fun _ _ _ _ _ _ => mkLst_ok
theorem newN {K : PySem.W.Frag} {mg : Str → Option Value} : NewOk K mg mkLoc := fun _ _ _ _ _ _ => mkLoc_ok
theorem o_list {mk : List Mv → Sto → Rz Mv} (hm : NewOk X.K X.mg mk) : CallR X (.type "list") (rLstOf X.K) ∧ MkOk X.K X.mg (rLstOf X.K) (fLstOf mk) := by
  refine ⟨call_list_of, fun N a xs vs W Q sr r h => ?_⟩
  unfold fLstOf at h
  split at h
  · obtain ⟨v, rfl, r1⟩ := paired1 r
    split at h
    · rename_i s ms e
      obtain ⟨p, ws, rfl, hs, t⟩ := seqOf_ok sr r1 e
      refine ⟨p, ws, rfl, ?_, (hm N a ms ws W Q sr t h).2⟩
      cases s with
      | l => exact .inl hs
      | t => exact .inr hs
    · exact h.elim
  · exact h.elim
/-! ### join -/
def strsD : List Dv → Option (List Tx)
  | [] => some []
  | .str x :: ds => (strsD ds).map (x :: ·)
  | _ => none
@[simp] theorem strsD_map (xs : List Tx) : strsD (xs.map .str) = some xs := by
  induction xs with
  | nil => rfl
  | cons x xs ih => simp [strsD, ih]
theorem strsD_some : ∀ {ds : List Dv} {xs : List Tx}, strsD ds = some xs → ds = xs.map .str
  | [], _, h => by cases h; rfl
  | .str x :: ds, xs, h => by
    unfold strsD at h
    cases q : strsD ds with
    | none => rw [q] at h; cases h
    | some ys => rw [q] at h; cases h; rw [strsD_some q]; rfl
  | .non :: _, _, h => by cases h
  | .bl _ :: _, _, h => by cases h
  | .int _ :: _, _, h => by cases h
  | .tup _ :: _, _, h => by cases h
  | .lst _ :: _, _, h => by cases h
  | .dK _ :: _, _, h => by cases h
  | .dT _ :: _, _, h => by cases h
  | .ins _ _ :: _, _, h => by cases h
theorem vrs_strs {K : PySem.W.Frag} {mg : Str → Option Value} {F : Hp} : ∀ {xs : List Tx} {vs : List V}, VRs K mg F (xs.map .str) vs → vs = (xs.map sT).map V.str
  | [], _, .nil => rfl
  | x :: xs, _, .cons r t => by cases r; rw [vrs_strs t]; rfl
def joinT (sep : Tx) : List Tx → Tx
  | [] => []
  | [x] => x
  | x :: y :: r => x ++ sep ++ joinT sep (y :: r)
def fJoin : Mv → List Mv → Sto → Rz Mv
  | .val (.str sep), [x], S => match seqOf S x with
    | some (_, ms) => (match vals ms with
      | some ds => (match strsD ds with
        | some xs => if (xs.map (·.length)).sum + xs.length * sep.length ≤ 16777216 then .ok (.val (.str (joinT sep xs))) S else .stuck
        | none => .stuck)
      | none => .stuck)
    | none => .stuck
  | _, _, _ => .stuck
theorem joinL_T (sep : Tx) : ∀ xs : List Tx, TL.joinL sep xs = joinT sep xs
  | [] => rfl
  | [x] => by simp [TL.joinL, joinT]
  | x :: y :: r => by
    have ih := joinL_T sep (y :: r)
    simp only [joinT, ← ih]
    simp [TL.joinL]
def rJoin (K : PySem.W.Frag) : V → List V → Hp → VK → Prop := fun x xs H Q => ∃ a p, ∃ ys : List Str, x = .str a ∧ xs = [.ref p] ∧ (SqL K H p (ys.map V.str) ∨ SqT K H p (ys.map V.str)) ∧
    (ys.map (·.length)).sum + ys.length * a.length ≤ 16777216 ∧ Q (.str (Txt.join a ys)) H
theorem join_sT (sep : Tx) (xs : List Tx) : Txt.join (sT sep) (xs.map sT) = sT (joinT sep xs) := by
  rw [TL.join_eq]
  have h := TL.tl_join (sT sep) (xs.map sT)
  have e1 : TL.tl (sT sep) = sep := sT_cps sep
  have e2 : (xs.map sT).map TL.tl = xs := by
    rw [List.map_map]
    have : (TL.tl ∘ sT) = id := by funext x; exact sT_cps x
    rw [this, List.map_id]
  rw [e1, e2, joinL_T] at h
  rw [← h]
  exact (sT_of _).symm
theorem o_join : MtR X "str.join" (rJoin X.K) ∧ MtOk X.K X.mg (rJoin X.K) fJoin := by
  refine ⟨mt_join, fun N a x v xs vs W Q sr rx r h => ?_⟩
  unfold fJoin at h
  split at h
  · rename_i sep y
    have e := MR.str rx
    subst e
    obtain ⟨v, rfl, r1⟩ := paired1 r
    cases q : seqOf a.S y with
    | none => rw [q] at h; exact (show False from h).elim
    | some p =>
      obtain ⟨s, ms⟩ := p
      rw [q] at h
      cases q2 : vals ms with
      | none => simp only [q2] at h; exact (show False from h).elim
      | some ds =>
        simp only [q2] at h
        cases q3 : strsD ds with
        | none => simp only [q3] at h; exact (show False from h).elim
        | some zs =>
          simp only [q3] at h
          split at h
          · rename_i hz
            obtain ⟨p, ws, rfl, hs, t⟩ := seqOf_ok sr r1 q
            have e := vals_some q2
            have e3 := strsD_some q3
            subst e e3
            have ew := vrs_strs (paired_vals t)
            subst ew
            refine ⟨sT sep, p, zs.map sT, rfl, rfl, ?_, ?_, ?_⟩
            · cases s with
              | l => exact .inl hs
              | t => exact .inr hs
            · have : (zs.map sT).map (·.length) = zs.map (·.length) := by
                rw [List.map_map]; exact List.map_congr_left fun x _ => sT_length x
              rw [this]
              simpa using hz
            · rw [join_sT]
              exact Post.okv sr h .str
          · exact h.elim
  · exact h.elim
/-! ### methods of lists in the store -/
def fAppend : Mv → List Mv → Sto → Rz Mv
  | .loc k, [y], S => match S[k]? with
    | some (.lst ms) => if ms.length < sizeLine then .ok (.val .non) (S.set k (.lst (ms ++ [y]))) else .stuck
    | _ => .stuck
  | _, _, _ => .stuck
theorem o_append : MtR X "list.append" rAppend ∧ MtOk X.K X.mg rAppend fAppend := by
  refine ⟨mt_append, fun N a x v xs vs W Q sr rx r h => ?_⟩
  unfold fAppend at h
  split at h
  · rename_i k y
    obtain ⟨hk, rfl⟩ := rx
    obtain ⟨w, rfl, r1⟩ := paired1 r
    split at h
    · rename_i ms e
      obtain ⟨ws, hw, t⟩ := sr.at_ k _ e
      split at h
      · rename_i hl
        refine ⟨_, ws, w, rfl, rfl, hw, by rw [← paired_len t]; exact hl, ?_⟩
        obtain ⟨ex, sr'⟩ := written (o := .lst (ws ++ [w])) (ob' := .lst (ms ++ [y])) sr e (by simp) (by simp) fun b x q => ⟨_, q, (MRs.ext x t).snoc (r1.ext x)⟩
        exact h _ _ rfl ex sr' VR.non
      · exact h.elim
    · exact h.elim
  · exact h.elim
def fPop : Mv → List Mv → Sto → Rz Mv
  | .loc k, [], S => match S[k]? with
    | some (.lst ms) => (match ms[ms.length - 1]? with
      | some y => .ok y (S.set k (.lst ms.dropLast))
      | none => .stuck)
    | _ => .stuck
  | _, _, _ => .stuck
theorem paired_dropLast {α β : Type} {F : α → β → Prop} : ∀ {xs : List α} {ys : List β}, Paired F xs ys → Paired F xs.dropLast ys.dropLast
  | _, _, .nil => .nil
  | _, _, .cons _ .nil => .nil
  | _, _, .cons r (.cons r2 t) => .cons r (paired_dropLast (.cons r2 t))
theorem o_pop : MtR X "list.pop" rPop ∧ MtOk X.K X.mg rPop fPop := by
  refine ⟨mt_pop, fun N a x v xs vs W Q sr rx r h => ?_⟩
  unfold fPop at h
  split at h
  · rename_i k
    obtain ⟨hk, rfl⟩ := rx
    cases r
    cases e : a.S[k]? with
    | none => rw [e] at h; exact (show False from h).elim
    | some ob =>
      rw [e] at h
      cases ob with
      | lst ms =>
        obtain ⟨ws, hw, t⟩ := sr.at_ k _ e
        cases e2 : ms[ms.length - 1]? with
        | none => simp only [e2] at h; exact (show False from h).elim
        | some y =>
          simp only [e2] at h
          obtain ⟨w, hw2, ry⟩ := paired_at t e2
          rw [paired_len t] at hw2
          refine ⟨_, ws, w, rfl, rfl, hw, hw2, ?_⟩
          obtain ⟨ex, sr'⟩ := written (o := .lst ws.dropLast) (ob' := .lst ms.dropLast) sr e (by simp) (by simp) fun b x q => ⟨_, q, paired_dropLast (MRs.ext x t)⟩
          exact h _ _ rfl ex sr' (ry.ext ex)
      | _ => exact (show False from h).elim
  · exact h.elim
/-- o[i] = v of a list in the store -/
def fSetL : Mv → Mv → Mv → Sto → Rz Unit
  | .loc k, .val (.int i), m, S => match S[k]? with
    | some (.lst ms) => (match ixN ms.length i with
      | some j => .ok () (S.set k (.lst (ms.set j m)))
      | none => .stuck)
    | _ => .stuck
  | _, _, _, _ => .stuck
theorem paired_set {α β : Type} {F : α → β → Prop} {x : α} {y : β} (r : F x y) : ∀ {xs : List α} {ys : List β} (j : Nat), Paired F xs ys → Paired F (xs.set j x) (ys.set j y)
  | _, _, _, .nil => .nil
  | _, _, 0, .cons _ t => .cons r t
  | _, _, j + 1, .cons q t => .cons q (paired_set r j t)
theorem o_setL : PSet X rSetL ∧ SetOk X.K X.mg rSetL fSetL := by
  refine ⟨set_list, fun N a o i mm v w x W Q sr ro ri rm h => ?_⟩
  unfold fSetL at h
  split at h
  · rename_i k i
    obtain ⟨hk, rfl⟩ := ro
    have e := MR.int ri
    subst e
    cases e : a.S[k]? with
    | none => rw [e] at h; exact (show False from h).elim
    | some ob =>
      rw [e] at h
      cases ob with
      | lst ms =>
        obtain ⟨ws, hw, t⟩ := sr.at_ k _ e
        cases e2 : ixN ms.length i with
        | none => simp only [e2] at h; exact (show False from h).elim
        | some j =>
          simp only [e2] at h
          refine ⟨_, ws, _, j, rfl, rfl, hw, by rw [← paired_len t]; exact e2, ?_⟩
          obtain ⟨ex, sr'⟩ := written (o := .lst (ws.set j x)) (ob' := .lst (ms.set j _)) sr e (by simp) (by simp) fun b y q => ⟨_, q, paired_set (rm.ext y) j (MRs.ext y t)⟩
          exact h _ () rfl ex sr' trivial
      | _ => exact (show False from h).elim
  · exact h.elim
/-! ### isinstance(e, T), T a built-in type -/
def tyN (S : Sto) : Mv → Option String
  | .val .non => some "NoneType"
  | .val (.bl _) => some "bool"
  | .val (.int _) => some "int"
  | .val (.str _) => some "str"
  | .val (.tup _) => some "tuple"
  | .val (.lst _) => some "list"
  | .loc k => match S[k]? with
    | some (.lst _) => some "list"
    | some (.dK _) => some "dict"
    | some (.dT _) => some "dict"
    | _ => none
  | _ => none
theorem tyN_ok {K : PySem.W.Frag} {mg : Str → Option Value} {N : Addr → Prop} {a : S3} {m : Mv} {v : V} {t : String} (sr : SR K mg N a) (r : MR K mg N a m v) (e : tyN a.S m = some t) : TyX K a.H v (.type t) := by
  cases m with
  | loc k =>
    obtain ⟨hk, rfl⟩ := r
    replace e : (match a.S[k]? with | some (.lst _) => some "list" | some (.dK _) => some "dict" | some (.dT _) => some "dict" | _ => none) = some t := e
    split at e
    · rename_i ms q
      obtain ⟨ws, h, _⟩ := sr.at_ k _ q
      cases e
      exact .base (.lst h)
    · rename_i ms q
      obtain ⟨ws, h, _⟩ := sr.at_ k _ q
      cases e
      exact .base (.dK h)
    · rename_i ms q
      obtain ⟨ws, h, _⟩ := sr.at_ k _ q
      cases e
      exact .base (.dT h)
    · cases e
  | val d =>
    cases d with
    | non => cases e; have e := MR.non r; subst e; exact .base .non
    | bl b => cases e; have e := MR.bl r; subst e; exact .base (.bl b)
    | int b => cases e; have e := MR.int r; subst e; exact .base (.int b)
    | str b => cases e; have e := MR.str r; subst e; exact .base (.str _)
    | tup ds =>
      cases e
      obtain ⟨p, ws, rfl, h, _⟩ := MR.tup r
      rcases h with (h | ⟨o, h⟩) | ⟨o, its, n, hk, hc, _⟩
      · exact .base (.tup h)
      · exact .fTuple h
      · exact .kTuple hk hc
    | lst ds =>
      cases e
      obtain ⟨p, ws, rfl, h, _⟩ := MR.lst r
      rcases h with (h | ⟨o, h⟩) | ⟨o, its, n, hk, hc, _⟩
      · exact .base (.lst h)
      · exact .base (.frz h)
      · exact .kList hk hc
    | _ => cases e
def isT (T t : String) : Bool := t == T || (t == "bool" && T == "int")
def eIsi (T : String) (f : XE) : XE := fun ρ S => (f ρ S).bind fun x S1 => match tyN S1 x with
  | some t => .ok (.val (.bl (isT T t))) S1
  | none => .stuck
/-- the types that isinstance is asked of -/
def isTs : List String := ["NoneType", "bool", "int", "str", "tuple", "list", "dict"]
theorem qe_isi {T : String} {x y : Str} {p p2 pos : Pos} {e : Expr} {f : XE} (hT : isTs.all (fun t => decide (kitB t T = some (isT T t))) = true := by decide +kernel) (hm : X.mg x = none) (hm2 : X.mg y = none) (he : QE X W e f)
    (hv2 : bootBuiltins y = some (.type T) := by decide +kernel) (hg : Gl X x := by rfl) (hg2 : Gl X y := by rfl) (hv : bootBuiltins x = some (.builtin "isinstance") := by decide +kernel) (hn2 : y ≠ "__name__" := by decide) (hdb2 : (y == ("__debug__" : Str)) = false := by decide)
    (hn : x ≠ "__name__" := by decide) (hdb : (x == ("__debug__" : Str)) = false := by decide)
    (hs1 : starEach [e, .Name y p2] X.env = (false, eval e X.env) :: starEach [.Name y p2] X.env := by rfl) (hs2 : starEach [.Name y p2] X.env = (false, eval (.Name y p2) X.env) :: starEach [] X.env := by rfl) (hpl : (backTo pos (starEach [.Name y p2] X.env)).any (·.1) = false := by rfl) :
    QE X W (.Call (.Name x p) [e, .Name y p2] [] pos) (eIsi T f) := by
  refine PE.weak (pe_callB call_isi hg hm hv (pa_cons he (pa_cons (pe_bltn (v := .ty T) hg2 hm2 hv2 rfl hn2 hdb2) pa_nil hs2) hs1) hn hdb hs1 hpl) ?_
  rintro σ H Q ⟨N, a, ρ, ⟨rfl, sr, en⟩, h⟩
  refine ⟨N, a, ρ, ⟨rfl, sr, en⟩, (Post.bind_out (rel := MR X.K X.mg N) h).mono ?_⟩
  rintro v H1 ⟨b, m, rfl, xx, sb, rm, h1⟩
  split at h1
  · rename_i t et
    have ht : t ∈ isTs := by
      cases m with
      | loc k =>
        replace et : (match b.S[k]? with | some (.lst _) => some "list" | some (.dK _) => some "dict" | some (.dT _) => some "dict" | _ => none) = some t := et
        split at et <;> cases et <;> decide
      | val d => cases d <;> cases et <;> decide
    have hk := of_decide_eq_true (List.all_eq_true.mp hT t ht)
    exact ⟨v, .ty T, .type t, .type T, isT T t, rfl, .ty T, tyN_ok sb rm et, kit_ty hk, Post.okv sb h1 .bl⟩
  · exact h1.elim
/-! ### slices -/
abbrev XO := List (Option Mv) → Sto → Rz (Option Int)
def RelO' (_ : S3) (a b : Option Int) : Prop := a = b
def IO (K : PySem.W.Frag) (mg : Str → Option Value) (W : WX) (f : XO) : TO := fun σ H Q => ∃ N a ρ, Rd3 K mg N a ρ σ H ∧ Post RelO' K mg N a (fun c d H' => W c d σ H') Q (f ρ a.S)
abbrev QO (X : Cx) (W : WX) (e : Option Expr) (f : XO) : Prop := PO X e (IO X.K X.mg W f)
theorem PO.weak {X : Cx} {e : Option Expr} {t u : TO} (h : PO X e t) (w : ∀ σ H Q, u σ H Q → t σ H Q) : PO X e u := ⟨fun pins s σ H Q I q => h.run pins s σ H Q I (w σ H Q q)⟩
def xoN : XO := fun _ S => .ok none S
def xoS (f : XE) : XO := fun ρ S => (f ρ S).bind fun m S1 => match m with
  | .val (.int i) => .ok (some i) S1
  | _ => .stuck
theorem qo_none : QO X W none xoN := by
  refine PO.weak po_none ?_
  rintro σ H Q ⟨N, a, ρ, ⟨rfl, sr, en⟩, h⟩
  exact h a none rfl (.refl a) sr rfl
theorem qo_some {e : Expr} {f : XE} (he : QE X W e f) : QO X W (some e) (xoS f) := by
  refine PO.weak (po_some he) ?_
  rintro σ H Q ⟨N, a, ρ, ⟨rfl, sr, en⟩, h⟩
  refine ⟨N, a, ρ, ⟨rfl, sr, en⟩, (Post.bind_out (rel := MR X.K X.mg N) h).mono ?_⟩
  rintro v H1 ⟨b, m, rfl, x, sb, r, h1⟩
  split at h1
  · exact ⟨_, MR.int r, h1 b _ rfl (.refl b) sb rfl⟩
  · exact h1.elim
/-- the places of a slice -/
def cut {α : Type} (xs : List α) (lo hi : Option Int) : List α := (xs.drop (HT.sIx xs.length 0 lo)).take (HT.sIx xs.length xs.length hi - HT.sIx xs.length 0 lo)
def fSl (mk : List Mv → Sto → Rz Mv) (x : Mv) (lo hi : Option Int) (S : Sto) : Rz Mv := match x with
  | .val (.str z) => if z.length ≤ sizeLine then .ok (.val (.str (cut z lo hi))) S else .stuck
  | .val (.tup ds) => .ok (.val (.tup (cut ds lo hi))) S
  | x => match seqOf S x with
    | some (.l, ms) => mk (cut ms lo hi) S
    | _ => .stuck
def rSlAll (K : PySem.W.Frag) : V → Option Int → Option Int → Hp → VK → Prop := fun x lo hi H Q => rSlS x lo hi H Q ∨ (rSlA K x lo hi H Q ∨ rSlL K x lo hi H Q)
theorem paired_drop {α β : Type} {F : α → β → Prop} : ∀ {xs : List α} {ys : List β} (n : Nat), Paired F xs ys → Paired F (xs.drop n) (ys.drop n)
  | _, _, 0, h => h
  | _, _, _ + 1, .nil => .nil
  | _, _, n + 1, .cons _ t => paired_drop n t
theorem paired_take {α β : Type} {F : α → β → Prop} : ∀ {xs : List α} {ys : List β} (n : Nat), Paired F xs ys → Paired F (xs.take n) (ys.take n)
  | _, _, 0, h => by simp; exact .nil
  | _, _, _ + 1, .nil => .nil
  | _, _, n + 1, .cons r t => .cons r (paired_take n t)
theorem paired_cut {α β : Type} {F : α → β → Prop} {xs : List α} {ys : List β} (h : Paired F xs ys) (lo hi : Option Int) : Paired F (cut xs lo hi) (cut ys lo hi) := by
  unfold cut
  rw [← paired_len h]
  exact paired_take _ (paired_drop _ h)
theorem VRs.iff {K : PySem.W.Frag} {mg : Str → Option Value} {F : Hp} : ∀ {ds : List Dv} {vs : List V}, VRs K mg F ds vs ↔ Paired (VR K mg F) ds vs
  | [], _ => ⟨fun h => by cases h; exact .nil, fun h => by cases h; exact .nil⟩
  | d :: ds, _ => ⟨fun h => by cases h with | cons r t => exact .cons r (VRs.iff.mp t), fun h => by cases h with | cons r t => exact .cons r (VRs.iff.mpr t)⟩
theorem cutV_eq (xs : List V) (lo hi : Option Int) : cutV xs lo hi = cut xs lo hi := rfl
theorem cutS_eq (z : Tx) (lo hi : Option Int) : cutS (sT z) lo hi = sT (cut z lo hi) := by
  unfold cutS cut
  rw [sT_cps, sT_length]
  rfl
def eSl (mk : List Mv → Sto → Rz Mv) (f : XE) (g h : XO) : XE := fun ρ S => (f ρ S).bind fun x S1 => (g ρ S1).bind fun lo S2 => (h ρ S2).bind fun hi S3 => fSl mk x lo hi S3
theorem qe_slice {mk : List Mv → Sto → Rz Mv} {e : Expr} {lo hi : Option Expr} {p2 pos : Pos} {f : XE} {g h : XO} (hm : NewOk X.K X.mg mk) (he : QE X W e f) (hl : QO X W lo g) (hu : QO X W hi h) : QE X W (.Subscript e (.Slice lo hi none p2) pos) (eSl mk f g h) := by
  refine PE.weak (pe_slice (sl_str.or (sl_tupA.or sl_list)) he hl hu) ?_
  rintro σ H Q ⟨N, a, ρ, ⟨rfl, sr, en⟩, h⟩
  refine ⟨N, a, ρ, ⟨rfl, sr, en⟩, (Post.bind_out (rel := MR X.K X.mg N) h).mono ?_⟩
  rintro v H1 ⟨b, m, rfl, x, sb, rm, h1⟩
  refine ⟨N, b, ρ, ⟨rfl, sb, en.ext x⟩, (Post.bind_out (rel := RelO') h1).mono ?_⟩
  rintro lo' H2 ⟨c, lo, rfl, y, sc, rl, h2⟩
  cases rl
  refine ⟨N, c, ρ, ⟨rfl, sc, (en.ext x).ext y⟩, (Post.bind_out (rel := RelO') h2).mono ?_⟩
  rintro hi' H3 ⟨d, hi, rfl, z, sd, rh, h3⟩
  cases rh
  have rm' := (rm.ext y).ext z
  cases m with
  | val dd =>
    cases dd with
    | str s =>
      have e := MR.str rm'
      subst e
      unfold fSl at h3
      simp only at h3
      split at h3
      · rename_i hl
        refine .inl ⟨_, rfl, by simpa using hl, ?_⟩
        rw [cutS_eq]
        exact Post.okv sd h3 .str
      · exact h3.elim
    | tup ds =>
      cases rm' with
      | tup hs t =>
        rename_i p ws
        refine .inr (.inl ⟨p, ws, rfl, Fz.sub.sqT hs, fun e => ?_, fun _ q hq => ?_⟩)
        · have : cut ds lo' hi' = ds := by
            unfold cut
            rw [t.length, e.1, e.2]
            simp only [Nat.sub_zero, List.drop_zero]
            rw [← t.length, List.take_length]
          have h3' : Post (MR X.K X.mg N) X.K X.mg N d (fun c d H' => W c d σ H') Q (.ok (.val (.tup (cut ds lo' hi'))) d.S) := h3
          rw [this] at h3'
          exact Post.okv sd h3' (.tup hs t)
        · obtain ⟨ex, sr', fz⟩ := laid (o := .tup (cutV ws lo' hi')) sd hq
          exact h3 ⟨d.i, d.S, upd d.H q _⟩ (.ref q) rfl ex sr' (VR.tup (SqT.of fz) ((VRs.iff.mpr (paired_cut (VRs.iff.mp t) _ _)).mono ex.fz))
    | lst ds =>
      obtain ⟨p, ws, rfl, hs, t⟩ := MR.lst rm'
      exact .inr (.inr ⟨p, ws, rfl, hs, (hm N d _ _ _ Q sd (paired_cut (VRs.paired t) _ _) h3).2⟩)
    | _ => exact (show False from h3).elim
  | loc k =>
    replace h3 : Post (MR X.K X.mg N) X.K X.mg N d (fun c d H' => W c d σ H') Q (match seqOf d.S (.loc k) with | some (.l, ms) => mk (cut ms lo' hi') d.S | _ => .stuck) := h3
    split at h3
    · rename_i ms e
      obtain ⟨p, ws, rfl, hs, t⟩ := seqOf_ok sd rm' e
      exact .inr (.inr ⟨p, ws, rfl, hs, (hm N d _ _ _ Q sd (paired_cut t _ _) h3).2⟩)
    · exact h3.elim
/-! ### a text walked -/
def iStrM (f : XE) : XI := fun ρ S => (f ρ S).bind fun m S1 => match m with
  | .val (.str x) => .ok (x.map fun c => .val (.str [c]), always) S1
  | _ => .stuck
theorem qi_str {tg l : Expr} {f : XE} (h : QE X W l f) : QI X W tg l (iStrM f) := by
  refine PI.weak (pi_str h) ?_
  rintro σ H R ⟨N, a, ρ, ⟨rfl, sr, en⟩, h⟩
  refine ⟨N, a, ρ, ⟨rfl, sr, en⟩, (Post.bind_out (rel := MR X.K X.mg N) h).mono ?_⟩
  rintro v H1 ⟨b, m, rfl, x, sb, r, h1⟩
  split at h1
  · rename_i z
    have e := MR.str r
    subst e
    refine ⟨_, rfl, h1 b _ rfl (.refl b) sb ?_⟩
    intro N' b' mo x' sb' _ i
    have hsz : (sT z).cps.size = z.length := by simp [sT]
    refine ⟨fun hi => show (sT z).cps.size ≤ i by rw [hsz]; simpa using hi, fun m hm => ?_⟩
    have hi : i < z.length := by
      have := (List.getElem?_eq_some_iff.mp hm).1
      simpa using this
    refine ⟨show i < (sT z).cps.size by rw [hsz]; exact hi, fun y H' hy => ?_⟩
    obtain ⟨rfl, c, hc, rfl⟩ := hy
    have e2 : z[i]? = some c := by simpa [sT] using hc
    have e3 : m = .val (.str [c]) := by
      rw [List.getElem?_map, e2] at hm
      exact (Option.some.inj hm).symm
    subst e3
    exact ⟨b', rfl, rfl, .refl b', sb', VR.str (x := [c])⟩
  · exact h1.elim
/-! ### constants of the module -/
theorem qe_globS {x : Str} {z : Tx} {pos : Pos} (hm : ∃ t, X.mg x = some (.str (sT z) t)) (hg : Gl X x := by rfl) (hd : (x == ("__debug__" : Str)) = false := by decide) : QE X W (.Name x pos) (eC (.str z)) := by
  obtain ⟨t, hm⟩ := hm
  exact qe_C (pe_glob (v := .str (sT z)) hg hm ⟨t, rfl⟩ hd) rfl
theorem qe_globI {x : Str} {i : Int} {pos : Pos} (hm : ∃ t, X.mg x = some (.int i t)) (hg : Gl X x := by rfl) (hd : (x == ("__debug__" : Str)) = false := by decide) : QE X W (.Name x pos) (eC (.int i)) := by
  obtain ⟨t, hm⟩ := hm
  exact qe_C (pe_glob (v := .int i) hg hm ⟨t, rfl⟩ hd) rfl
end
end MK

/-! MK, part 8: fields augmented and as targets, dicts of the module, keywords, the law's own end, repr. -/
namespace MK
open PySem L2
section
variable {X : Cx} {W : WX}
/-! ### fields -/
/-- o.f op= e -/
def sFldAug (c f : Str) (F : Mv → Mv → Sto → Rz Mv) (fo fe : XE) : XS := fun ρ S => (fo ρ S).thn ρ fun x S1 => match x with
  | .loc k => (match insOf S1 (.loc k) with
    | some (c', fs) => if c' = c then (match fs.lookup f with
      | some old => (fe ρ S1).thn ρ fun y S2 => (F old y S2).thn ρ fun z S3 => (match S3[k]? with
        | some (.ins c'' fs') => if c'' = c ∧ fs'.length < 1000 then .nx ρ (S3.set k (.ins c (putM f z fs'))) else .stuck
        | _ => .stuck)
      | none => .stuck) else .stuck
    | none => .stuck)
  | _ => .stuck
def InOkA (X : Cx) (op : Operator) (F : Mv → Mv → Sto → Rz Mv) : Prop := ∃ rd, InOp X op rd ∧ BinOk X.K X.mg rd F
theorem qs_fldaug {o e : Expr} {f c : Str} {pos tpos : Pos} {op : Operator} {F : Mv → Mv → Sto → Rz Mv} {fo fe : XE} {fld : List Str} (h : HasCls X.K X.mg c fld) (hop : InOkA X op F) (ho : QE X W o fo) (he : QE X W e fe) (hf : f ∈ fld := by decide) :
    QS X W (.AugAssign (.Attribute o f tpos) op e pos) (sFldAug c f F fo fe) := by
  obtain ⟨C, hC, cl, na⟩ := h.ex
  obtain ⟨rd, ho1, ho2⟩ := hop
  refine PS.weak (ps_fldaug ho he ho1) ?_
  rintro D σ H ⟨N, a, ρ, ⟨rfl, sr, en⟩, h⟩
  refine ⟨N, a, ρ, ⟨rfl, sr, en⟩, (PostS.thn_out (rel := MR X.K X.mg N) en h).mono ?_⟩
  rintro v H1 ⟨b, m, rfl, x, sb, rm, h1⟩
  split at h1
  · rename_i k
    split at h1
    · rename_i c' fs q
      split at h1
      · rename_i ec
        subst ec
        obtain ⟨p, C', dx, ws, ep, hp, hm, t⟩ := insOf_ok sb rm q
        rw [hC] at hm
        cases hm
        split at h1
        · rename_i old l
          obtain ⟨v0, l2, r0⟩ := (paired_lookup t).1 old l
          refine ⟨p, C, dx, ws, v0, ep, hp, cl, na f hf, l2, N, b, ρ, ⟨rfl, sb, en.ext x⟩, (PostS.thn_out (rel := MR X.K X.mg N) (en.ext x) h1).mono ?_⟩
          rintro y H2 ⟨d, my, rfl, x2, sd, ry, h2⟩
          refine ho2 N d old my v0 y _ _ sd (r0.ext x2) ry ((PostS.thn_out (rel := MR X.K X.mg N) ((en.ext x).ext x2) h2).mono ?_)
          rintro z H3 ⟨e', mz, rfl, x3, se, rz, h3⟩
          split at h3
          · rename_i c'' fs' q3
            split at h3
            · rename_i hc
              obtain ⟨rfl, hl⟩ := hc
              obtain ⟨C', dx', ws', hp', hm', t'⟩ := se.at_ k _ q3
              rw [hC] at hm'
              cases hm'
              have ek : e'.i k = p := by
                obtain ⟨hk, e1⟩ := rm
                rw [ep] at e1
                have e2 : p = b.i k := V.ref.inj e1
                rw [(x2.trans x3).ag k hk, e2]
              rw [ek] at hp'
              refine ⟨dx', ws', hp', by rw [← paired_len t']; exact hl, ?_⟩
              obtain ⟨ex, sr'⟩ := written (o := .ins C dx' (putF f z ws')) (ob' := .ins c'' (putM f mz fs')) se q3 (by simp) (by simp) fun b' xb q' => ⟨C, dx', _, q', hC, paired_put (rz.ext xb) (MRps.ext xb t')⟩
              rw [ek] at ex sr'
              exact h3 _ σ rfl ex sr' ((((en.ext x).ext x2).ext x3).ext ex)
            · exact h3.elim
          · exact h3.elim
        · exact h1.elim
      · exact h1.elim
    · exact h1.elim
  · exact h1.elim
theorem ina_add : InOkA X .Add (fInt (fun _ _ => true) fun i j => .int (i + j)) := ⟨L2.rAdd, in_add, fInt_ok0 (v := fun i j => .int (i + j)) fun _ _ => rfl⟩
theorem in_addI : InOk X .Add (fInt (fun _ _ => true) fun i j => .int (i + j)) := ⟨_, ip_add, fInt_ok0 (v := fun i j => .int (i + j)) fun _ _ => rfl⟩
abbrev fAddI := fInt (fun _ _ => true) fun i j => .int (i + j)
/-- o.f as a target -/
def tgFld (c f : Str) (fo : XE) : XG := fun m ρ S => (fo ρ S).thn ρ fun x S1 => match x with
  | .loc k => (match S1[k]? with
    | some (.ins c' fs) => if c' = c ∧ fs.length < 1000 then .nx ρ (S1.set k (.ins c (putM f m fs))) else .stuck
    | _ => .stuck)
  | _ => .stuck
theorem qg_fld {o : Expr} {f c : Str} {pos : Pos} {fo : XE} {fld : List Str} (h : HasCls X.K X.mg c fld) (ho : QE X W o fo) (hf : f ∈ fld := by decide) : QG X W (.Attribute o f pos) (tgFld c f fo) := by
  obtain ⟨C, hC, cl, na⟩ := h.ex
  refine ⟨fun pins s σ H v u Q I r hw => ?_⟩
  obtain ⟨N, a, ρ, m, ⟨rfl, sr, en⟩, rm, h⟩ := hw
  rw [assign_Attribute]
  refine wpAny_bind (wpAny_holding (thn (ho.run pins s σ _ _ I ⟨N, a, ρ, ⟨rfl, sr, en⟩, PostS.thn_out (rel := MR X.K X.mg N) en h⟩) fun ov s1 hh => ?_))
  obtain ⟨x, H1, I1, rx, b, mo, rfl, xb, sb, ro, h1⟩ := hh
  split at h1
  · rename_i k
    obtain ⟨hk, rfl⟩ := ro
    split at h1
    · rename_i c' fs q
      split at h1
      · rename_i hc
        obtain ⟨rfl, hl⟩ := hc
        obtain ⟨C', dx, ws, hp, hm, t⟩ := sb.at_ k _ q
        rw [hC] at hm
        cases hm
        obtain rfl : ov = Value.ref (b.i k) := rx
        refine wpAny_bind (wpAny_standAt (wpAny_bind (wpAny_holding (setattr_ok I1 hp cl (na f hf) (by rw [← paired_len t]; exact hl) r fun s3 I3 => ?_))))
        obtain ⟨ex, sr'⟩ := written (o := .ins C dx (putF f v ws)) (ob' := .ins c' (putM f m fs)) sb q (by simp) (by simp) fun b' xb' q' => ⟨C, dx, _, q', hC, paired_put ((rm.ext xb).ext xb') (MRps.ext xb' t)⟩
        exact wpAny_release ⟨σ, _, I3, h1 _ σ rfl ex sr' ((en.ext xb).ext ex)⟩
      · exact h1.elim
    · exact h1.elim
  · exact h1.elim
/-! ### a dict of the module: texts to ints -/
def NsAs (K : PySem.W.Frag) (d : Addr) (kvs : List (Tx × Int)) : Prop := ∀ z : Tx, match kvs.lookup z with
  | some i => ∃ t, PySem.W.nsIn K d (sT z) = some (some (.int i t))
  | none => PySem.W.nsIn K d (sT z) = some none
structure HasKD (w : World) (K : PySem.W.Frag) (mg : Str → Option Value) (x : Str) (kvs : List (Tx × Int)) : Prop where
  ex : ∃ d es n, mg x = some (.ref d) ∧ KDict K w d es n ∧ NsAs K d kvs
theorem sT_beq (x y : Tx) : (sT x == sT y) = (y == x) := by
  by_cases h : x = y
  · subst h; simp
  · have h1 : (sT x == sT y) = false := beq_eq_false_iff_ne.mpr fun e => h (sT_inj e)
    have h2 : (y == x) = false := beq_eq_false_iff_ne.mpr fun e => h e.symm
    rw [h1, h2]
theorem nsAs_of {K : PySem.W.Frag} {d : Addr} {es : Array DictEntry} {n : Nat} {kvs : List (Tx × Int)} (h : K.lookup d = some ⟨.type "dict", none, .dict es n, #[]⟩) (p : Paired (fun (e : DictEntry) (p : Tx × Int) => ∃ t u, e.key = .str (sT p.1) t ∧ e.val = .int p.2 u) es.toList kvs) : NsAs K d kvs := by
  intro z
  have key : ∀ {l : List DictEntry} {kvs : List (Tx × Int)}, Paired (fun (e : DictEntry) (p : Tx × Int) => ∃ t u, e.key = .str (sT p.1) t ∧ e.val = .int p.2 u) l kvs →
      (match kvs.lookup z with
        | some i => ∃ t e, l.find? (·.key.isStr (sT z)) = some e ∧ e.val = .int i t
        | none => l.find? (·.key.isStr (sT z)) = none ∧ l.any (·.refKey) = false) := by
    intro l kvs p
    induction p with
    | nil => exact ⟨rfl, rfl⟩
    | @cons e q l kvs r t ih =>
      obtain ⟨tk, u, h1, h2⟩ := r
      obtain ⟨x, i⟩ := q
      have e1 : e.key.isStr (sT z) = (sT x == sT z) := by rw [h1]; rfl
      rw [sT_beq] at e1
      simp only [List.lookup]
      cases q2 : z == x with
      | true =>
        rw [q2] at e1
        exact ⟨u, e, by simp [List.find?, e1], h2⟩
      | false =>
        rw [q2] at e1
        have hr : e.refKey = false := by unfold DictEntry.refKey; rw [h1]
        revert ih
        simp only
        split
        · rintro ⟨t, e', h3, h4⟩
          exact ⟨t, e', by simp [List.find?, e1, h3], h4⟩
        · rintro ⟨h3, h4⟩
          exact ⟨by simp [List.find?, e1, h3], by simp [hr, h4]⟩
  have hk := key p
  unfold PySem.W.nsIn
  rw [h]
  split
  · rename_i i e
    rw [e] at hk
    obtain ⟨t, e', h3, h4⟩ := hk
    exact ⟨t, by simp [h3, h4]⟩
  · rename_i e
    rw [e] at hk
    simp [hk.1, hk.2]
def eInKD (kvs : List (Tx × Int)) (neg : Bool) (f : XE) : XE := fun ρ S => (f ρ S).bind fun m S1 => match m with
  | .val (.str z) => .ok (.val (.bl ((kvs.lookup z).isSome != neg))) S1
  | _ => .stuck
theorem qe_inKD {e : Expr} {x : Str} {p pos : Pos} {f : XE} {kvs : List (Tx × Int)} (h : HasKD X.w X.K X.mg x kvs) (he : QE X W e f) (hg : Gl X x := by rfl) (hd : (x == ("__debug__" : Str)) = false := by decide) (hm : behindInMarks .In (.Name x p) = false := by rfl) : QE X W (.Compare e [.In] [.Name x p] pos) (eInKD kvs false f) := by
  obtain ⟨d, es, n, hx, kd, ns⟩ := h.ex
  refine PE.weak (pe_cmpR (op_in_kd kd) he (pe_glob (v := .ref d) hg hx rfl hd) hm) ?_
  rintro σ H Q ⟨N, a, ρ, ⟨rfl, sr, en⟩, h⟩
  refine ⟨N, a, ρ, ⟨rfl, sr, en⟩, (Post.bind_out (rel := MR X.K X.mg N) h).mono ?_⟩
  rintro v H1 ⟨b, m, rfl, xb, sb, rm, h1⟩
  split at h1
  · rename_i z
    have e1 := MR.str rm
    subst e1
    have hz := ns z
    cases q : kvs.lookup z with
    | some i =>
      rw [q] at hz h1
      obtain ⟨t, hz⟩ := hz
      exact ⟨_, _, rfl, rfl, hz, Post.okv sb h1 .bl⟩
    | none =>
      rw [q] at hz h1
      exact ⟨_, _, rfl, rfl, hz, Post.okv sb h1 .bl⟩
  · exact h1.elim
theorem qe_notInKD {e : Expr} {x : Str} {p pos : Pos} {f : XE} {kvs : List (Tx × Int)} (h : HasKD X.w X.K X.mg x kvs) (he : QE X W e f) (hg : Gl X x := by rfl) (hd : (x == ("__debug__" : Str)) = false := by decide) (hm : behindInMarks .NotIn (.Name x p) = false := by rfl) : QE X W (.Compare e [.NotIn] [.Name x p] pos) (eInKD kvs true f) := by
  obtain ⟨d, es, n, hx, kd, ns⟩ := h.ex
  refine PE.weak (pe_cmpR (op_notIn_kd kd) he (pe_glob (v := .ref d) hg hx rfl hd) hm) ?_
  rintro σ H Q ⟨N, a, ρ, ⟨rfl, sr, en⟩, h⟩
  refine ⟨N, a, ρ, ⟨rfl, sr, en⟩, (Post.bind_out (rel := MR X.K X.mg N) h).mono ?_⟩
  rintro v H1 ⟨b, m, rfl, xb, sb, rm, h1⟩
  split at h1
  · rename_i z
    have e1 := MR.str rm
    subst e1
    have hz := ns z
    cases q : kvs.lookup z with
    | some i =>
      rw [q] at hz h1
      obtain ⟨t, hz⟩ := hz
      exact ⟨_, _, rfl, rfl, hz, Post.okv sb h1 .bl⟩
    | none =>
      rw [q] at hz h1
      exact ⟨_, _, rfl, rfl, hz, Post.okv sb h1 .bl⟩
  · exact h1.elim
def eIxKD (kvs : List (Tx × Int)) (f : XE) : XE := fun ρ S => (f ρ S).bind fun m S1 => match m with
  | .val (.str z) => (match kvs.lookup z with
    | some i => .ok (.val (.int i)) S1
    | none => .stuck)
  | _ => .stuck
theorem qe_ixKD {e : Expr} {x : Str} {p pos : Pos} {f : XE} {kvs : List (Tx × Int)} (h : HasKD X.w X.K X.mg x kvs) (he : QE X W e f) (hg : Gl X x := by rfl) (hd : (x == ("__debug__" : Str)) = false := by decide) (hs : PlainIx e := by exact fun _ _ => rfl) : QE X W (.Subscript (.Name x p) e pos) (eIxKD kvs f) := by
  obtain ⟨d, es, n, hx, kd, ns⟩ := h.ex
  refine PE.weak (pe_ix ix_kdict (pe_glob (v := .ref d) hg hx rfl hd) he hs) ?_
  rintro σ H Q ⟨N, a, ρ, ⟨rfl, sr, en⟩, h⟩
  refine ⟨N, a, ρ, ⟨rfl, sr, en⟩, (Post.bind_out (rel := MR X.K X.mg N) h).mono ?_⟩
  rintro v H1 ⟨b, m, rfl, xb, sb, rm, h1⟩
  split at h1
  · rename_i z
    have e1 := MR.str rm
    subst e1
    have hz := ns z
    split at h1
    · rename_i i q
      rw [q] at hz
      obtain ⟨t, hz⟩ := hz
      exact ⟨_, _, .int i, rfl, rfl, ⟨es, n, _, kd.at_, kd.lit, hz, ⟨t, rfl⟩⟩, Post.okv sb h1 .int⟩
    · exact h1.elim
  · exact h1.elim
/-! ### comparisons as tests -/
def xB (f : XE) : XT := fun ρ S => (f ρ S).bind fun m S1 => match m with
  | .val (.bl b) => .ok b S1
  | _ => .stuck
theorem qt_test {e : Expr} {t : TE} {f : XE} (h : PT X e (tTest t)) (w : ∀ σ H Q, IE X.K X.mg W f σ H Q → t σ H Q) : QT X W e (xB f) := by
  refine PT.weak h ?_
  rintro σ H Q ⟨N, a, ρ, ⟨rfl, sr, en⟩, h⟩
  refine w σ _ _ ⟨N, a, ρ, ⟨rfl, sr, en⟩, (Post.bind_out (rel := MR X.K X.mg N) h).mono ?_⟩
  rintro v H1 ⟨b, m, rfl, xb, sb, rm, h1⟩
  split at h1
  · exact ⟨_, MR.bl rm, h1 b _ rfl (.refl b) sb rfl⟩
  · exact h1.elim
theorem qt_cmp {a b : Expr} {pos : Pos} {op : CmpOp} {r : R2} {F : Mv → Mv → Sto → Rz Mv} {fa fb : XE} (ho : OpR X (compareOp op) r ∧ BinOk X.K X.mg r F) (ha : QE X W a fa) (hb : QE X W b fb) (hm : behindInMarks op b = false := by first | exact nobehind _ (by decide) (by decide) | rfl) :
    QT X W (.Compare a [op] [b] pos) (xB (eBin F fa fb)) := qt_test (pt_cmpR ho.1 ha hb hm) (bin_read ho.2)
theorem chain_read {K : PySem.W.Frag} {mg : Str → Option Value} {r r' : R2} {F G : Mv → Mv → Sto → Rz Mv} {fa fb fc : XE} (ho : BinOk K mg r F) (ho' : BinOk K mg r' G) (σ : St) (H : Hp) (Q : VK) (h : IE K mg W (eChain F G fa fb fc) σ H Q) : tChain r r' (IE K mg W fa) (IE K mg W fb) (IE K mg W fc) σ H Q := by
  obtain ⟨N, a, ρ, ⟨rfl, sr, en⟩, h⟩ := h
  refine ⟨N, a, ρ, ⟨rfl, sr, en⟩, (Post.bind_out (rel := MR K mg N) h).mono ?_⟩
  rintro v H1 ⟨b, m, rfl, x, sb, rm, h1⟩
  refine ⟨N, b, ρ, ⟨rfl, sb, en.ext x⟩, (Post.bind_out (rel := MR K mg N) h1).mono ?_⟩
  rintro w H2 ⟨c, m2, rfl, y, sc, rm2, h2⟩
  refine ho N c m m2 v w (fun c d H' => W c d σ H') _ sc (rm.ext y) rm2 ((Post.bind_out (rel := MR K mg N) h2).mono ?_)
  rintro z H3 ⟨d, m3, rfl, zx, sd, rm3, h3⟩
  split at h3
  · cases rm3
    refine ⟨true, rfl, iteT ⟨N, d, ρ, ⟨rfl, sd, (en.ext x).ext (y.trans zx)⟩, (Post.bind_out (rel := MR K mg N) h3).mono ?_⟩⟩
    rintro w' H4 ⟨e, m4, rfl, q, se, rm4, h4⟩
    exact ho' N e m2 m4 w w' _ Q se (rm2.ext (zx.trans q)) rm4 h4
  · cases rm3
    exact ⟨false, rfl, iteF (Post.okv sd h3 .bl)⟩
  · exact h3.elim
theorem qt_chain {a b c : Expr} {pos : Pos} {op op' : CmpOp} {r r' : R2} {F G : Mv → Mv → Sto → Rz Mv} {fa fb fc : XE} (ho : OpR X (compareOp op) r ∧ BinOk X.K X.mg r F) (ho' : OpR X (compareOp op') r' ∧ BinOk X.K X.mg r' G)
    (ha : QE X W a fa) (hb : QE X W b fb) (hc : QE X W c fc) (hm : lastMarks [op, op'] [b, c] = false := by with_unfolding_all rfl) : QT X W (.Compare a [op, op'] [b, c] pos) (xB (eChain F G fa fb fc)) := qt_test (pt_chain ho.1 ho'.1 ha hb hc hm) (chain_read ho.2 ho'.2)
theorem inKD_read {K : PySem.W.Frag} {mg : Str → Option Value} {d : Addr} {kvs : List (Tx × Int)} {f : XE} {neg : Bool} (ns : NsAs K d kvs) (σ : St) (H : Hp) (Q : VK) (h : IE K mg W (eInKD kvs neg f) σ H Q) :
    tOp (fun x y H Q => ∃ (z : Str) (r : Option Value), x = .str z ∧ y = .ref d ∧ PySem.W.nsIn K d z = some r ∧ Q (.bl (r.isSome != neg)) H) (IE K mg W f) (tC (.ref d)) σ H Q := by
  obtain ⟨N, a, ρ, ⟨rfl, sr, en⟩, h⟩ := h
  refine ⟨N, a, ρ, ⟨rfl, sr, en⟩, (Post.bind_out (rel := MR K mg N) h).mono ?_⟩
  rintro v H1 ⟨b, m, rfl, xb, sb, rm, h1⟩
  split at h1
  · rename_i z
    have e1 := MR.str rm
    subst e1
    have hz := ns z
    cases q : kvs.lookup z with
    | some i =>
      rw [q] at hz h1
      obtain ⟨t, hz⟩ := hz
      exact ⟨_, _, rfl, rfl, hz, Post.okv sb h1 .bl⟩
    | none =>
      rw [q] at hz h1
      exact ⟨_, _, rfl, rfl, hz, Post.okv sb h1 .bl⟩
  · exact h1.elim
theorem qt_inKD {e : Expr} {x : Str} {p pos : Pos} {f : XE} {kvs : List (Tx × Int)} (h : HasKD X.w X.K X.mg x kvs) (he : QE X W e f) (hg : Gl X x := by rfl) (hd : (x == ("__debug__" : Str)) = false := by decide) (hm : behindInMarks .In (.Name x p) = false := by rfl) : QT X W (.Compare e [.In] [.Name x p] pos) (xB (eInKD kvs false f)) := by
  obtain ⟨d, es, n, hx, kd, ns⟩ := h.ex
  refine qt_test (pt_cmpR (op_in_kd kd) he (pe_glob (v := .ref d) hg hx rfl hd) hm) fun σ H Q q => ?_
  have e1 : (fun (x y : V) (H : Hp) (Q : VK) => ∃ (z : Str) (r : Option Value), x = .str z ∧ y = .ref d ∧ PySem.W.nsIn X.K d z = some r ∧ Q (.bl r.isSome) H) = (fun x y H Q => ∃ (z : Str) (r : Option Value), x = .str z ∧ y = .ref d ∧ PySem.W.nsIn X.K d z = some r ∧ Q (.bl (r.isSome != false)) H) := by funext x y H Q; simp
  rw [e1]
  exact inKD_read ns σ H Q q
theorem qt_notInKD {e : Expr} {x : Str} {p pos : Pos} {f : XE} {kvs : List (Tx × Int)} (h : HasKD X.w X.K X.mg x kvs) (he : QE X W e f) (hg : Gl X x := by rfl) (hd : (x == ("__debug__" : Str)) = false := by decide) (hm : behindInMarks .NotIn (.Name x p) = false := by rfl) : QT X W (.Compare e [.NotIn] [.Name x p] pos) (xB (eInKD kvs true f)) := by
  obtain ⟨d, es, n, hx, kd, ns⟩ := h.ex
  refine qt_test (pt_cmpR (op_notIn_kd kd) he (pe_glob (v := .ref d) hg hx rfl hd) hm) fun σ H Q q => ?_
  have e1 : (fun (x y : V) (H : Hp) (Q : VK) => ∃ (z : Str) (r : Option Value), x = .str z ∧ y = .ref d ∧ PySem.W.nsIn X.K d z = some r ∧ Q (.bl (!r.isSome)) H) = (fun x y H Q => ∃ (z : Str) (r : Option Value), x = .str z ∧ y = .ref d ∧ PySem.W.nsIn X.K d z = some r ∧ Q (.bl (r.isSome != true)) H) := by funext x y H Q; simp
  rw [e1]
  exact inKD_read ns σ H Q q
/-! ### calls with keywords alone -/
abbrev QK (X : Cx) (W : WX) (kws : List Keyword) (g : XA) : Prop := PK X kws (IA X.K X.mg W g)
theorem PK.weak {X : Cx} {e : List Keyword} {t u : TA} (h : PK X e t) (w : ∀ σ H Q, u σ H Q → t σ H Q) : PK X e u := ⟨fun pos pins s σ H Q I q => h.run pos pins s σ H Q I (w σ H Q q)⟩
theorem qk_nil : QK X W [] aNil := by
  refine PK.weak pk_nil ?_
  rintro σ H Q ⟨N, a, ρ, ⟨rfl, sr, en⟩, h⟩
  exact h a [] rfl (.refl a) sr .nil
theorem qk_cons {nm : Option Str} {kpos : Pos} {e : Expr} {es : List Keyword} {f : XE} {g : XA} (ha : QE X W e f) (hr : QK X W es g) : QK X W (⟨nm, e, kpos⟩ :: es) (aCons f g) := by
  refine PK.weak (pk_cons ha hr) ?_
  rintro σ H Q ⟨N, a, ρ, ⟨rfl, sr, en⟩, h⟩
  refine ⟨N, a, ρ, ⟨rfl, sr, en⟩, (Post.bind_out (rel := MR X.K X.mg N) h).mono ?_⟩
  rintro v H1 ⟨b, m, rfl, x, sb, rm, h1⟩
  refine ⟨N, b, ρ, ⟨rfl, sb, en.ext x⟩, (Post.bind_out (rel := RelA X.K X.mg N) h1).mono ?_⟩
  rintro ws H2 ⟨c, ms, rfl, y, sc, rms, h2⟩
  exact h2 c _ rfl (.refl c) sc (.cons (rm.ext y) rms)
/-- the items at these places -/
def pick {α : Type} (l : List α) : List Nat → List α
  | [] => []
  | i :: is => match l[i]? with
    | some x => x :: pick l is
    | none => pick l is
theorem pick_paired {α β : Type} {F : α → β → Prop} {xs : List α} {ys : List β} (h : Paired F xs ys) : ∀ is : List Nat, Paired F (pick xs is) (pick ys is)
  | [] => .nil
  | i :: is => by
    unfold pick
    cases q : xs[i]? with
    | some x =>
      obtain ⟨y, h1, h2⟩ := paired_at h q
      rw [h1]
      exact .cons h2 (pick_paired h is)
    | none =>
      have : ys[i]? = none := by
        rw [List.getElem?_eq_none_iff] at q ⊢
        rw [← paired_len h]; exact q
      rw [this]
      exact pick_paired h is
/-- how keywords ks bind: the parameters' values are those at the places ix -/
structure HasFnK (P : Program) (w : World) (K : PySem.W.Frag) (mg : Str → Option Value) (base : Heap) (x : Str) (k : Nat) (sp : Sp) (ks : List Str) (ix : List Nat) : Prop where
  ex : ∃ f fd ps, FnOk P w K mg base (L2.CX P w) k f fd ps sp ∧ mg x = some (.ref f) ∧ PySem.W.keepIn K (.ref f) = true ∧ ∀ (s : Shared) (ws : List Value), K.In s.heap → ws.length = ks.length → BindsTo s fd ⟨[], ks.zip ws⟩ (ps.zip (pick ws ix))
def kwF (n : Nat) (ix : List Nat) (F : SFn) : SFn := fun ms S => if ms.length = n then F (pick ms ix) S else .stuck
theorem qe_callK {k : Nat} {x : Str} {p pos : Pos} {kws : List Keyword} {g : XA} {sp : Sp} {F : SFn} {ks : List Str} {ix : List Nat} (h : HasFnK X.prog X.w X.K X.mg X.base x k sp ks ix) (so : SpOk X.K X.mg sp F) (hr : Room k X.A) (tk : Takes X W) (hkw : QK X W kws g) (hl : kws.length = ks.length := by rfl)
    (hg : Gl X x := by rfl) (hall : (backToKw pos (keywordEach kws X.env)).all (·.1.isSome) = true := by rfl) (hks : (backToKw pos (keywordEach kws X.env)).filterMap (·.1) = ks := by rfl)
    (hdb : (x == ("__debug__" : Str)) = false := by decide)
    (hpl : ((backTo pos (starEach [] X.env)).any (·.1) || (backToKw pos (keywordEach kws X.env)).any (·.1.isNone)) = false := by rfl) :
    QE X W (.Call (.Name x p) [] kws pos) (eMk (kwF ks.length ix F) g) := by
  obtain ⟨f, fd, ps, FO, hm, hk, hb⟩ := h.ex
  refine ⟨fun pins s σ H Q I hw => ?_⟩
  obtain ⟨N, a, ρ, ⟨rfl, sr, en⟩, hw⟩ := hw
  refine wpAny_Call_Name_kw (ld_glob I hg hm ?_ hdb)
  refine PySem.W.callWith_KW0 (first := []) (h₀ := X.base) I.ok.mod.kin hk hall ?_ hpl
  refine thn (hkw.run pos pins s σ _ _ I ⟨N, a, ρ, ⟨rfl, sr, en⟩, Post.bind_out (rel := RelA X.K X.mg N) hw⟩) fun ws s2 hh => ?_
  obtain ⟨vs, H1, I1, rv, b, ms, rfl, xb, sb, rm, h1⟩ := hh
  refine ⟨I1.kIn, ?_⟩
  rw [hks]
  show wpAny _ _ (call (.ref f) ([] ++ []) (ks.zip ws)) _ _ _
  rw [List.append_nil]
  unfold kwF at h1
  split at h1
  · rename_i hlen
    have hw : ws.length = ks.length := by rw [← rv.length, ← paired_len rm]; exact hlen
    have rp : Vals (pick vs ix) (pick ws ix) := pick_paired rv ix
    have hsp := so N b _ _ _ Q sb (pick_paired rm ix) h1
    refine wpAny_call (codeAny_mono (FO.run X.A X.stack s2 b.H ⟨[], ks.zip ws⟩ (pick ws ix) (pick vs ix) Q (WE W σ) hr I1.env0 (hb s2 ws I1.kIn hw) rp hsp) fun r s' hq => ?_)
    cases r with
    | error e => exact passAt tk σ pins b.H s2 e s' I1 hq
    | ok fl =>
      cases fl with
      | ret u => exact I1.after hq
      | next => exact False.elim hq
      | brk => exact False.elim hq
      | cont => exact False.elim hq
  · exact h1.elim
/-! ### repr of data without dicts -/
/-- neither None nor a truth value -/
def rooted : PyData → Bool
  | .none => false
  | .bool _ => false
  | _ => true
def fRepr : List Mv → Sto → Rz Mv
  | [m], S => match rfy 8 S m with
    | some d => (match toPy d with
      | some p => if rooted p && p.showable && !p.hasDict && decide (p.depth ≤ 60) && decide (p.shown.length ≤ sizeLine) then .ok (.val (.str p.shown.cps.toList)) S else .stuck
      | none => .stuck)
    | none => .stuck
  | _, _ => .stuck
def rRepr (K : PySem.W.Frag) : List V → Hp → VK → Prop := fun xs H Q => ∃ v p, xs = [v] ∧ Dp K H v p ∧ rooted p = true ∧ p.showable = true ∧ p.hasDict = false ∧ p.depth ≤ 60 ∧ p.shown.length ≤ sizeLine ∧ Q (.str p.shown) H
theorem call_reprD {k : Nat} (hr : Room k X.A) (hg : X.A.guards = some []) : CallR X (.builtin "repr") (rRepr X.K) := by
  intro pins s σ H xs us Q I r h
  obtain ⟨v, p, rfl, hd, h0, h1, h2, h3, h4, q⟩ := h
  obtain ⟨u, rfl, ru⟩ := vals1 r
  obtain ⟨as, rd⟩ := Dp.reads I p v u hd ru
  have hu := hr.units
  cases rd with
  | none => cases h0
  | bool b => cases h0
  | int i t =>
    exact PySem.P.repr_of_int (by simpa [PyData.showable] using h1) ⟨.str _, H, I.tok _, ⟨_, rfl⟩, by simpa [PyData.shown] using q⟩
  | str x t =>
    have q' : Q (.str (reprText x)) H := by simpa [PyData.shown] using q
    have h4' : (reprText x).length ≤ sizeLine := by simpa [PyData.shown] using h4
    exact PySem.P.repr_of_str ⟨.str _, H, I.tok _, ⟨_, rfl⟩, q'⟩ h4'
  | list e1 e2 e3 e4 =>
    exact repr_of_reads' (Reads.list e1 e2 e3 e4) h1 (fun e => by rw [h2] at e; cases e) hg (by omega) (fun _ _ e => e) (fun h' u tk kk => ⟨.str _, H, I.kept (t' := tk) kk, ⟨_, rfl⟩, q⟩) h4
  | tuple e1 e2 e3 e4 =>
    exact repr_of_reads' (Reads.tuple e1 e2 e3 e4) h1 (fun e => by rw [h2] at e; cases e) hg (by omega) (fun _ _ e => e) (fun h' u tk kk => ⟨.str _, H, I.kept (t' := tk) kk, ⟨_, rfl⟩, q⟩) h4
  | dict => cases hd
theorem o_repr {k : Nat} (hr : Room k X.A) (hg : X.A.guards = some []) : CallR X (.builtin "repr") (rRepr X.K) ∧ MkOk X.K X.mg (rRepr X.K) fRepr := by
  refine ⟨call_reprD hr hg, fun N a xs vs W Q sr r h => ?_⟩
  unfold fRepr at h
  split at h
  · obtain ⟨v, rfl, r1⟩ := paired1 r
    split at h
    · rename_i d e
      split at h
      · rename_i p e2
        split at h
        · rename_i hc
          simp only [Bool.and_eq_true, Bool.not_eq_true', decide_eq_true_eq] at hc
          refine ⟨v, p, rfl, dp_of hide_sub (rfy_ok sr 8 r1 e) e2, hc.1.1.1.1, hc.1.1.1.2, hc.1.1.2, hc.1.2, hc.2, ?_⟩
          have := Post.okv sr h (v := .str (sT p.shown.cps.toList)) .str
          rw [sT_of] at this
          exact this
        · exact h.elim
      · exact h.elim
    · exact h.elim
  · exact h.elim
end
end MK

/-! MK, part 9: the law's own def, called by the claim itself (nothing is under way around it). -/
namespace MK
open PySem L2 PyProof.Rows
/-- the def at f, called by the claim's caller, keeps sp -/
def AtTop (P : Program) (w : World) (K : PySem.W.Frag) (mg : Str → Option Value) (base : Heap) (f : Addr) (fd : FuncData) (x : Str) (sp : Sp) : Prop :=
  ∀ (s : Shared) (H : Hp) (u : Value) (v : V) (Q : VK) (E : XK), Env0 P w K mg base callerA [] s H → BindsTo s fd ⟨[u], []⟩ [(x, u)] → RelV v u → sp [v] H Q E →
    codeAny (model P w) callerA (.call (.ref f) ⟨[u], []⟩) (CR (L2.CX P w) [] P w H s Q E) s
theorem atTop {P : Program} {w : World} {K : PySem.W.Frag} {mg : Str → Option Value} {base : Heap} {x qual arg : Str} {st : Stmt} {f : Addr} {fd : FuncData} {Ns : List Str} {k : Nat} {g : XS} (F : Fun K x qual st f fd) (S : FnScope Ns [arg] (defScope st)) (hr0 : Room (k + 1) callerA)
    (hb : ∀ (cdv : Value) (s : Shared) (H : Hp) (E : XK), Room k (callerA.deeper (envOfC qual (defScope st) s.heap.objs.size f cdv)) →
      QSs (cxOf (L2.CX P w) P w K mg base Ns qual (defScope st) f cdv callerA [] s H E) (WD E) (defBody st) g) :
    AtTop P w K mg base f fd arg (spS K mg (fnS 1 Ns.length g)) := by
  obtain ⟨oc, od, kV, doc, pm, an, cdv, ct, osl, rfl, lk, hcd⟩ := F.ex
  intro s H u v Q E e0 bnd rv hsp
  have inK : K.In s.heap := e0.mod.kin.keeps fun b o e => (e0.bs b o e).1
  have noLim : s.heap.NoLimit := e0.mod.nolimit.keeps fun b o e => (e0.bs b o e).1
  have slots : ∀ y ∈ ([arg] : List Str).zip [u], (defScope st).names.lookup y.1 = some .local ∨ ((defScope st).names.lookup y.1 = some .cell ∧ ((cellsFrom (s.heap.objs.size + 1) (defScope st).names []).lookup y.1).isSome = true) := by
    rintro ⟨n, z⟩ hy
    rcases S.par n (List.of_mem_zip hy).1 with q | q
    · exact .inl q
    · exact .inr ⟨q, PySem.W.cellsFrom_some _ _ _ (.inl q)⟩
  refine codeAny_call_function hr0.depth (inK _ _ lk) rfl S.co S.gen rfl (PySem.W.codeRec_of inK hcd) (bnd _ _ _ _ ?_)
  refine wpAny_newFunctionEnv_cells S.kind slots fun env he s1 xx => ?_
  subst he
  refine ⟨noLim.keeps xx.toInCall.keep, codeAny_func ?_⟩
  have body := hb cdv s H E (hr0.deeper _)
  obtain ⟨N, a, ms, ha, sr, rm, hpost⟩ := hsp
  subst ha
  have I0 : Inv (cxOf (L2.CX P w) P w K mg base Ns qual (defScope st) f cdv callerA [] s a.H E) [] (L2.start Ns [v]) a.H s1 := inv_start S hr0.hd e0 rfl (.cons rv .nil) xx
  unfold fnS at hpost
  split at hpost
  · rename_i hl
    have env0 : EnvR K mg N a (ms.map some ++ List.replicate (Ns.length - 1) none) (L2.start Ns [v]) := by
      have h := env_start rm 1 Ns.length hl
      unfold L2.start
      exact h
    refine wpAny_mono (body.run [] s1 (L2.start Ns [v]) a.H { nx := fun _ H' => Q .non H', rt := Q } I0 ⟨N, a, _, ⟨rfl, sr, env0⟩, postS_fin hpost⟩) (fun fl s' hs => ?_) fun e s' hs => hs
    cases fl with
    | ret z =>
      obtain ⟨v', σ', H', J, rz, q⟩ := hs
      exact ⟨v', H', J.os, J.bare, J.base, J.hok, rz, q⟩
    | next =>
      obtain ⟨σ', H', J, q⟩ := hs
      exact ⟨.non, H', J.os, J.bare, J.base, J.hok, rfl, q⟩
    | brk => obtain ⟨_, _, _, q⟩ := hs; exact q.elim
    | cont => obtain ⟨_, _, _, q⟩ := hs; exact q.elim
  · exact hpost.elim
/-- how the script may lie: as one of the module's own lists, or locked -/
theorem script_lies {P : Program} {w : World} {K : PySem.W.Frag} {s : Shared} {a : Addr} {us : List Value} {ns : List Int} (inK : K.In s.heap) (ha : s.heap.get? a = some { cls := .type "list", data := .seq us.toArray }) (hi : IntsAre us ns) (hl : ns.length ≤ sizeLine) :
    ∃ H : Hp, (∀ b o, H b = some o → b = a ∧ K.lookup a = none ∧ ∃ ob xs, o = .frz ob (.lst xs)) ∧ SqL K H a (ns.map V.int) ∧ HOk P w H s.heap := by
  have rv : Vals (ns.map V.int) us := vals_of_ints hi
  have ln := hi.length
  cases hk : K.lookup a with
  | some o =>
    have e := (inK a o hk).symm.trans ha
    have e' := Option.some.inj e
    subst e'
    refine ⟨(fun _ => none : Hp), fun b o h => ?_, Or.inr ⟨_, us.toArray, _, hk, rfl, rfl, rfl, by rw [List.size_toArray, ln]; exact hl, by simpa using rv⟩, fun b o h => ?_⟩
    · exact absurd h (by simp)
    · exact absurd h (by simp)
  | none =>
    refine ⟨upd (fun _ => none) a (.frz { cls := .type "list", data := .seq us.toArray } (.lst (ns.map V.int))), fun b o h => ?_, .inl (.inr ⟨_, upd_same⟩), fun b o h => ?_⟩
    · by_cases hb : b = a
      · subst hb
        rw [upd_same] at h
        exact ⟨rfl, rfl, _, _, (Option.some.inj h).symm⟩
      · rw [upd_ne hb] at h; cases h
    · by_cases hb : b = a
      · subst hb
        rw [upd_same] at h
        cases h
        exact ⟨ha, by rw [List.length_map]; exact hl, us, _, rv, ha⟩
      · rw [upd_ne hb] at h; cases h
theorem top_call {P : Program} {w : World} {K : PySem.W.Frag} {mg mb : Str → Option Value} {fa a : Addr} {fd : FuncData} {x : Str} {G : SFn} {s : Shared} {us : List Value} {ns : List Int}
    (inK : K.In s.heap) (hns : s.heap.Ns mainGlobals mg) (hb : s.heap.Ns builtinsNs mb) (hbb : ∀ x : Str, x ≠ "__name__" → mb x = bootBuiltins x) (hlim : s.heap.NoLimit) (hg : s.gens = #[])
    (ha : s.heap.get? a = some { cls := .type "list", data := .seq us.toArray }) (hi : IntsAre us ns) (hl : ns.length ≤ sizeLine)
    (F : ∀ base : Heap, K.In base → base.Ns mainGlobals mg → AtTop P w K mg base fa fd x (spS K mg G)) (hbind : ∀ (s : Shared) (u : Value), BindsTo s fd ⟨[u], []⟩ [(x, u)])
    (law : ∃ S', G [.val (.lst (ns.map .int))] [] = .ok (.val (.bl true)) S') :
    codeAny (model P w) callerA (.call (.ref fa) ⟨[.ref a], []⟩) (fun r s' => r = .ok (.ret (.bool true)) ∧ OldK s.heap s'.heap ∧ s'.os = s.os ∧ AllBare s'.gens) s := by
  obtain ⟨H, only, lies, hok⟩ := script_lies (P := P) (w := w) inK ha hi hl
  have out : ∀ {b : Addr} {o : Obj}, s.heap.get? b = some o → b ≠ a ∨ K.lookup a ≠ none → H b = none := fun {b o} e n => by
    cases q : H b with
    | none => rfl
    | some u =>
      obtain ⟨h1, h2, _⟩ := only b u q
      rcases n with n | n
      · exact (n h1).elim
      · exact (n h2).elim
  have stays : ∀ {b : Addr} {o : Obj}, s.heap.get? b = some o → H b = none → (hidT s.heap H).get? b = some o := fun e n => hidT_get e n
  have nsStays : ∀ {b : Addr} {m : Str → Option Value}, s.heap.Ns b m → (hidT s.heap H).Ns b m := fun {b m} ⟨o, es, ep, e, d, r⟩ => by
    refine ⟨o, es, ep, stays e ?_, d, r⟩
    cases q : H b with
    | none => rfl
    | some u =>
      obtain ⟨rfl, _, _⟩ := only b u q
      rw [ha] at e
      cases e
      cases d
  have inB : K.In (hidT s.heap H) := fun b o e => stays (inK b o e) (by
    cases q : H b with
    | none => rfl
    | some u =>
      obtain ⟨rfl, h2, _⟩ := only b u q
      rw [h2] at e; cases e)
  have mod : Mod K mg (hidT s.heap H) := ⟨inB, nsStays hns, ⟨mb, nsStays hb, hbb⟩, let ⟨mc, h1, h2⟩ := hlim; ⟨mc, nsStays h1, h2⟩⟩
  have e0 : Env0 P w K mg (hidT s.heap H) callerA [] s H := ⟨rfl, mod, fun b o e => of_hidT e, Nat.le_of_eq (hidT_size _ _), trivial, fun b hb => by simp [frs] at hb, hok, .of_eq hg⟩
  have promise : spS K mg G [.ref a] H (fun v _ => v = .bl true) (fun _ _ _ => False) := by
    refine ⟨fun _ => False, ⟨fun _ => 0, [], H⟩, [.val (.lst (ns.map .int))], rfl, sr_nil (fun _ h => h.elim) _, .cons (VR.lst (Sub.sqL (fun b o h => hide_some.mpr ⟨fun q => ?_, h⟩) lies) ?_) .nil, ?_⟩
    · rcases q with q | ⟨k, ob, e, _⟩
      · exact q
      · simp at e
    · have : ∀ l : List Int, VRs K mg (Fz (fun _ => False) ⟨fun _ => 0, [], H⟩) (l.map .int) (l.map V.int) := fun l => by
        induction l with
        | nil => exact .nil
        | cons i l ih => exact .cons .int ih
      exact this ns
    · obtain ⟨S', e⟩ := law
      show Post _ _ _ _ _ _ _ (G [.val (.lst (ns.map .int))] [])
      rw [e]
      intro b v _ _ _ r
      exact MR.bl r
  refine codeAny_mono (F _ inB (nsStays hns) s H (.ref a) (.ref a) _ _ e0 (hbind s (.ref a)) rfl promise) fun r s' h => ?_
  cases r with
  | error e =>
    obtain ⟨_, _, _, _, _, _, _, _, _, _, _, _, z⟩ := h
    exact z.elim
  | ok fl =>
    cases fl with
    | next => exact h.elim
    | brk => exact h.elim
    | cont => exact h.elim
    | ret u =>
      obtain ⟨v, H', os, bare, un, hok', rv, q⟩ := h
      have q' : v = .bl true := q
      subst q'
      obtain rfl : u = Value.bool true := rv
      refine ⟨rfl, OldK.of_keep fun b o e => ?_, os, bare⟩
      cases q : H b with
      | none => exact un.keep b o e q (by simp [frs]) (by simp)
      | some t =>
        obtain ⟨_, _, ob, xs, rfl⟩ := only b t q
        have z2 := un.frzs b ob _ q
        obtain ⟨e1, _⟩ := hok b _ q
        obtain ⟨e2, _⟩ := hok' b _ z2
        rw [e] at e1; cases e1
        exact e2
/-- the goal that the head leaves, from the law's own function -/
theorem walk_top {l : PySem.W.OpenLaw} {n : Nat} {q : Program} {loose : List Str} {XP : (Str → Option Value) → Heap → Prop} {YP : World → Heap → Prop} {d : DefRec} {K : Params → PySem.W.Frag} {x : Str} {G : SFn}
    (hn : l.most = some n) (hn2 : n ≤ sizeLine) (hdf : d.params.defaults = []) (hY : ∀ (w : World) (h : Heap), YP w h → (K w.params).In h)
    (F : ∀ (w : World) (mg : Str → Option Value) (fa : Addr) (h : Heap), (K w.params).In h → h.Ns mainGlobals mg → mg d.name = some (.ref fa) →
      ∃ fd : FuncData, (∀ (s : Shared) (u : Value), BindsTo s fd ⟨[u], []⟩ [(x, u)]) ∧ ∀ base : Heap, (K w.params).In base → base.Ns mainGlobals mg → AtTop l.prog w (K w.params) mg base fa fd x (spS (K w.params) mg G))
    (law : ∀ ns : List Int, ns.length ≤ n → ∃ S', G [.val (.lst (ns.map .int))] [] = .ok (.val (.bl true)) S') :
    PySem.W.WalkO q loose XP YP l.row.toRowW d [] (fun f vs => PySem.call f vs) := by
  refine Att.attach_call hn hdf fun w s0 s1 mg mb fa o pm cd doc a us ns Gr Y ho hd hcd hmg hobj hints hlen hg => ?_
  have inK := hY w _ Y
  obtain ⟨fd, hb, hF⟩ := F w mg fa _ inK Gr.T.g hmg
  exact top_call inK Gr.T.g Gr.T.b Gr.T.builtins Gr.T.nolimit hg hobj hints (Nat.le_trans hlen hn2) hF hb (law ns hlen)
end MK

/-! MK, part 10: where the defs stand; the rules for whole defs. -/
namespace MK
open PySem L2 PyProof.Rows
/-- the module's def x -/
structure DefAt (K : PySem.W.Frag) (mg : Str → Option Value) (x : Str) (st : Stmt) (ps : List Str) : Prop where
  ex : ∃ f fd, Fun K x x st f fd ∧ mg x = some (.ref f) ∧ Binds K fd ps []
structure MethAt (K : PySem.W.Frag) (mg : Str → Option Value) (c m qual : Str) (st : Stmt) (ps : List Str) : Prop where
  ex : ∃ C f fd, mg c = some (.ref C) ∧ Cls K C ∧ Meth K C m f ∧ Fun K m qual st f fd ∧ Binds K fd ps []
structure InitAt (K : PySem.W.Frag) (mg : Str → Option Value) (c qual : Str) (st : Stmt) (ps : List Str) : Prop where
  ex : ∃ C f fd, mg c = some (.ref C) ∧ Mk K C f ∧ Fun K "__init__" qual st f fd ∧ Binds K fd ps []
/-- the module's def x, that is called with the keywords ks alone, too -/
structure DefKwAt (K : PySem.W.Frag) (mg : Str → Option Value) (x : Str) (st : Stmt) (ps ks : List Str) (ix : List Nat) : Prop where
  ex : ∃ f fd, Fun K x x st f fd ∧ mg x = some (.ref f) ∧ Binds K fd ps [] ∧ ∀ (s : Shared) (ws : List Value), K.In s.heap → ws.length = ks.length → BindsTo s fd ⟨[], ks.zip ws⟩ (ps.zip (pick ws ix))
section
variable {P : Program} {w : World} {K : PySem.W.Frag} {mg : Str → Option Value} {base : Heap} {x c m qual : Str} {st : Stmt} {ps Ns ks : List Str} {ix : List Nat} {k : Nat} {g : XS}
theorem never_ok {sp : Sp} {f : Addr} {fd : FuncData} {CX : CXT} (h : ∀ vs H Q E, ¬ sp vs H Q E) : FnOk P w K mg base CX k f fd ps sp := ⟨fun vs H Q E q => (h vs H Q E q).elim, fun A outer s H args us vs Q E _ _ _ _ q => (h vs H Q E q).elim⟩
/-- the body of a def, read by g -/
abbrev Body (P : Program) (w : World) (K : PySem.W.Frag) (mg : Str → Option Value) (base : Heap) (Ns : List Str) (qual : Str) (st : Stmt) (k : Nat) (g : XS) : Prop :=
  ∀ (f : Addr) (cdv : Value) (A : Around) (outer : List Env) (s : Shared) (H : Hp) (E : XK), Room k (A.deeper (envOfC qual (defScope st) s.heap.objs.size f cdv)) →
    QSs (cxOf (L2.CX P w) P w K mg base Ns qual (defScope st) f cdv A outer s H E) (WD E) (defBody st) g
theorem hasP (D : DefAt K mg x st ps) (S : FnScope Ns ps (defScope st)) (hb : Body P w K mg base Ns x st k g) : HasFn P w K mg base x (k + 1) (spP K mg (fnP ps.length Ns.length g)) := by
  obtain ⟨f, fd, F, hm, b⟩ := D.ex
  exact ⟨f, fd, ps, ok_P F S (hb f), hm, F.kp, b⟩
theorem hasS (D : DefAt K mg x st ps) (S : FnScope Ns ps (defScope st)) (hb : Body P w K mg base Ns x st k g) : HasFn P w K mg base x (k + 1) (spS K mg (fnS ps.length Ns.length g)) := by
  obtain ⟨f, fd, F, hm, b⟩ := D.ex
  exact ⟨f, fd, ps, ok_S F S (hb f), hm, F.kp, b⟩
theorem hasP0 (D : DefAt K mg x st ps) : HasFn P w K mg base x k (spP K mg fun _ => .stuck) := by
  obtain ⟨f, fd, F, hm, b⟩ := D.ex
  exact ⟨f, fd, ps, never_ok fun _ _ _ _ ⟨_, _, _, _, h⟩ => h, hm, F.kp, b⟩
theorem hasS0 (D : DefAt K mg x st ps) : HasFn P w K mg base x k (spS K mg fun _ _ => .stuck) := by
  obtain ⟨f, fd, F, hm, b⟩ := D.ex
  exact ⟨f, fd, ps, never_ok fun _ _ _ _ ⟨_, _, _, _, _, _, h⟩ => h, hm, F.kp, b⟩
theorem hasM (D : MethAt K mg c m qual st ps) (S : FnScope Ns ps (defScope st)) (hb : Body P w K mg base Ns qual st k g) : HasMeth P w K mg base c m (k + 1) (spS K mg (fnS ps.length Ns.length g)) := by
  obtain ⟨C, f, fd, hC, cl, me, F, b⟩ := D.ex
  exact ⟨C, f, fd, ps, hC, cl, me, ok_S F S (hb f), b⟩
theorem hasMP (D : MethAt K mg c m qual st ps) (S : FnScope Ns ps (defScope st)) (hb : Body P w K mg base Ns qual st k g) : HasMeth P w K mg base c m (k + 1) (spP K mg (fnP ps.length Ns.length g)) := by
  obtain ⟨C, f, fd, hC, cl, me, F, b⟩ := D.ex
  exact ⟨C, f, fd, ps, hC, cl, me, ok_P F S (hb f), b⟩
theorem hasI (D : InitAt K mg c qual st ps) (S : FnScope Ns ps (defScope st)) (hb : Body P w K mg base Ns qual st k g) : HasInit P w K mg base c (k + 1) (spS K mg (fnS ps.length Ns.length g)) := by
  obtain ⟨C, f, fd, hC, mk, F, b⟩ := D.ex
  exact ⟨C, f, fd, ps, hC, mk, ok_S F S (hb f), b⟩
theorem DefKwAt.toDef (D : DefKwAt K mg x st ps ks ix) : DefAt K mg x st ps := by
  obtain ⟨f, fd, F, hm, b, _⟩ := D.ex
  exact ⟨f, fd, F, hm, b⟩
theorem hasPK (D : DefKwAt K mg x st ps ks ix) (S : FnScope Ns ps (defScope st)) (hb : Body P w K mg base Ns x st k g) : HasFn P w K mg base x (k + 1) (spP K mg (fnP ps.length Ns.length g)) ∧ HasFnK P w K mg base x (k + 1) (spP K mg (fnP ps.length Ns.length g)) ks ix := by
  obtain ⟨f, fd, F, hm, b, bk⟩ := D.ex
  have FO := ok_P (P := P) (w := w) (base := base) F S (hb f)
  exact ⟨⟨f, fd, ps, FO, hm, F.kp, b⟩, ⟨f, fd, ps, FO, hm, F.kp, bk⟩⟩
theorem hasPK0 (D : DefKwAt K mg x st ps ks ix) : HasFn P w K mg base x k (spP K mg fun _ => .stuck) ∧ HasFnK P w K mg base x k (spP K mg fun _ => .stuck) ks ix := by
  obtain ⟨f, fd, F, hm, b, bk⟩ := D.ex
  have FO : FnOk P w K mg base (L2.CX P w) k f fd ps (spP K mg fun _ => .stuck) := never_ok fun _ _ _ _ ⟨_, _, _, _, h⟩ => h
  exact ⟨⟨f, fd, ps, FO, hm, F.kp, b⟩, ⟨f, fd, ps, FO, hm, F.kp, bk⟩⟩
end
section
variable {X : Cx} {W : WX}
/-- over a list, a tuple or a text -/
def iAny (f : XE) : XI := fun ρ S => (f ρ S).bind fun m S1 => match m with
  | .val (.str x) => .ok (x.map fun c => .val (.str [c]), always) S1
  | .val (.tup ds) => .ok (ds.map .val, always) S1
  | .val (.lst ds) => .ok (ds.map .val, always) S1
  | .loc n => (match S1[n]? with
    | some (.lst ms) => .ok (ms, fun S => S[n]? = some (.lst ms)) S1
    | _ => .stuck)
  | _ => .stuck
theorem qi_any {tg l : Expr} {f : XE} (h : QE X W l f) : QI X W tg l (iAny f) := by
  refine ⟨fun pins s σ H R I q => ?_⟩
  obtain ⟨N, a, ρ, rd, q⟩ := q
  have useL : (iAny f ρ a.S = iSeq .l f ρ a.S) → wpAny (model X.prog X.w) X.A (eval l X.env) (fun v s1 => wpAny (model X.prog X.w) X.A (pyIter v) (PIE X pins σ tg R) X.xe s1) X.xe s := fun e =>
    (qi_list h).run pins s σ H R I ⟨N, a, ρ, rd, by rw [← e]; exact q⟩
  have useT : (iAny f ρ a.S = iSeq .t f ρ a.S) → wpAny (model X.prog X.w) X.A (eval l X.env) (fun v s1 => wpAny (model X.prog X.w) X.A (pyIter v) (PIE X pins σ tg R) X.xe s1) X.xe s := fun e =>
    (qi_tup h).run pins s σ H R I ⟨N, a, ρ, rd, by rw [← e]; exact q⟩
  have useS : (iAny f ρ a.S = iStrM f ρ a.S) → wpAny (model X.prog X.w) X.A (eval l X.env) (fun v s1 => wpAny (model X.prog X.w) X.A (pyIter v) (PIE X pins σ tg R) X.xe s1) X.xe s := fun e =>
    (qi_str h).run pins s σ H R I ⟨N, a, ρ, rd, by rw [← e]; exact q⟩
  have q0 := q
  unfold iAny at q0 useL useT useS
  unfold iSeq at useL useT
  unfold iStrM at useS
  cases e : f ρ a.S with
  | exn x S => exact useL (by rw [e]; rfl)
  | stuck => rw [e] at q0; exact q0.elim
  | ok m S =>
    cases m with
    | loc n =>
      refine useL ?_
      rw [e]
      simp only [Rz.bind_ok, seqOf]
      cases S[n]? with
      | none => rfl
      | some ob => cases ob <;> rfl
    | val d =>
      cases d with
      | str x => exact useS (by rw [e]; rfl)
      | tup ds => exact useT (by rw [e]; rfl)
      | lst ds => exact useL (by rw [e]; rfl)
      | _ => rw [e] at q0; exact (show False from q0).elim
end
end MK

/-! MK, part 11: the text's facts, from the head's. -/
namespace MK
open PySem L2 PyProof.Rows
section
variable {w : World} {K : PySem.W.Frag} {mg : Str → Option Value} {h : Heap} {x c m qual : Str} {st : Stmt} {ps ks : List Str} {ix : List Nat} {f C : Addr} {od an : Option Addr} {sl : Array (Option Value)} {oc kV dc pm cd ct : Value}
theorem mk_none (X : K.In h) (G : h.Ns mainGlobals mg) (a : PySem.W.nsIn K mainGlobals x = some none) : mg x = none := PySem.W.mg_none_of X G a
theorem mk_str {s : Str} {t : Tok} {z : Tx} (X : K.In h) (G : h.Ns mainGlobals mg) (a : PySem.W.nsIn K mainGlobals x = some (some (.str s t))) (e : s = sT z) : ∃ t, mg x = some (.str (sT z) t) := ⟨t, by rw [← e]; exact PySem.W.mg_of X G a⟩
theorem mk_int {i : Int} {t : Tok} (X : K.In h) (G : h.Ns mainGlobals mg) (a : PySem.W.nsIn K mainGlobals x = some (some (.int i t))) : ∃ t, mg x = some (.int i t) := ⟨t, PySem.W.mg_of X G a⟩
theorem mk_def (X : K.In h) (G : h.Ns mainGlobals mg) (a : PySem.W.nsIn K mainGlobals x = some (some (.ref f))) (l : K.lookup f = some ⟨oc, od, .func (PySem.W.fnOf x x (defArgs st) (defBody st) (defScope st) .none kV dc pm an cd ct), sl⟩)
    (cc : PySem.W.codeIn K cd x = true) (kk : PySem.W.keepIn K (.ref f) = true)
    (b : ∀ (kV doc pm : Value) (an : Option Addr) (cdv ct : Value) (us : List Value), us.length = ps.length → bindArgs (PySem.W.fnOf x x (defArgs st) (defBody st) (defScope st) .none kV doc pm an cdv ct) ⟨us, []⟩ = pure (ps.zip us)) : DefAt K mg x st ps := by
  have F := fun_mk (st := st) l cc kk
  exact ⟨f, _, F, PySem.W.mg_of X G a, F.binds b⟩
theorem mk_defkw (X : K.In h) (G : h.Ns mainGlobals mg) (a : PySem.W.nsIn K mainGlobals x = some (some (.ref f))) (l : K.lookup f = some ⟨oc, od, .func (PySem.W.fnOf x x (defArgs st) (defBody st) (defScope st) .none kV dc pm an cd ct), sl⟩)
    (cc : PySem.W.codeIn K cd x = true) (kk : PySem.W.keepIn K (.ref f) = true)
    (b : ∀ (kV doc pm : Value) (an : Option Addr) (cdv ct : Value) (us : List Value), us.length = ps.length → bindArgs (PySem.W.fnOf x x (defArgs st) (defBody st) (defScope st) .none kV doc pm an cdv ct) ⟨us, []⟩ = pure (ps.zip us))
    (bk : ∀ (kV doc pm : Value) (an : Option Addr) (cdv ct : Value) (us : List Value), us.length = ks.length → bindArgs (PySem.W.fnOf x x (defArgs st) (defBody st) (defScope st) .none kV doc pm an cdv ct) ⟨[], ks.zip us⟩ = pure (ps.zip (pick us ix))) : DefKwAt K mg x st ps ks ix := by
  have F := fun_mk (st := st) l cc kk
  exact ⟨f, _, F, PySem.W.mg_of X G a, F.binds b, fun s ws _ hl => .of_eq (bk _ _ _ _ _ _ ws hl)⟩
def NoAttrs (K : PySem.W.Frag) (C : Addr) : List Str → Prop
  | [] => True
  | f :: r => PySem.W.findIn K (.ref C) f = some none ∧ NoAttrs K C r
theorem NoAttrs.mem : ∀ {l : List Str}, NoAttrs K C l → ∀ f ∈ l, NoAttr K C f
  | f :: r, ⟨h, t⟩, g, hg => by
    rcases List.mem_cons.mp hg with rfl | hg
    · exact h
    · exact NoAttrs.mem t g hg
theorem mk_cls {fld : List Str} (X : K.In h) (G : h.Ns mainGlobals mg) (a : PySem.W.nsIn K mainGlobals c = some (some (.ref C))) (pg : PySem.W.plainGet K C Str.empty = true) (hd : PySem.W.hasDictIn K C = true) (po : PySem.W.plainOver K C = true)
    (sa : PySem.W.findIn K (.ref C) "__setattr__" = some (some (.builtin "object.__setattr__"))) (n : NoAttrs K C fld) : HasCls K mg c fld := ⟨C, PySem.W.mg_of X G a, ⟨pg, hd, po, sa⟩, n.mem⟩
theorem mk_meth (X : K.In h) (G : h.Ns mainGlobals mg) (aC : PySem.W.nsIn K mainGlobals c = some (some (.ref C))) (pg : PySem.W.plainGet K C Str.empty = true) (hd : PySem.W.hasDictIn K C = true) (po : PySem.W.plainOver K C = true)
    (sa : PySem.W.findIn K (.ref C) "__setattr__" = some (some (.builtin "object.__setattr__"))) (a : PySem.W.findIn K (.ref C) m = some (some (.ref f))) (i : PySem.W.isFn K (.ref f) = true) (l : K.lookup f = some ⟨oc, od, .func (PySem.W.fnOf m qual (defArgs st) (defBody st) (defScope st) .none kV dc pm an cd ct), sl⟩)
    (cc : PySem.W.codeIn K cd qual = true) (kk : PySem.W.keepIn K (.ref f) = true)
    (b : ∀ (kV doc pm : Value) (an : Option Addr) (cdv ct : Value) (us : List Value), us.length = ps.length → bindArgs (PySem.W.fnOf m qual (defArgs st) (defBody st) (defScope st) .none kV doc pm an cdv ct) ⟨us, []⟩ = pure (ps.zip us)) : MethAt K mg c m qual st ps := by
  have F := fun_mk (st := st) l cc kk
  exact ⟨C, f, _, PySem.W.mg_of X G aC, ⟨pg, hd, po, sa⟩, ⟨a, i, kk⟩, F, F.binds b⟩
theorem mk_init (X : K.In h) (G : h.Ns mainGlobals mg) (aC : PySem.W.nsIn K mainGlobals c = some (some (.ref C))) (mk : PySem.W.makesIn K C = true) (kc : PySem.W.keepIn K (.ref C) = true)
    (a : PySem.W.findIn K (.ref C) "__init__" = some (some (.ref f))) (i : PySem.W.isFn K (.ref f) = true) (l : K.lookup f = some ⟨oc, od, .func (PySem.W.fnOf "__init__" qual (defArgs st) (defBody st) (defScope st) .none kV dc pm an cd ct), sl⟩)
    (cc : PySem.W.codeIn K cd qual = true) (kk : PySem.W.keepIn K (.ref f) = true)
    (b : ∀ (kV doc pm : Value) (an : Option Addr) (cdv ct : Value) (us : List Value), us.length = ps.length → bindArgs (PySem.W.fnOf "__init__" qual (defArgs st) (defBody st) (defScope st) .none kV doc pm an cdv ct) ⟨us, []⟩ = pure (ps.zip us)) : InitAt K mg c qual st ps := by
  have F := fun_mk (st := st) l cc kk
  exact ⟨C, f, _, PySem.W.mg_of X G aC, ⟨mk, a, i, kc⟩, F, F.binds b⟩
theorem mk_kd {d : Addr} {es : Array DictEntry} {n : Nat} {kvs : List (Tx × Int)} (X : K.In h) (G : h.Ns mainGlobals mg) (a : PySem.W.nsIn K mainGlobals x = some (some (.ref d))) (l : K.lookup d = some ⟨.type "dict", none, .dict es n, #[]⟩)
    (lit : PySem.W.KeysLit w.params es.toList) (low : (d == sysModules) = false) (p : Paired (fun (e : DictEntry) (p : Tx × Int) => ∃ t u, e.key = .str (sT p.1) t ∧ e.val = .int p.2 u) es.toList kvs) : HasKD w K mg x kvs :=
  ⟨d, es, n, PySem.W.mg_of X G a, ⟨l, lit, low⟩, nsAs_of l p⟩
theorem mk_law {arg : Str} {fa : Addr} (X : K.In h) (G : h.Ns mainGlobals mg) (hfa : mg x = some (.ref fa)) (a : PySem.W.nsIn K mainGlobals x = some (some (.ref f))) (l : K.lookup f = some ⟨oc, od, .func (PySem.W.fnOf x x (defArgs st) (defBody st) (defScope st) .none kV dc pm an cd ct), sl⟩)
    (cc : PySem.W.codeIn K cd x = true) (kk : PySem.W.keepIn K (.ref f) = true)
    (b : ∀ (kV doc pm : Value) (an : Option Addr) (cdv ct : Value) (u : Value), bindArgs (PySem.W.fnOf x x (defArgs st) (defBody st) (defScope st) .none kV doc pm an cdv ct) ⟨[u], []⟩ = pure [(arg, u)]) :
    ∃ fd, Fun K x x st fa fd ∧ ∀ (s : Shared) (u : Value), BindsTo s fd ⟨[u], []⟩ [(arg, u)] := by
  have e := hfa.symm.trans (PySem.W.mg_of X G a)
  cases e
  exact ⟨_, fun_mk (st := st) l cc kk, fun s u => .of_eq (b _ _ _ _ _ _ u)⟩
end
end MK

/-! MK, part 12: dicts whose keys are ints or texts; f-strings; sorted texts. -/
namespace MK
open PySem L2 PyProof.Rows
section
variable {K : PySem.W.Frag} {mg : Str → Option Value} {N : Addr → Prop}
/-- a value as a key -/
def keyM : Mv → Option Ky
  | .val (.int i) => some (.inl i)
  | .val (.str x) => some (.inr x)
  | _ => none
def keyD : Ky → Dv
  | .inl i => .int i
  | .inr x => .str x
theorem keyM_ok {a : S3} {m : Mv} {v : V} {k : Ky} (r : MR K mg N a m v) (e : keyM m = some k) : v = kV (kS k) := by
  unfold keyM at e
  split at e
  · cases e; exact MR.int r
  · cases e; exact MR.str r
  · cases e
theorem keyD_ok {F : Hp} (k : Ky) : VR K mg F (keyD k) (kV (kS k)) := by
  cases k with
  | inl i => exact .int
  | inr x => exact .str
def valM (kvs : List (Ky × Mv)) (k : Ky) : Option Mv := (kvs.find? fun p => decide (p.1 = k)).map (·.2)
def putKM (kvs : List (Ky × Mv)) (k : Ky) (m : Mv) : List (Ky × Mv) :=
  if (kvs.any fun p => decide (p.1 = k)) = true then kvs.map (fun p => if p.1 = k then (p.1, m) else p) else kvs ++ [(k, m)]
theorem valM_nil (k : Ky) : valM [] k = none := rfl
theorem valM_cons (p : Ky × Mv) (r : List (Ky × Mv)) (k : Ky) : valM (p :: r) k = if p.1 = k then some p.2 else valM r k := by
  unfold valM
  rw [List.find?_cons]
  by_cases h : p.1 = k
  · simp [h]
  · simp [h]
theorem paired_val {a : S3} {k : Ky} : ∀ {kvs : List (Ky × Mv)} {kws : List (Key × V)}, Paired (MRp K mg N kS a) kvs kws → (∀ m, valM kvs k = some m → ∃ v, valV kws (kS k) = some v ∧ MR K mg N a m v) ∧ (valM kvs k = none → valV kws (kS k) = none)
  | _, _, .nil => ⟨fun _ h => (by cases h), fun _ => rfl⟩
  | p :: r, q :: s, .cons ⟨e, h⟩ t => by
    have ih := paired_val (k := k) t
    rw [valM_cons]
    by_cases hk : p.1 = k
    · have hq : q.1 = kS k := by rw [← e, hk]
      rw [if_pos hk, valV_pos hq]
      exact ⟨fun m hm => ⟨_, rfl, by cases hm; exact h⟩, fun hn => by cases hn⟩
    · have hq : ¬ q.1 = kS k := fun z => hk (kS_inj (e.trans z))
      rw [if_neg hk, valV_neg hq]
      exact ih
theorem paired_anyK {a : S3} {k : Ky} : ∀ {kvs : List (Ky × Mv)} {kws : List (Key × V)}, Paired (MRp K mg N kS a) kvs kws → (kvs.any fun p => decide (p.1 = k)) = (kws.any fun p => decide (p.1 = kS k))
  | _, _, .nil => rfl
  | p :: r, q :: s, .cons ⟨e, h⟩ t => by
    rw [List.any_cons, List.any_cons, paired_anyK (k := k) t]
    by_cases hk : p.1 = k
    · have hq : q.1 = kS k := by rw [← e, hk]
      simp [hk, hq]
    · have hq : ¬ q.1 = kS k := fun z => hk (kS_inj (e.trans z))
      simp [hk, hq]
theorem paired_mapK {a : S3} {k : Ky} {m : Mv} {v : V} (r : MR K mg N a m v) : ∀ {kvs : List (Ky × Mv)} {kws : List (Key × V)}, Paired (MRp K mg N kS a) kvs kws → Paired (MRp K mg N kS a) (kvs.map fun p => if p.1 = k then (p.1, m) else p) (kws.map fun p => if p.1 = kS k then (p.1, v) else p)
  | _, _, .nil => .nil
  | p :: s, q :: s', .cons ⟨e, h⟩ t => by
    rw [List.map_cons, List.map_cons]
    by_cases hk : p.1 = k
    · have hq : q.1 = kS k := by rw [← e, hk]
      rw [if_pos hk, if_pos hq]
      exact .cons ⟨e, r⟩ (paired_mapK r t)
    · have hq : ¬ q.1 = kS k := fun z => hk (kS_inj (e.trans z))
      rw [if_neg hk, if_neg hq]
      exact .cons ⟨e, h⟩ (paired_mapK r t)
theorem paired_putK {a : S3} {k : Ky} {m : Mv} {v : V} (r : MR K mg N a m v) {kvs : List (Ky × Mv)} {kws : List (Key × V)} (t : Paired (MRp K mg N kS a) kvs kws) : Paired (MRp K mg N kS a) (putKM kvs k m) (putK kws (kS k) v) := by
  unfold putKM putK
  rw [paired_anyK (k := k) t]
  split
  · exact paired_mapK r t
  · exact Paired.snoc t ⟨rfl, r⟩
/-- the pairs of a dict -/
def dicOf (S : Sto) : Mv → Option (List (Ky × Mv))
  | .val (.dK kvs) => some (kvs.map fun p => (p.1, .val p.2))
  | .loc n => match S[n]? with
    | some (.dK kvs) => some kvs
    | _ => none
  | _ => none
theorem VRp.pairedK {a : S3} : ∀ {kvs : List (Ky × Dv)} {kws : List (Key × V)}, VRp K mg (Fz N a) kS kvs kws → Paired (MRp K mg N kS a) (kvs.map fun p => (p.1, Mv.val p.2)) kws
  | _, _, .nil => .nil
  | _, _, .cons h t => .cons ⟨rfl, h⟩ (VRp.pairedK t)
theorem dicOf_ok {a : S3} {m : Mv} {v : V} {kvs : List (Ky × Mv)} (sr : SR K mg N a) (r : MR K mg N a m v) (e : dicOf a.S m = some kvs) : ∃ p kws, v = .ref p ∧ Rd a.H p (.dK kws) ∧ Paired (MRp K mg N kS a) kvs kws := by
  cases m with
  | val d =>
    cases d with
    | dK kvs' =>
      cases e
      cases r with
      | dK h t => exact ⟨_, _, rfl, Fz.sub.rd h, VRp.pairedK t⟩
    | _ => cases e
  | loc k =>
    obtain ⟨hk, rfl⟩ := r
    replace e : (match a.S[k]? with | some (.dK kvs) => some kvs | _ => none) = some kvs := e
    cases q : a.S[k]? with
    | none => rw [q] at e; cases e
    | some ob =>
      rw [q] at e
      cases ob with
      | dK kvs' =>
        cases e
        obtain ⟨kws, h, t⟩ := sr.at_ k _ q
        exact ⟨_, kws, rfl, .inl h, t⟩
      | _ => cases e
/-! ### d[k] -/
def fDGet (x y : Mv) (S : Sto) : Rz Mv := match dicOf S x, keyM y with
  | some kvs, some k => (match valM kvs k with
    | some m => .ok m S
    | none => .stuck)
  | _, _ => .stuck
def rDGet : R2 := fun x y H Q => ∃ a v, x = .ref a ∧ DGet H a y (some v) ∧ Q v H
theorem dget_of {H : Hp} {p : Addr} {kws : List (Key × V)} {k : Key} (h : Rd H p (.dK kws)) : DGet H p (kV k) (valV kws k) := .inl ⟨kws, k, h, rfl, rfl⟩
theorem fDGet_ok : BinOk K mg rDGet fDGet := by
  intro N a x y u w W Q sr rx ry h
  unfold fDGet at h
  split at h
  · rename_i kvs k e1 e2
    obtain ⟨p, kws, rfl, hr, t⟩ := dicOf_ok sr rx e1
    obtain rfl := keyM_ok ry e2
    split at h
    · rename_i m e3
      obtain ⟨v, e4, r⟩ := (paired_val t).1 m e3
      exact ⟨p, v, rfl, by rw [← e4]; exact dget_of hr, Post.okm sr h r⟩
    · exact h.elim
  · exact h.elim
end
section
variable {X : Cx} {W : WX}
theorem qe_dget {k : Nat} {o i : Expr} {pos : Pos} {fo fi : XE} (hr : Room k X.A) (ho : QE X W o fo) (hi : QE X W i fi) (hs : NoSl i := by exact fun _ _ => rfl) : QE X W (.Subscript o i pos) (eBin fDGet fo fi) :=
  PE.weak (pe_dget (by have := hr.units; omega) ho hi hs) (bin_read fDGet_ok)
theorem qe_newK {pos : Pos} : QE X W (.Dict [] [] pos) (fun _ S => .ok (.loc S.length) (S ++ [.dK []])) := by
  refine PE.weak pe_dnewK ?_
  rintro σ H Q ⟨N, a, ρ, ⟨rfl, sr, en⟩, h⟩
  intro p hp
  obtain ⟨ex, sr'⟩ := placed (o := .dK []) (ob := .dK []) sr hp fun b x q => ⟨[], q, .nil⟩
  exact h ⟨put a.i a.S.length p, a.S ++ [.dK []], upd a.H p (.dK [])⟩ (.ref p) rfl ex sr' ⟨by simp, by show V.ref p = V.ref (put a.i a.S.length p a.S.length); rw [put_at]⟩
def eNewK : XE := fun _ S => .ok (.loc S.length) (S ++ [.dK []])
/-! ### d[k] = v -/
def fSetD : Mv → Mv → Mv → Sto → Rz Unit
  | .loc n, y, m, S => match S[n]?, keyM y with
    | some (.dK kvs), some k => if kvs.length < sizeLine then .ok () (S.set n (.dK (putKM kvs k m))) else .stuck
    | _, _ => .stuck
  | _, _, _, _ => .stuck
theorem o_setD {k : Nat} (hr : Room k X.A) : PSet X rSetD ∧ SetOk X.K X.mg rSetD fSetD := by
  refine ⟨set_dict (by have := hr.units; omega), fun N a o i mm v w x W Q sr ro ri rm h => ?_⟩
  cases o with
  | val d => exact (show False from h).elim
  | loc n =>
    obtain ⟨hk, rfl⟩ := ro
    simp only [fSetD] at h
    split at h
    · rename_i kvs ky e e2
      split at h
      · rename_i hl
        obtain ⟨kws, hw, t⟩ := sr.at_ n _ e
        obtain rfl := keyM_ok ri e2
        refine ⟨_, _, rfl, .inl ⟨kws, kS ky, hw, rfl, by rw [← paired_len t]; exact hl, rfl⟩, ?_⟩
        obtain ⟨ex, sr'⟩ := written (o := .dK (putK kws (kS ky) x)) (ob' := .dK (putKM kvs ky mm)) sr e (by simp) (by simp) fun b y q => ⟨_, q, paired_putK (rm.ext y) (MRps.ext y t)⟩
        exact h _ () rfl ex sr' trivial
      · exact h.elim
    · exact h.elim
/-! ### list(x): of a list, a tuple, a dict's keys -/
def keysM (kvs : List (Ky × Mv)) : List Mv := kvs.map fun p => .val (keyD p.1)
theorem keys_paired {K : PySem.W.Frag} {mg : Str → Option Value} {N : Addr → Prop} {a : S3} : ∀ {kvs : List (Ky × Mv)} {kws : List (Key × V)}, Paired (MRp K mg N kS a) kvs kws → Paired (MR K mg N a) (keysM kvs) (kws.map fun kv => kV kv.1)
  | _, _, .nil => .nil
  | p :: r, q :: s, .cons ⟨e, h⟩ t => by
    show Paired _ (_ :: _) (_ :: _)
    refine .cons ?_ (keys_paired t)
    show VR K mg (Fz N a) (keyD p.1) (kV q.1)
    rw [← e]
    exact keyD_ok _
def fListD (mk : List Mv → Sto → Rz Mv) : List Mv → Sto → Rz Mv
  | [x], S => match dicOf S x with
    | some kvs => mk (keysM kvs) S
    | none => .stuck
  | _, _ => .stuck
def rListDA : List V → Hp → VK → Prop := fun xs H Q => ∃ (a : Addr) (kvs : List (Key × V)), xs = [.ref a] ∧ Rd H a (.dK kvs) ∧ ∀ p, H p = none → Q (.ref p) (upd H p (.lst (kvs.map fun kv => kV kv.1)))
theorem o_listD {mk : List Mv → Sto → Rz Mv} (hm : NewOk X.K X.mg mk) (hc : X.calm = true) : CallR X (.type "list") rListDA ∧ MkOk X.K X.mg rListDA (fListD mk) := by
  refine ⟨call_listD hc, fun N a xs vs W Q sr r h => ?_⟩
  unfold fListD at h
  split at h
  · obtain ⟨v, rfl, r1⟩ := paired1 r
    split at h
    · rename_i kvs e
      obtain ⟨p, kws, rfl, hs, t⟩ := dicOf_ok sr r1 e
      exact ⟨p, kws, rfl, hs, (hm N a _ _ W Q sr (keys_paired t) h).2⟩
    · exact h.elim
  · exact h.elim
/-! ### len(d) -/
def fLenD : List Mv → Sto → Rz Mv
  | [.loc n], S => match S[n]? with
    | some (.dK kvs) => .ok (.val (.int kvs.length)) S
    | _ => .stuck
  | _, _ => .stuck
/-! ### sorted texts -/
def leT (x y : Tx) : Bool := !decide (y < x)
def sortT (xs : List Tx) : List Tx := xs.mergeSort leT
theorem leT_trans (a b c : Tx) (h1 : leT a b = true) (h2 : leT b c = true) : leT a c = true := by
  simp only [leT, Bool.not_eq_true', decide_eq_false_iff_not] at *
  exact List.not_lt.mpr (List.le_trans (List.not_lt.mp h1) (List.not_lt.mp h2))
theorem leT_total (a b : Tx) : (leT a b || leT b a) = true := by
  simp only [leT, Bool.or_eq_true, Bool.not_eq_true', decide_eq_false_iff_not]
  rcases List.le_total a b with h | h
  · exact .inl (List.not_lt.mpr h)
  · exact .inr (List.not_lt.mpr h)
theorem leT_anti (a b : Tx) (h1 : leT a b = true) (h2 : leT b a = true) : a = b := by
  simp only [leT, Bool.not_eq_true', decide_eq_false_iff_not] at *
  exact List.le_antisymm (List.not_lt.mp h1) (List.not_lt.mp h2)
theorem sortT_perm (xs : List Tx) : (sortT xs).Perm xs := List.mergeSort_perm _ _
theorem sortT_sorted (xs : List Tx) : (sortT xs).Pairwise (fun a b => leT a b = true) := List.pairwise_mergeSort leT_trans leT_total xs
theorem sort_uniq {xs ys : List Tx} (hp : ys.Perm xs) (hs : ys.Pairwise (fun a b => leT a b = true)) : ys = sortT xs :=
  List.Perm.eq_of_pairwise (fun a b _ _ => leT_anti a b) hs (sortT_sorted xs) (hp.trans (sortT_perm xs).symm)
theorem sortT_self {xs : List Tx} (hs : xs.Pairwise (fun a b => leT a b = true)) : sortT xs = xs := (sort_uniq (List.Perm.refl _) hs).symm
def strsM : List Mv → Option (List Tx)
  | [] => some []
  | .val (.str x) :: r => (strsM r).map (x :: ·)
  | _ => none
theorem strsM_map (xs : List Tx) : strsM (xs.map fun x => .val (.str x)) = some xs := by
  induction xs with
  | nil => rfl
  | cons x xs ih => simp [strsM, ih]
theorem strsM_ok {K : PySem.W.Frag} {mg : Str → Option Value} {N : Addr → Prop} {a : S3} : ∀ {ms : List Mv} {ws : List V} {xs : List Tx}, Paired (MR K mg N a) ms ws → strsM ms = some xs → ws = (xs.map sT).map V.str
  | [], _, _, .nil, e => by cases e; rfl
  | .val (.str x) :: r, _, _, .cons h t, e => by
    simp only [strsM] at e
    cases q : strsM r with
    | none => rw [q] at e; cases e
    | some ys =>
      rw [q] at e
      cases e
      rw [MR.str h, strsM_ok t q]; rfl
  | .val .non :: _, _, _, _, e => by cases e
  | .val (.bl _) :: _, _, _, _, e => by cases e
  | .val (.int _) :: _, _, _, _, e => by cases e
  | .val (.tup _) :: _, _, _, _, e => by cases e
  | .val (.lst _) :: _, _, _, _, e => by cases e
  | .val (.dK _) :: _, _, _, _, e => by cases e
  | .val (.dT _) :: _, _, _, _, e => by cases e
  | .val (.ins _ _) :: _, _, _, _, e => by cases e
  | .loc _ :: _, _, _, _, e => by cases e
theorem sortedS_cons : ∀ (ys : List Tx) (x : Tx), risingS (sT x) (ys.map sT) = true → (x :: ys).Pairwise (fun a b => leT a b = true)
  | [], x, _ => by simp
  | y :: ys, x, h => by
    simp only [List.map_cons, risingS, Bool.and_eq_true] at h
    have ih := sortedS_cons ys y h.2
    have h1 : leT x y = true := by
      have := h.1
      rw [sT_cps, sT_cps, PyProof.Rows.ltCps_eq] at this
      exact this
    rw [List.pairwise_cons]
    refine ⟨fun z hz => ?_, ih⟩
    rcases List.mem_cons.mp hz with rfl | hz
    · exact h1
    · exact leT_trans _ _ _ h1 ((List.pairwise_cons.mp ih).1 z hz)
theorem sortedS_pw {ys : List Tx} (h : sortedS (ys.map sT) = true) : ys.Pairwise (fun a b => leT a b = true) := by
  cases ys with
  | nil => exact .nil
  | cons y ys => exact sortedS_cons ys y h
theorem map_sT_perm {ys : List Str} {xs : List Tx} (h : ys.Perm (xs.map sT)) : ∃ zs : List Tx, ys = zs.map sT ∧ zs.Perm xs := by
  refine ⟨ys.map fun y => y.cps.toList, ?_, ?_⟩
  · rw [List.map_map]
    have : (sT ∘ fun y : Str => y.cps.toList) = id := by funext y; exact sT_of y
    rw [this, List.map_id]
  · have := h.map (fun y : Str => y.cps.toList)
    rw [List.map_map] at this
    have e : ((fun y : Str => y.cps.toList) ∘ sT) = id := by funext y; exact sT_cps y
    rwa [e, List.map_id] at this
/-- sorted(x): texts in a list or a tuple, or a dict's keys -/
def fSortS (mk : List Mv → Sto → Rz Mv) : List Mv → Sto → Rz Mv
  | [x], S => match seqOf S x with
    | some (.l, ms) => (match strsM ms with
      | some xs => if xs.length < 64 then mk ((sortT xs).map fun x => .val (.str x)) S else .stuck
      | none => .stuck)
    | some (.t, _) => .stuck
    | none => (match dicOf S x with
      | some kvs => (match strsM (keysM kvs) with
        | some xs => if xs.length < 64 then mk ((sortT xs).map fun x => .val (.str x)) S else .stuck
        | none => .stuck)
      | none => .stuck)
  | _, _ => .stuck
def rSortedDA : List V → Hp → VK → Prop := fun xs H Q => ∃ (a : Addr) (kvs : List (Key × V)) (ks : List Str), xs = [.ref a] ∧ Rd H a (.dK kvs) ∧ kvs.map (·.1) = ks.map Sum.inr ∧ ks.length < 64 ∧
    ∀ ys p, ys.Perm ks → sortedS ys = true → H p = none → Q (.ref p) (upd H p (.lst (ys.map V.str)))
theorem kV_str {k : Key} {x : Str} (h : kV k = V.str x) : k = Sum.inr x := by
  cases k with
  | inl i => cases h
  | inr z => cases h; rfl
theorem kVs_str : ∀ {kws : List (Key × V)} {ks : List Str}, (kws.map fun kv => kV kv.1) = ks.map V.str → kws.map (·.1) = ks.map Sum.inr
  | [], [], _ => rfl
  | [], _ :: _, h => by simp at h
  | _ :: _, [], h => by simp at h
  | p :: r, k :: ks, h => by
    simp only [List.map_cons, List.cons.injEq] at h ⊢
    exact ⟨kV_str h.1, kVs_str h.2⟩
theorem strs_paired {K : PySem.W.Frag} {mg : Str → Option Value} {N : Addr → Prop} {a : S3} : ∀ zs : List Tx, Paired (MR K mg N a) (zs.map fun x => Mv.val (.str x)) ((zs.map sT).map V.str)
  | [] => .nil
  | z :: zs => .cons VR.str (strs_paired zs)
theorem o_sortS {mk : List Mv → Sto → Rz Mv} (hm : NewOk X.K X.mg mk) (hc : X.calm = true) : CallR X (.builtin "sorted") (fun xs H Q => rSortedS X.K xs H Q ∨ rSortedDA xs H Q) ∧ MkOk X.K X.mg (fun xs H Q => rSortedS X.K xs H Q ∨ rSortedDA xs H Q) (fSortS mk) := by
  refine ⟨cr_sortedS.or (call_sortedD hc), fun N a xs vs W Q sr r h => ?_⟩
  unfold fSortS at h
  split at h
  · obtain ⟨v, rfl, r1⟩ := paired1 r
    split at h
    · rename_i ms e
      split at h
      · rename_i zs e2
        split at h
        · rename_i hl
          obtain ⟨p, ws, rfl, hs, t⟩ := seqOf_ok sr r1 e
          refine .inl ⟨p, zs.map sT, rfl, by rw [← strsM_ok t e2]; exact hs, by simpa using hl, fun ys q hp hs' hq => ?_⟩
          obtain ⟨us, rfl, hp2⟩ := map_sT_perm hp
          have eu := sort_uniq hp2 (sortedS_pw hs')
          rw [eu]
          exact (hm N a _ _ W Q sr (strs_paired _) h).2 q hq
        · exact h.elim
      · exact h.elim
    · exact h.elim
    · split at h
      · rename_i kvs e
        split at h
        · rename_i zs e2
          split at h
          · rename_i hl
            obtain ⟨p, kws, rfl, hs, t⟩ := dicOf_ok sr r1 e
            have hk := strsM_ok (keys_paired t) e2
            refine .inr ⟨p, kws, zs.map sT, rfl, hs, kVs_str hk, by simpa using hl, fun ys q hp hs' hq => ?_⟩
            obtain ⟨us, rfl, hp2⟩ := map_sT_perm hp
            have eu := sort_uniq hp2 (sortedS_pw hs')
            rw [eu]
            exact (hm N a _ _ W Q sr (strs_paired _) h).2 q hq
          · exact h.elim
        · exact h.elim
      · exact h.elim
  · exact h.elim
/-! ### f-strings -/
/-- {x}: a text or an int -/
def fFmt : Mv → Sto → Rz Mv
  | .val (.str x), S => if x.length ≤ sizeLine then .ok (.val (.str x)) S else .stuck
  | .val (.int i), S => if i.natAbs.log2 < 1920 then .ok (.val (.str (dec i))) S else .stuck
  | _, _ => .stuck
theorem qe_fmt {e : Expr} {f : XE} {pos : Pos} (he : QE X W e f) : QE X W (.FormattedValue e (-1) none pos) (eUn fFmt f) := by
  refine PE.weak (pe_fmt he) ?_
  rintro σ H Q ⟨N, a, ρ, ⟨rfl, sr, en⟩, h⟩
  refine ⟨N, a, ρ, ⟨rfl, sr, en⟩, (Post.bind_out (rel := MR X.K X.mg N) h).mono ?_⟩
  rintro v H1 ⟨b, m, rfl, x, sb, r, h1⟩
  unfold fFmt at h1
  split at h1
  · split at h1
    · rename_i hl
      rw [MR.str r]
      exact .inl ⟨_, rfl, by simpa using hl, Post.okv sb h1 .str⟩
    · exact h1.elim
  · split at h1
    · rename_i hl
      rw [MR.int r]
      refine .inr ⟨_, rfl, hl, ?_⟩
      have := Post.okv sb h1 .str
      rw [sT_dec] at this
      exact this
    · exact h1.elim
  · exact h1.elim
/-- the parts, one behind the other -/
def jsX : List XE → Tx → List (Option Mv) → Sto → Rz Mv
  | [], acc, _, S => .ok (.val (.str acc)) S
  | f :: fs, acc, ρ, S => (f ρ S).bind fun m S1 => match m with
    | .val (.str y) => if acc.length + y.length ≤ sizeLine then jsX fs (acc ++ y) ρ S1 else .stuck
    | _ => .stuck
inductive QJ (X : Cx) (W : WX) : List Expr → List XE → Prop where
  | nil : QJ X W [] []
  | cons {e f es fs} : QE X W e f → QJ X W es fs → QJ X W (e :: es) (f :: fs)
theorem QJ.pj {es : List Expr} {fs : List XE} (h : QJ X W es fs) : PJ X es (fs.map (IE X.K X.mg W)) := by
  induction h with
  | nil => exact .nil
  | cons he _ ih => exact .cons he ih
theorem js_read {K : PySem.W.Frag} {mg : Str → Option Value} {N : Addr → Prop} : ∀ (fs : List XE) (acc : Tx) (a : S3) (ρ : List (Option Mv)) (σ : L2.St) (Q : VK), SR K mg N a → EnvR K mg N a ρ σ → Post (MR K mg N) K mg N a (fun c d H' => W c d σ H') Q (jsX fs acc ρ a.S) →
    tJs (fs.map (IE K mg W)) (sT acc) σ a.H fun out H1 => Q (.str out) H1
  | [], acc, a, ρ, σ, Q, sr, en, h => Post.okv sr h .str
  | f :: fs, acc, a, ρ, σ, Q, sr, en, h => by
    refine ⟨N, a, ρ, ⟨rfl, sr, en⟩, (Post.bind_out (rel := MR K mg N) h).mono ?_⟩
    rintro v H1 ⟨b, m, rfl, x, sb, r, h1⟩
    split at h1
    · rename_i y
      split at h1
      · rename_i hl
        rw [MR.str r]
        refine ⟨_, rfl, ?_, ?_⟩
        · rw [sT_append, sT_length, List.length_append]; exact hl
        · rw [sT_append]
          exact js_read fs (acc ++ y) b ρ σ Q sb (en.ext x) h1
      · exact h1.elim
    · exact h1.elim
theorem qe_joined {v1 v2 : Expr} {rest : List Expr} {fs : List XE} {pos : Pos} (h : QJ X W (v1 :: v2 :: rest) fs) : QE X W (.JoinedStr (v1 :: v2 :: rest) pos) (jsX fs []) := by
  refine PE.weak (pe_joined h.pj) ?_
  rintro σ H Q ⟨N, a, ρ, ⟨rfl, sr, en⟩, h⟩
  exact js_read fs [] a ρ σ Q sr en h
end
end MK

/-! MK, part 13: dicts compared, shown; their items. -/
namespace MK
open PySem L2 PyProof.Rows
/-! ### len(d), isinstance(d, dict) is in part 7 -/
section
variable {X : Cx}
theorem o_lenD : CallR X (.builtin "len") (fun xs H Q => ∃ a kvs, xs = [V.ref a] ∧ H a = some (.dK kvs) ∧ Q (.int kvs.length) H) ∧ MkOk X.K X.mg (fun xs H Q => ∃ a kvs, xs = [V.ref a] ∧ H a = some (.dK kvs) ∧ Q (.int kvs.length) H) fLenD := by
  refine ⟨call_lenD, fun N a xs vs W Q sr r h => ?_⟩
  unfold fLenD at h
  split at h
  · obtain ⟨v, rfl, r1⟩ := paired1 r
    split at h
    · rename_i n kvs e
      obtain ⟨hk, rfl⟩ := r1
      obtain ⟨kws, hw, t⟩ := sr.at_ _ _ e
      refine ⟨_, kws, rfl, hw, ?_⟩
      rw [← paired_len t]
      exact Post.okv sr h .int
    · exact h.elim
  · exact h.elim
/-! ### == of two dicts whose values are ints -/
def intsM : List (Ky × Mv) → Option (List (Ky × Int))
  | [] => some []
  | (k, .val (.int i)) :: r => (intsM r).map ((k, i) :: ·)
  | _ => none
def valI (kvs : List (Ky × Int)) (k : Ky) : Option Int := (kvs.find? fun p => decide (p.1 = k)).map (·.2)
def eqKI (xs ys : List (Ky × Int)) : Bool := xs.length == ys.length && xs.all fun p => valI ys p.1 == some p.2
theorem intsM_ok {K : PySem.W.Frag} {mg : Str → Option Value} {N : Addr → Prop} {a : S3} : ∀ {kvs : List (Ky × Mv)} {kws : List (Key × V)} {xs : List (Ky × Int)}, Paired (MRp K mg N kS a) kvs kws → intsM kvs = some xs → kws = xs.map fun p => (kS p.1, V.int p.2)
  | [], _, _, .nil, e => by cases e; rfl
  | (k, .val (.int i)) :: r, q :: _, _, .cons ⟨e0, h⟩ t, e => by
    simp only [intsM] at e
    cases q1 : intsM r with
    | none => rw [q1] at e; cases e
    | some ys =>
      rw [q1] at e
      cases e
      rw [intsM_ok t q1]
      have h1 := MR.int h
      have : q = (kS k, V.int i) := Prod.ext e0.symm h1
      rw [this]; rfl
  | (_, .val .non) :: _, _, _, _, e => by cases e
  | (_, .val (.bl _)) :: _, _, _, _, e => by cases e
  | (_, .val (.str _)) :: _, _, _, _, e => by cases e
  | (_, .val (.tup _)) :: _, _, _, _, e => by cases e
  | (_, .val (.lst _)) :: _, _, _, _, e => by cases e
  | (_, .val (.dK _)) :: _, _, _, _, e => by cases e
  | (_, .val (.dT _)) :: _, _, _, _, e => by cases e
  | (_, .val (.ins _ _)) :: _, _, _, _, e => by cases e
  | (_, .loc _) :: _, _, _, _, e => by cases e
theorem valI_kv {vs : List (Key × Value)} : ∀ {ys : List (Ky × Int)} (k : Ky), KV (ys.map fun p => (kS p.1, V.int p.2)) vs → match valI ys k with
    | some i => ∃ t, valueAt vs (kS k) = some (.int i t)
    | none => valueAt vs (kS k) = none := by
  intro ys k kv
  have h := kv.val (kS k)
  have e : valV (ys.map fun p => (kS p.1, V.int p.2)) (kS k) = (valI ys k).map V.int := by
    clear h kv
    induction ys with
    | nil => rfl
    | cons p r ih =>
      rw [List.map_cons]
      by_cases hk : p.1 = k
      · rw [valV_pos (by rw [hk])]
        simp [valI, List.find?_cons, hk]
      · rw [valV_neg (fun z => hk (kS_inj z)), ih]
        simp [valI, List.find?_cons, hk]
  rw [e] at h
  cases q : valI ys k with
  | none =>
    rw [q] at h
    cases q2 : valueAt vs (kS k) with
    | none => rfl
    | some _ => rw [q2] at h; exact h.elim
  | some i =>
    rw [q] at h
    cases q2 : valueAt vs (kS k) with
    | none => rw [q2] at h; exact h.elim
    | some u =>
      rw [q2] at h
      obtain ⟨t, rfl⟩ := h
      exact ⟨t, rfl⟩
theorem hits_ints {A : Around} {s : Shared} {ys : List (Ky × Int)} {vb : List (Key × Value)} (rb : KV (ys.map fun p => (kS p.1, V.int p.2)) vb) : ∀ {xs : List (Ky × Int)} {va : List (Key × Value)}, KV (xs.map fun p => (kS p.1, V.int p.2)) va → PySem.W.KeqHits A s vb va (xs.all fun p => valI ys p.1 == some p.2)
  | [], _, .nil => .nil
  | p :: r, (k, v) :: va, .cons ⟨h1, h2⟩ t => by
    obtain rfl : kS p.1 = k := h1
    obtain ⟨tk, rfl⟩ := h2
    have hb := valI_kv p.1 rb
    rw [List.all_cons]
    cases q : valI ys p.1 with
    | none =>
      rw [q] at hb
      exact .miss hb
    | some j =>
      rw [q] at hb
      obtain ⟨u, hb⟩ := hb
      have e : (some j == some p.2) = (p.2 == j) := by
        rw [Bool.eq_iff_iff, beq_iff_eq, beq_iff_eq]
        constructor
        · intro h; cases h; rfl
        · intro h; rw [h]
      rw [e]
      exact .hit hb (SeqAt.EqAt.int_int _ _ _ _) (hits_ints rb t)
def rEqDI (neg : Bool) : R2 := fun x y H Q => ∃ a b xs ys, x = .ref a ∧ y = .ref b ∧ Rd H a (.dK (xs.map fun p : Ky × Int => (kS p.1, V.int p.2))) ∧ Rd H b (.dK (ys.map fun p : Ky × Int => (kS p.1, V.int p.2))) ∧ Q (.bl (eqKI xs ys != neg)) H
theorem op_eqDI (hu : X.A.units < cLine) : OpR X (compareOp .Eq) (rEqDI false) := by
  intro pins s σ H x y v u Q I rx ry h
  obtain ⟨a, b, ks, ls, rfl, rfl, ea, eb, q⟩ := h
  obtain rfl : v = Value.ref a := rx
  obtain rfl : u = Value.ref b := ry
  obtain ⟨_, ya, va, ra, da⟩ := dk_rd I.hok ea
  obtain ⟨_, yb, vb, rb, db⟩ := dk_rd I.hok eb
  refine PySem.W.keq_eq (knd := mixKind X.prog X.w) ya yb da db hu (fun _ => hits_ints rb ra) ⟨.bl _, H, I, rfl, ?_⟩
  have e1 : va.length = ks.length := by rw [← ra.length, List.length_map]
  have e2 : vb.length = ls.length := by rw [← rb.length, List.length_map]
  rw [e1, e2]
  simpa [eqKI] using q
theorem op_neDI (hu : X.A.units < cLine) : OpR X (compareOp .NotEq) (rEqDI true) := by
  intro pins s σ H x y v u Q I rx ry h
  obtain ⟨a, b, ks, ls, rfl, rfl, ea, eb, q⟩ := h
  obtain rfl : v = Value.ref a := rx
  obtain rfl : u = Value.ref b := ry
  obtain ⟨_, ya, va, ra, da⟩ := dk_rd I.hok ea
  obtain ⟨_, yb, vb, rb, db⟩ := dk_rd I.hok eb
  refine PySem.W.keq_ne (knd := mixKind X.prog X.w) ya yb da db hu (fun _ => hits_ints rb ra) ⟨.bl _, H, I, rfl, ?_⟩
  have e1 : va.length = ks.length := by rw [← ra.length, List.length_map]
  have e2 : vb.length = ls.length := by rw [← rb.length, List.length_map]
  rw [e1, e2]
  simpa [eqKI] using q
def fEqI (neg : Bool) (x y : Mv) (S : Sto) : Rz Mv := match dicOf S x, dicOf S y with
  | some kvs, some lvs => (match intsM kvs, intsM lvs with
    | some xs, some ys => .ok (.val (.bl (eqKI xs ys != neg))) S
    | _, _ => .stuck)
  | _, _ => .stuck
theorem fEqI_ok {K : PySem.W.Frag} {mg : Str → Option Value} (neg : Bool) : BinOk K mg (rEqDI neg) (fEqI neg) := by
  intro N a x y u w W Q sr rx ry h
  unfold fEqI at h
  split at h
  · rename_i kvs lvs e1 e2
    split at h
    · rename_i xs ys e3 e4
      obtain ⟨p, kws, rfl, h1, t1⟩ := dicOf_ok sr rx e1
      obtain ⟨p', lws, rfl, h2, t2⟩ := dicOf_ok sr ry e2
      rw [intsM_ok t1 e3] at h1
      rw [intsM_ok t2 e4] at h2
      exact ⟨p, p', xs, ys, rfl, rfl, h1, h2, Post.okv sr h .bl⟩
    · exact h.elim
  · exact h.elim
theorem o_eqI {k : Nat} (hr : Room k X.A) : OpR X (compareOp .Eq) (rEqDI false) ∧ BinOk X.K X.mg (rEqDI false) (fEqI false) := ⟨op_eqDI hr.units0, fEqI_ok false⟩
theorem o_neI {k : Nat} (hr : Room k X.A) : OpR X (compareOp .NotEq) (rEqDI true) ∧ BinOk X.K X.mg (rEqDI true) (fEqI true) := ⟨op_neDI hr.units0, fEqI_ok true⟩
end
/-! ### repr of data with dicts -/
def keyPy : Ky → PyData
  | .inl i => .int i
  | .inr x => .str (sT x)
mutual
def toPyX : Dv → Option PyData
  | .non => some .none
  | .bl b => some (.bool b)
  | .int i => some (.int i)
  | .str x => some (.str (sT x))
  | .tup ds => (toPyXs ds).map .tuple
  | .lst ds => (toPyXs ds).map .list
  | .dK kvs => (toPyXk kvs).map .dict
  | .dT _ | .ins _ _ => none
def toPyXs : List Dv → Option (List PyData)
  | [] => some []
  | d :: ds => (toPyX d).bind fun p => (toPyXs ds).map (p :: ·)
def toPyXk : List (Ky × Dv) → Option (List (PyData × PyData))
  | [] => some []
  | (k, d) :: r => (toPyX d).bind fun p => (toPyXk r).map ((keyPy k, p) :: ·)
end
mutual
/-- no list in it -/
def noL : Dv → Bool
  | .tup ds => noLs ds
  | .lst _ => false
  | .dK kvs => noLk kvs
  | _ => true
def noLs : List Dv → Bool
  | [] => true
  | d :: ds => noL d && noLs ds
def noLk : List (Ky × Dv) → Bool
  | [] => true
  | (_, d) :: r => noL d && noLk r
end
section
variable {X : Cx} {pins : List (Addr × Obj)} {σ : L2.St} {H F : Hp} {s : Shared} {mg : Str → Option Value}
mutual
theorem vr_reads (I : Inv X pins σ H s) (x : Sub F H) : ∀ {d : Dv} {v : V} {u : Value} {p : PyData}, VR X.K mg F d v → RelV v u → toPyX d = some p → ∃ as, Reads s.heap u p as ∧ (noL d = true → sysModules ∉ as)
  | .non, _, _, _, .non, r, e => by
    cases e; cases r
    exact ⟨_, .none, fun _ => by simp⟩
  | .bl b, _, _, _, .bl, r, e => by
    cases e; cases r
    exact ⟨_, .bool b, fun _ => by simp⟩
  | .int b, _, _, _, .int, r, e => by
    cases e
    obtain ⟨t, rfl⟩ := r
    exact ⟨_, .int b t, fun _ => by simp⟩
  | .str b, _, _, _, .str, r, e => by
    cases e
    obtain ⟨t, rfl⟩ := r
    exact ⟨_, .str _ t, fun _ => by simp⟩
  | .tup ds, _, _, _, .tup h t, r, e => by
    unfold toPyX at e
    cases q : toPyXs ds with
    | none => rw [q] at e; cases e
    | some ps =>
      rw [q] at e; cases e
      cases r
      obtain ⟨its, rv, ⟨o, ho, hc, n, hd⟩, _⟩ := I.tuple (x.sqT h)
      obtain ⟨as, hr, hs⟩ := vrs_reads I x t rv q
      exact ⟨_, Reads.tuple ho hc hd hr, fun hn => hs (by simpa [noL] using hn)⟩
  | .lst ds, _, _, _, .lst h t, r, e => by
    unfold toPyX at e
    cases q : toPyXs ds with
    | none => rw [q] at e; cases e
    | some ps =>
      rw [q] at e; cases e
      cases r
      obtain ⟨its, rv, ⟨o, n, ho, hc, _, hd⟩, _⟩ := I.list (x.sqL h)
      obtain ⟨as, hr, hs⟩ := vrs_reads I x t rv q
      exact ⟨_, Reads.list ho hc hd hr, fun hn => by simp [noL] at hn⟩
  | .dK kvs, _, _, _, .dK h t, r, e => by
    unfold toPyX at e
    cases q : toPyXk kvs with
    | none => rw [q] at e; cases e
    | some ps =>
      rw [q] at e; cases e
      cases r
      obtain ⟨_, lo, vs, rel, o, es, ep, ho, hx, hdat, _, hp, _⟩ := dk_rd I.hok (x.rd h)
      obtain ⟨as, bs, h1, h2, hs⟩ := vrk_reads I x t rel hp q
      refine ⟨_, Reads.dict ho hx.1 hdat h1 h2, fun hn hm => ?_⟩
      obtain ⟨n1, n2⟩ := hs (by simpa [noL] using hn)
      rcases List.mem_append.mp hm with hm | hm
      · rcases List.mem_cons.mp hm with hm | hm
        · rw [← hm] at lo; simp at lo
        · exact n1 hm
      · exact n2 hm
  | .dT _, _, _, _, _, _, e => by simp [toPyX] at e
  | .ins _ _, _, _, _, _, _, e => by simp [toPyX] at e
theorem vrs_reads (I : Inv X pins σ H s) (x : Sub F H) : ∀ {d : List Dv} {v : List V} {u : List Value} {p : List PyData}, VRs X.K mg F d v → Vals v u → toPyXs d = some p → ∃ as, ReadsAll s.heap u p as ∧ (noLs d = true → sysModules ∉ as)
  | [], _, _, _, .nil, .nil, e => by cases e; exact ⟨_, .nil, fun _ => by simp⟩
  | d :: ds, _, _, _, .cons r t, .cons r1 r2, e => by
    unfold toPyXs at e
    cases q : toPyX d with
    | none => rw [q] at e; cases e
    | some p =>
      cases q2 : toPyXs ds with
      | none => rw [q, q2] at e; cases e
      | some ps =>
        rw [q, q2] at e; cases e
        obtain ⟨as, h1, n1⟩ := vr_reads I x r r1 q
        obtain ⟨bs, h2, n2⟩ := vrs_reads I x t r2 q2
        refine ⟨_, .cons h1 h2, fun hn hm => ?_⟩
        simp only [noLs, Bool.and_eq_true] at hn
        rcases List.mem_append.mp hm with hm | hm
        · exact n1 hn.1 hm
        · exact n2 hn.2 hm
theorem vrk_reads (I : Inv X pins σ H s) (x : Sub F H) : ∀ {d : List (Ky × Dv)} {v : List (Key × V)} {vs : List (Key × Value)} {es : List DictEntry} {p : List (PyData × PyData)}, VRp X.K mg F kS d v → KV v vs → Pairs (mixKind X.prog X.w) es vs → toPyXk d = some p →
    ∃ as bs, ReadsAll s.heap (es.map (·.key)) (p.map (·.1)) as ∧ ReadsAll s.heap (es.map (·.val)) (p.map (·.2)) bs ∧ (noLk d = true → sysModules ∉ as ∧ sysModules ∉ bs)
  | [], _, _, _, _, .nil, .nil, .nil, e => by cases e; exact ⟨_, _, .nil, .nil, fun _ => by simp⟩
  | (k, d) :: ds, _, _, _, _, .cons r t, .cons ⟨k1, r1⟩ t1, .cons (e := en) k2 e2 t2, e => by
    unfold toPyXk at e
    cases q : toPyX d with
    | none => rw [q] at e; cases e
    | some p =>
      cases q2 : toPyXk ds with
      | none => rw [q, q2] at e; cases e
      | some ps =>
        rw [q, q2] at e; cases e
        rw [← e2] at r1
        obtain ⟨cs, h1, n1⟩ := vr_reads I x r r1 q
        obtain ⟨as, bs, h2, h3, n2⟩ := vrk_reads I x t t1 t2 q2
        rw [← k1] at k2
        have hk : Reads s.heap en.key (keyPy k) [] := by
          rcases keyIs_shape k2 with ⟨i, tk, ek, ev⟩ | ⟨z, tk, ek, ev⟩
          · cases k with
            | inl j => cases ek; rw [ev]; exact .int _ _
            | inr z => cases ek
          · cases k with
            | inl j => cases ek
            | inr z => cases ek; rw [ev]; exact .str _ _
        refine ⟨_, _, .cons hk h2, .cons h1 h3, fun hn => ?_⟩
        simp only [noLk, Bool.and_eq_true] at hn
        obtain ⟨m1, m2⟩ := n2 hn.2
        refine ⟨by simpa using m1, fun hm => ?_⟩
        rcases List.mem_append.mp hm with hm | hm
        · exact n1 hn.1 hm
        · exact m2 hm
end
end
section
variable {X : Cx}
def fReprX : List Mv → Sto → Rz Mv
  | [m], S => match rfy 8 S m with
    | some d => (match toPyX d with
      | some p => if rooted p && p.showable && (!p.hasDict || noL d) && decide (p.depth ≤ 60) && decide (p.shown.length ≤ sizeLine) then .ok (.val (.str p.shown.cps.toList)) S else .stuck
      | none => .stuck)
    | none => .stuck
  | _, _ => .stuck
def rReprX (K : PySem.W.Frag) : List V → Hp → VK → Prop := fun xs H Q => ∃ (v : V) (d : Dv) (p : PyData) (mg : Str → Option Value) (F : Hp), xs = [v] ∧ Sub F H ∧ VR K mg F d v ∧ toPyX d = some p ∧ rooted p = true ∧ p.showable = true ∧ (p.hasDict = true → noL d = true) ∧ p.depth ≤ 60 ∧ p.shown.length ≤ sizeLine ∧ Q (.str p.shown) H
theorem call_reprX {k : Nat} (hr : Room k X.A) (hg : X.A.guards = some []) : CallR X (.builtin "repr") (rReprX X.K) := by
  intro pins s σ H xs us Q I r h
  obtain ⟨v, d, p, mg, F, rfl, x, vr, ep, h0, h1, h2, h3, h4, q⟩ := h
  obtain ⟨u, rfl, ru⟩ := vals1 r
  obtain ⟨as, rd, ns⟩ := vr_reads I x vr ru ep
  have hu := hr.units
  cases rd with
  | none => cases h0
  | bool b => cases h0
  | int i t =>
    exact PySem.P.repr_of_int (by simpa [PyData.showable] using h1) ⟨.str _, H, I.tok _, ⟨_, rfl⟩, by simpa [PyData.shown] using q⟩
  | str x t =>
    have q' : Q (.str (reprText x)) H := by simpa [PyData.shown] using q
    have h4' : (reprText x).length ≤ sizeLine := by simpa [PyData.shown] using h4
    exact PySem.P.repr_of_str ⟨.str _, H, I.tok _, ⟨_, rfl⟩, q'⟩ h4'
  | list e1 e2 e3 e4 =>
    exact repr_of_reads' (Reads.list e1 e2 e3 e4) h1 (fun e => ns (h2 e)) hg (by omega) (fun _ _ e => e) (fun h' u tk kk => ⟨.str _, H, I.kept (t' := tk) kk, ⟨_, rfl⟩, q⟩) h4
  | tuple e1 e2 e3 e4 =>
    exact repr_of_reads' (Reads.tuple e1 e2 e3 e4) h1 (fun e => ns (h2 e)) hg (by omega) (fun _ _ e => e) (fun h' u tk kk => ⟨.str _, H, I.kept (t' := tk) kk, ⟨_, rfl⟩, q⟩) h4
  | dict e1 e2 e3 e4 e5 =>
    exact repr_of_reads' (Reads.dict e1 e2 e3 e4 e5) h1 (fun e => ns (h2 e)) hg (by omega) (fun _ _ e => e) (fun h' u tk kk => ⟨.str _, H, I.kept (t' := tk) kk, ⟨_, rfl⟩, q⟩) h4
theorem o_reprX {k : Nat} (hr : Room k X.A) (hg : X.A.guards = some []) : CallR X (.builtin "repr") (rReprX X.K) ∧ MkOk X.K X.mg (rReprX X.K) fReprX := by
  refine ⟨call_reprX hr hg, fun N a xs vs W Q sr r h => ?_⟩
  unfold fReprX at h
  split at h
  · obtain ⟨v, rfl, r1⟩ := paired1 r
    split at h
    · rename_i d e1
      split at h
      · rename_i p e2
        split at h
        · rename_i hc
          simp only [Bool.and_eq_true, Bool.or_eq_true, Bool.not_eq_true', decide_eq_true_eq] at hc
          obtain ⟨⟨⟨⟨c1, c2⟩, c3⟩, c4⟩, c5⟩ := hc
          refine ⟨v, d, p, X.mg, hide N a.H, rfl, hide_sub, rfy_ok sr 8 r1 e1, e2, c1, c2, fun hd => ?_, c4, c5, ?_⟩
          · rcases c3 with c3 | c3
            · rw [hd] at c3; cases c3
            · exact c3
          · have := Post.okv sr h VR.str
            rwa [sT_of] at this
        · exact h.elim
      · exact h.elim
    · exact h.elim
  · exact h.elim
end
end MK

/-! MK, part 14: sorted(d.items()) of a dict of texts and ints; list(d.items()). -/
namespace MK
open PySem L2 PyProof.Rows
abbrev SI := Tx × Int
def ltSI (p q : SI) : Bool := if p.1 = q.1 then decide (p.2 < q.2) else decide (p.1 < q.1)
theorem ltTx_asym {x y : Tx} (h : x < y) : ¬ y < x := fun h2 => List.lt_irrefl x (List.lt_trans h h2)
theorem ltTx_tri (x y : Tx) : x < y ∨ x = y ∨ y < x := by
  by_cases h : x < y
  · exact .inl h
  · by_cases h2 : y < x
    · exact .inr (.inr h2)
    · exact .inr (.inl (List.le_antisymm (List.not_lt.mp h2) (List.not_lt.mp h)))
theorem ltSI_no {p q : SI} : ltSI p q = false ↔ q.1 < p.1 ∨ (p.1 = q.1 ∧ q.2 ≤ p.2) := by
  unfold ltSI
  by_cases e : p.1 = q.1
  · rw [if_pos e, decide_eq_false_iff_not]
    constructor
    · intro h; exact .inr ⟨e, by omega⟩
    · rintro (h | ⟨_, h⟩)
      · rw [e] at h; exact absurd h (List.lt_irrefl _)
      · omega
  · rw [if_neg e, decide_eq_false_iff_not]
    constructor
    · intro h
      rcases ltTx_tri p.1 q.1 with h1 | h1 | h1
      · exact absurd h1 h
      · exact absurd h1 e
      · exact .inl h1
    · rintro (h | ⟨h, _⟩)
      · exact ltTx_asym h
      · exact absurd h e
theorem ltSI_swo (k : Value → SI) : SrtO.Swo fun v u => ltSI (k v) (k u) := by
  refine ⟨fun x y h => ?_, fun x y z h1 h2 => ?_⟩
  · rw [ltSI_no]
    unfold ltSI at h
    by_cases e : (k x).1 = (k y).1
    · rw [if_pos e] at h
      have := of_decide_eq_true h
      exact .inr ⟨e.symm, by omega⟩
    · rw [if_neg e] at h
      exact .inl (of_decide_eq_true h)
  · rw [ltSI_no] at h1 h2 ⊢
    rcases h1 with h1 | ⟨h1, g1⟩
    · rcases h2 with h2 | ⟨h2, g2⟩
      · exact .inl (List.lt_trans h1 h2)
      · rw [h2]; exact .inl h1
    · rcases h2 with h2 | ⟨h2, g2⟩
      · rw [h1] at h2; exact .inl h2
      · exact .inr ⟨h2.trans h1, by omega⟩
def leSI (p q : SI) : Bool := !ltSI q p
def sortI (xs : List SI) : List SI := xs.mergeSort leSI
theorem leSI_iff {p q : SI} : leSI p q = true ↔ p.1 < q.1 ∨ (p.1 = q.1 ∧ p.2 ≤ q.2) := by
  unfold leSI
  rw [Bool.not_eq_true', ltSI_no]
  constructor
  · rintro (h | ⟨h, g⟩)
    · exact .inl h
    · exact .inr ⟨h.symm, g⟩
  · rintro (h | ⟨h, g⟩)
    · exact .inl h
    · exact .inr ⟨h.symm, g⟩
theorem leSI_trans (a b c : SI) (h1 : leSI a b = true) (h2 : leSI b c = true) : leSI a c = true := by
  rw [leSI_iff] at *
  rcases h1 with h1 | ⟨h1, g1⟩
  · rcases h2 with h2 | ⟨h2, g2⟩
    · exact .inl (List.lt_trans h1 h2)
    · rw [← h2]; exact .inl h1
  · rcases h2 with h2 | ⟨h2, g2⟩
    · rw [h1]; exact .inl h2
    · exact .inr ⟨h1.trans h2, by omega⟩
theorem leSI_total (a b : SI) : (leSI a b || leSI b a) = true := by
  rw [Bool.or_eq_true, leSI_iff, leSI_iff]
  rcases ltTx_tri a.1 b.1 with h | h | h
  · exact .inl (.inl h)
  · rcases Int.le_total a.2 b.2 with g | g
    · exact .inl (.inr ⟨h, g⟩)
    · exact .inr (.inr ⟨h.symm, g⟩)
  · exact .inr (.inl h)
theorem leSI_anti (a b : SI) (h1 : leSI a b = true) (h2 : leSI b a = true) : a = b := by
  rw [leSI_iff] at *
  rcases h1 with h1 | ⟨h1, g1⟩
  · rcases h2 with h2 | ⟨h2, g2⟩
    · exact absurd h2 (ltTx_asym h1)
    · rw [h2] at h1; exact absurd h1 (List.lt_irrefl _)
  · rcases h2 with h2 | ⟨h2, g2⟩
    · rw [h1] at h2; exact absurd h2 (List.lt_irrefl _)
    · exact Prod.ext h1 (by omega)
theorem sortI_perm (xs : List SI) : (sortI xs).Perm xs := List.mergeSort_perm _ _
theorem sortI_sorted (xs : List SI) : (sortI xs).Pairwise (fun a b => leSI a b = true) := List.pairwise_mergeSort leSI_trans leSI_total xs
theorem sortI_uniq {xs ys : List SI} (hp : ys.Perm xs) (hs : ys.Pairwise (fun a b => leSI a b = true)) : ys = sortI xs :=
  List.Perm.eq_of_pairwise (fun a b _ _ => leSI_anti a b) hs (sortI_sorted xs) (hp.trans (sortI_perm xs).symm)
/-! ### pairs of a text and an int, on the heap -/
section
variable {prog : Program} {w : World} {A : Around} {E : Value → Shared → Prop} {s : Shared}
def IsPS (h : Heap) (v : Value) (p : SI) : Prop := ∃ a o t u n, v = .ref a ∧ h.get? a = some o ∧ o.cls = .type "tuple" ∧ o.data = .seq #[.str (sT p.1) t, .int p.2 u] n
theorem IsPS.keeps {h h' : Heap} {v : Value} {p : SI} (x : IsPS h v p) (k : ∀ b o, h.get? b = some o → o.cls = .type "tuple" → h'.get? b = some o) : IsPS h' v p := by
  obtain ⟨a, o, t, u, n, e, ho, hc, hd⟩ := x
  exact ⟨a, o, t, u, n, e, k _ _ ho hc, hc, hd⟩
theorem firsts_ps {h : Heap} : ∀ {vs : List Value}, (∀ v ∈ vs, ∃ p, IsPS h v p) → ∃ fs : List Value, PySem.W.KatTups h vs fs ∧ fs.length = vs.length ∧ ∀ f ∈ fs, ∃ x t, f = Value.str x t
  | [], _ => ⟨[], PySem.W.KatTups.nil, rfl, fun _ hm => by simp at hm⟩
  | v :: vs, hp => by
    obtain ⟨fs, h1, h2, h3⟩ := firsts_ps (vs := vs) fun v' hm => hp v' (List.mem_cons_of_mem _ hm)
    obtain ⟨p, a, o, t, u, n, rfl, ho, hc, hd⟩ := hp v (List.mem_cons_self ..)
    refine ⟨.str (sT p.1) t :: fs, PySem.W.KatTups.cons ho hc hd rfl h1, by rw [List.length_cons, List.length_cons, h2], fun f hm => ?_⟩
    rcases List.mem_cons.mp hm with rfl | hm
    · exact ⟨_, t, rfl⟩
    · exact h3 f hm
theorem ps_cmp {vs : List Value} {k : Value → SI} (hp : ∀ v ∈ vs, IsPS s.heap v (k v)) : SrtO.Cmp prog w A s (tuples' true) (fun p => p.1 ∈ vs) (SrtO.lt2 fun v u => ltSI (k v) (k u)) := by
  intro p q hm hm'
  have h1 := hp _ hm
  have h2 := hp _ hm'
  show wpAny (model prog w) A (keyLt' (tuples' true) p.1 q.1) (fun r s' => s' = s ∧ r = ltSI (k p.1) (k q.1)) (fun _ _ => False) s
  unfold ltSI
  generalize (k p.1) = x at h1 ⊢
  generalize (k q.1) = y at h2 ⊢
  obtain ⟨a, o, t, u, n, e, ho, hc, hd⟩ := h1
  obtain ⟨a', o', t', u', n', e', ho', hc', hd'⟩ := h2
  rw [e, e']
  refine PySem.W.kat_lt ho hd ho' hd' ?_
  show PySem.W.KatLex prog w A true (decide (2 < 2)) _ [(.str (sT x.1) t, .str (sT y.1) t'), (.int x.2 u, .int y.2 u')] 0 s
  refine PySem.W.kat_cons (SeqAt.EqAt.str_str (sT x.1) t (sT y.1) t' prog w _ _ ?_)
  refine PySem.W.kat_go (fun e1 => ?_) (fun e1 => ?_)
  · have ex : x.1 = y.1 := sT_inj (by simpa using e1)
    refine PySem.W.kat_yes (PySem.W.kat_cons (SeqAt.EqAt.int_int x.2 u y.2 u' prog w _ _ ?_))
    refine PySem.W.kat_go (fun e2 => ?_) (fun e2 => ?_)
    · have ey : x.2 = y.2 := by simpa using e2
      have e3 : (if x.1 = y.1 then decide (x.2 < y.2) else decide (x.1 < y.1)) = false := by
        rw [if_pos ex, ey]
        exact decide_eq_false (Int.lt_irrefl _)
      exact PySem.W.kat_yes (PySem.W.kat_nil ⟨rfl, e3.symm⟩)
    · have e3 : (if x.1 = y.1 then decide (x.2 < y.2) else decide (x.1 < y.1)) = decide (x.2 < y.2) := if_pos ex
      refine PySem.W.kat_no (PySem.W.kat_one _ _ (PyProof.Rows.lt_int ?_))
      exact (show s = s ∧ decide (x.2 < y.2) = (if x.1 = y.1 then decide (x.2 < y.2) else decide (x.1 < y.1)) from ⟨rfl, e3.symm⟩)
  · have ex : ¬ x.1 = y.1 := fun z => by rw [z] at e1; simp at e1
    have e3 : (if x.1 = y.1 then decide (x.2 < y.2) else decide (x.1 < y.1)) = decide (x.1 < y.1) := if_neg ex
    refine PySem.W.kat_no (PyProof.Rows.oneLt_str ?_)
    rw [sT_cps, sT_cps]
    exact ⟨rfl, e3.symm⟩
theorem ps_sortable {a : Addr} {vs : List Value} {k : Value → SI} (h0 : 0 < vs.length) (hp : ∀ v ∈ vs, IsPS s.heap v (k v)) (ha : ∀ o, s.heap.get? a = some o → o.cls ≠ .type "tuple") : SrtO.SortableO prog w A s a vs fun v u => ltSI (k v) (k u) := by
  intro h' keep
  have hp' : ∀ v ∈ vs, IsPS h' v (k v) := fun v hm => (hp v hm).keeps fun b o e c => keep b o (fun z => by subst z; exact ha o e c) e
  obtain ⟨fs, h1, h2, h3⟩ := firsts_ps fun v hm => ⟨_, hp' v hm⟩
  refine ⟨tuples' true, fun Q E hq => ?_, ps_cmp hp'⟩
  refine PySem.W.kat_kind (T := .type "str") h1 (by omega) (fun f hm => ?_) (by rfl) ?_
  · obtain ⟨x, t, rfl⟩ := h3 f hm
    exact PySem.W.Looks.now
  · have e : (Value.type "str" != Value.type "tuple") = true := by first | decide +kernel | rfl | decide
    rw [e]
    exact hq
end
/-! ### sorted(d.items()) -/
section
variable {X : Cx}
def rItemsK : V → List V → Hp → VK → Prop := fun x xs H Q => ∃ (a : Addr) (kvs : List (Key × V)), x = .ref a ∧ xs = [] ∧ Rd H a (.dK kvs) ∧ ∀ p, H p = none → Q (.ref p) (upd H p (L2.DX.itemsO p a))
theorem mt_itemsK : MtR X "dict.items" rItemsK := by
  intro pins s σ H x xs v us Q I rx rxs h
  obtain ⟨a, kvs, rfl, rfl, ha, q⟩ := h
  cases rx
  cases rxs
  obtain ⟨z, hd, vs, rel, o, es, ep, ho, hx, hdat, _⟩ := dk_rd I.hok ha
  refine DT.callItems (es := es) (ep := ep) hd ⟨o, ho, hx, hdat⟩ ?_
  have hf : H s.heap.objs.size = none := I.hok.fresh (Nat.le_refl _)
  exact ⟨.ref s.heap.objs.size, upd H s.heap.objs.size (L2.DX.itemsO s.heap.objs.size a), I.laid (t' := s.toks) (fun b u e => Heap.get?_push_of_some _ e) (Nat.le_refl _) (L2.DX.itemsO_ok (Heap.get?_push_size _ rfl)), rfl, q _ hf⟩
abbrev entI (p : SI) : Key × V := (Sum.inr (sT p.1), V.int p.2)
def rSortIK : List V → Hp → VK → Prop := fun vs H Q => ∃ (p a : Addr) (xs : List SI), vs = [.ref p] ∧ H p = some (L2.DX.itemsO p a) ∧ Rd H a (.dK (xs.map entI)) ∧
  ∀ (H' : Hp) (l : Addr) (ps : List (Addr × SI)), (∀ b o, H b = some o → H' b = some o) → (ps.map (·.2)).Perm xs → (ps.map (·.2)).Pairwise (fun a b => leSI a b = true) → H l = none → (∀ z ∈ ps, H z.1 = none) → H' l = some (.lst (ps.map fun z => V.ref z.1)) →
    (∀ z ∈ ps, H' z.1 = some (.tup [.str (sT z.2.1), .int z.2.2])) → Q (.ref l) H'
theorem zip_map_l {α β γ : Type} (f : α → γ) : ∀ (as : List α) (bs : List β), as.length = bs.length → (as.zip bs).map (fun z => f z.1) = as.map f
  | [], _, _ => rfl
  | a :: as, [], h => by simp at h
  | a :: as, b :: bs, h => by
    show f a :: (as.zip bs).map _ = f a :: as.map f
    rw [zip_map_l f as bs (by simpa using h)]
theorem cr_sortIK (hc : X.calm = true) : CallR X (.builtin "sorted") rSortIK := by
  intro pins s σ H xs us Q I r h
  obtain ⟨p, a, ks, rfl, hp, ha, q⟩ := h
  obtain rfl := Vals.ref1 r
  have view : s.heap.IsItemsView p a := (show ObjOk X.prog X.w H s.heap p (L2.DX.itemsO p a) from I.hok p _ hp).1
  obtain ⟨z, hd, vs', rel, o, es, ep, ho, hx, hdat, _, hpr, _⟩ := dk_rd I.hok ha
  have l1 : (ks.map entI).length = vs'.length := Paired.length rel
  rw [List.length_map] at l1 z
  have l2 : es.size = vs'.length := by rw [← hpr.length]; exact Array.length_toList.symm
  have hh : X.A.handled = none := I.ok.hd hc
  refine DT.sortedI (es := es) (ep := ep) hh view ⟨o, ho, hx, hdat⟩ (by omega) fun h' tk as hk hlt hl hG => ?_
  have lak : as.length = ks.length := by omega
  have nd : as.Nodup := List.Pairwise.imp (fun h => Nat.ne_of_lt h) hG.rise
  have pr : ∀ (j : Nat) (b : Addr), as[j]? = some b → ∃ e : SI, ks[j]? = some e ∧ ∃ t u, h'.get? b = some { cls := .type "tuple", data := .seq #[Value.str (sT e.1) t, Value.int e.2 u] } := by
    intro j b hj
    obtain ⟨en, he, hg⟩ := hG.pairs j b hj
    have hlt : j < ks.length := by rw [← lak]; exact (List.getElem?_eq_some_iff.mp hj).1
    obtain ⟨e, hkj⟩ : ∃ e, ks[j]? = some e := ⟨_, List.getElem?_eq_getElem hlt⟩
    obtain ⟨⟨ky, vv⟩, h1, h2, h3⟩ := paired_get rel (i := j) (a := entI e) (by rw [List.getElem?_map, hkj]; rfl)
    obtain ⟨g1, g2⟩ := hpr.get? (i := j) (e := en) (k := ky) (v := vv) (by rw [Array.getElem?_toList]; exact he) h1
    obtain rfl : Sum.inr (sT e.1) = ky := h2
    obtain ⟨u, rfl⟩ := h3
    obtain ⟨t, ht⟩ : ∃ t, en.key = Value.str (sT e.1) t := by
      rcases L2.keyIs_shape (show L2.keyIs (Sum.inr (sT e.1)) en.key = true from g1) with ⟨i, t, e1, _⟩ | ⟨y, t, e1, e2⟩
      · cases e1
      · cases e1; exact ⟨t, e2⟩
    exact ⟨e, hkj, t, u, by rw [hg, ht, g2]⟩
  have hob : (h'.push { cls := .type "list", data := .seq (as.map Value.ref).toArray }).get? h'.objs.size = some (seqObj "list" (as.map Value.ref).toArray 0) := Heap.get?_push_size _ rfl
  have kb : ∀ b o, s.heap.get? b = some o → (h'.push { cls := .type "list", data := .seq (as.map Value.ref).toArray }).get? b = some o := fun b o e => Heap.get?_push_of_some _ (hk b o e)
  have ne0 : ∀ b o, h'.get? b = some o → b ≠ h'.objs.size := fun b o e => Nat.ne_of_lt (Heap.lt_size e)
  generalize hh2 : h'.push { cls := .type "list", data := .seq (as.map Value.ref).toArray } = h2 at hob kb ⊢
  have ka : ∀ b o, h'.get? b = some o → h2.get? b = some o := fun b o e => by rw [← hh2]; exact Heap.get?_push_of_some _ e
  -- which pair stands at an address
  let kf : Value → SI := fun v => match v with
    | .ref b => ((as.zip ks).lookup b).getD ([], 0)
    | _ => ([], 0)
  have kat : ∀ (as : List Addr) (ks : List SI) (j : Nat) (b : Addr) (e : SI), as.Nodup → as[j]? = some b → ks[j]? = some e → (as.zip ks).lookup b = some e := by
    intro as
    induction as with
    | nil => intro ks j b e _ h1; simp at h1
    | cons a0 as ih =>
      intro ks j b e hn h1 h2
      cases ks with
      | nil => simp at h2
      | cons k0 ks =>
        rw [List.nodup_cons] at hn
        cases j with
        | zero =>
          simp at h1 h2
          subst h1 h2
          simp [List.lookup]
        | succ j =>
          simp at h1 h2
          have hm : b ∈ as := List.mem_of_getElem? h1
          have hne : (b == a0) = false := beq_eq_false_iff_ne.mpr fun z => hn.1 (by rw [← z]; exact hm)
          simp only [List.zip_cons_cons, List.lookup, hne]
          exact ih ks j b e hn.2 h1 h2
  have at_ : ∀ v ∈ as.map Value.ref, ∃ (j : Nat) (b : Addr) (e : SI), v = .ref b ∧ as[j]? = some b ∧ ks[j]? = some e ∧ kf v = e := by
    intro v hv'
    obtain ⟨b, hb, rfl⟩ := List.mem_map.mp hv'
    obtain ⟨j, hj⟩ := List.mem_iff_getElem?.mp hb
    obtain ⟨e, he, _⟩ := pr j b hj
    refine ⟨j, b, e, rfl, hj, he, ?_⟩
    show ((as.zip ks).lookup b).getD ([], 0) = e
    rw [kat as ks j b e nd hj he]; rfl
  have isps : ∀ v ∈ as.map Value.ref, IsPS h2 v (kf v) := by
    intro v hv'
    obtain ⟨j, b, e, rfl, hj, he, hkf⟩ := at_ v hv'
    obtain ⟨e', he', t, u, hg⟩ := pr j b hj
    obtain rfl : e' = e := Option.some.inj (he'.symm.trans he)
    rw [hkf]
    exact ⟨b, _, t, u, 0, rfl, ka _ _ hg, rfl, rfl⟩
  refine wpAny_call_entry PyProof.Rows.slot_list_sort ⟨_, hob, rfl⟩ PyProof.Rows.entry_list_sort
    (SrtO.list_sort_ord (s := { s with heap := h2, toks := tk }) (ltv := fun v u => ltSI (kf v) (kf u)) (ltSI_swo kf) hob (by rw [List.length_map]; omega) (fun h2' => ps_sortable (by omega) isps fun o e => ?_) fun out o1 o2 => ⟨.none, rfl, ?_⟩) (PyProof.Rows.args_list_sort _)
  · have e' : some o = some (seqObj "list" (as.map Value.ref).toArray 0) := e.symm.trans hob
    cases e'
    intro c
    exact absurd (Value.type.inj c) (by decide)
  · show EP X pins σ Q (.ref h'.objs.size) { s with heap := sortedHeap h2 h'.objs.size (as.map Value.ref) out.toArray, toks := tk }
    obtain ⟨zs, pz, ez⟩ := perm_lift (fun z : Addr × SI => Value.ref z.1) o2.perm (as.zip ks) (zip_map_l Value.ref as ks lak)
    have idx : ∀ z ∈ zs, ∃ j : Nat, as[j]? = some z.1 ∧ ks[j]? = some z.2 := by
      intro z' hz'
      obtain ⟨j, hj⟩ := List.mem_iff_getElem?.mp (pz.mem_iff.mp hz')
      exact ⟨j, List.getElem?_zip_eq_some.mp hj⟩
    have hperm : (zs.map (·.2)).Perm ks := by
      have e := pz.map (·.2)
      have m2 : (as.zip ks).map (·.2) = ks := List.map_snd_zip (by rw [lak]; exact Nat.le_refl _)
      rw [m2] at e
      exact e
    have hsort : (zs.map (·.2)).Pairwise (fun a b => leSI a b = true) := by
      have o3 : out.Pairwise (fun v u => ltSI (kf u) (kf v) = false) := o1
      rw [← ez, List.pairwise_map] at o3
      rw [List.pairwise_map]
      refine List.Pairwise.imp_of_mem (fun {x y} hx hy h => ?_) o3
      obtain ⟨j, j1, j2⟩ := idx x hx
      obtain ⟨i, i1, i2⟩ := idx y hy
      have e1 : kf (.ref x.1) = x.2 := by
        show ((as.zip ks).lookup x.1).getD ([], 0) = x.2
        rw [kat as ks j _ _ nd j1 j2]; rfl
      have e2 : kf (.ref y.1) = y.2 := by
        show ((as.zip ks).lookup y.1).getD ([], 0) = y.2
        rw [kat as ks i _ _ nd i1 i2]; rfl
      rw [e1, e2] at h
      unfold leSI
      rw [h]; rfl
    have kF : ∀ b o, b ≠ h'.objs.size → h2.get? b = some o → (sortedHeap h2 h'.objs.size (as.map Value.ref) out.toArray).get? b = some o := fun b o hb e => (PyProof.Rows.sortedHeap_old hb (Heap.lt_size e)).trans e
    have kS : ∀ b o, s.heap.get? b = some o → (sortedHeap h2 h'.objs.size (as.map Value.ref) out.toArray).get? b = some o := fun b o e => kF b o (ne0 _ _ (hk b o e)) (kb b o e)
    obtain ⟨eF, heF⟩ := PyProof.Rows.sortedHeap_at (vs := as.map Value.ref) (out := out.toArray) hob
    have I1 : Inv X pins σ H { s with heap := sortedHeap h2 h'.objs.size (as.map Value.ref) out.toArray, toks := tk } := I.kept (t' := tk) kS
    have hn0 : H h'.objs.size = none := I.hok.fresh (Nat.le_of_lt hlt)
    have hlen : (zs.map fun z => V.ref z.1).length ≤ sizeLine := by
      have e := hperm.length_eq
      rw [List.length_map] at e
      rw [List.length_map]
      omega
    have rv : Vals (zs.map fun z => V.ref z.1) out := by
      rw [← ez]
      exact vals_maps (fun z : Addr × SI => V.ref z.1) (fun z => Value.ref z.1) zs fun _ _ => rfl
    have I2 : Inv X pins σ (upd H h'.objs.size (.lst (zs.map fun z => V.ref z.1))) { s with heap := sortedHeap h2 h'.objs.size (as.map Value.ref) out.toArray, toks := tk } :=
      I1.take (h' := sortedHeap h2 h'.objs.size (as.map Value.ref) out.toArray) (t' := tk) (fun b ob _ e => e) (I.fpOk (Nat.le_of_lt hlt) hn0) ⟨hlen, out, eF, rv, heF⟩
    obtain ⟨H2, I3, g, qt⟩ := L2.DX.takeT (P := fun b vs => ∃ (j : Nat) (e : SI), as[j]? = some b ∧ ks[j]? = some e ∧ vs = [.str (sT e.1), .int e.2]) I as _ I2 nd fun b hb => by
      obtain ⟨j, hj⟩ := List.mem_iff_getElem?.mp hb
      obtain ⟨e, he, t, u, hg⟩ := pr j b hj
      have hbl : s.heap.objs.size ≤ b := Nat.le_of_lt (hG.above b hb)
      refine ⟨hbl, ?_, [.str (sT e.1), .int e.2], ⟨j, e, hj, he, rfl⟩, fun H3 => ⟨(by rw [sizeLine_eq]; show 2 ≤ 16777216; omega), [Value.str (sT e.1) t, Value.int e.2 u], .cons ⟨t, rfl⟩ (.cons ⟨u, rfl⟩ .nil), ⟨_, kF _ _ (ne0 _ _ hg) (ka _ _ hg), rfl, 0, rfl⟩⟩⟩
      rw [upd_ne (ne0 _ _ hg)]
      exact I.hok.fresh hbl
    have gr : ∀ b o, H b = some o → H2 b = some o := fun b o e => g b o (by rw [upd_ne (ne_of_none e hn0)]; exact e)
    refine ⟨.ref h'.objs.size, H2, I3, rfl, q H2 h'.objs.size zs gr hperm hsort hn0 (fun z' hz' => ?_) (g _ _ upd_same) fun z' hz' => ?_⟩
    · obtain ⟨i, i1, i2⟩ := idx z' hz'
      exact I.hok.fresh (Nat.le_of_lt (hG.above z'.1 (List.mem_of_getElem? i1)))
    · obtain ⟨i, i1, i2⟩ := idx z' hz'
      obtain ⟨vs, ⟨j, e, j1, j2, ev⟩, hH⟩ := qt z'.1 (List.mem_of_getElem? i1)
      have eij : i = j := (List.getElem?_inj (List.getElem?_eq_some_iff.mp i1).1 nd).mp (i1.trans j1.symm)
      subst eij
      have ee : e = z'.2 := Option.some.inj (j2.symm.trans i2)
      rw [ev, ee] at hH
      exact hH
/-- pairs of a text and an int -/
def siM : List (Ky × Mv) → Option (List SI)
  | [] => some []
  | (.inr x, .val (.int i)) :: r => (siM r).map ((x, i) :: ·)
  | _ => none
theorem siM_ok {K : PySem.W.Frag} {mg : Str → Option Value} {N : Addr → Prop} {a : S3} : ∀ {kvs : List (Ky × Mv)} {kws : List (Key × V)} {xs : List SI}, Paired (MRp K mg N kS a) kvs kws → siM kvs = some xs → kws = xs.map entI
  | [], _, _, .nil, e => by cases e; rfl
  | (.inr k, .val (.int i)) :: r, q :: _, _, .cons ⟨e0, h⟩ t, e => by
    simp only [siM] at e
    cases q1 : siM r with
    | none => rw [q1] at e; cases e
    | some ys =>
      rw [q1] at e
      cases e
      rw [siM_ok t q1]
      have h1 := MR.int h
      have : q = entI (k, i) := Prod.ext e0.symm h1
      rw [this]; rfl
  | (.inl _, _) :: _, _, _, _, e => by cases e
  | (.inr _, .val .non) :: _, _, _, _, e => by cases e
  | (.inr _, .val (.bl _)) :: _, _, _, _, e => by cases e
  | (.inr _, .val (.str _)) :: _, _, _, _, e => by cases e
  | (.inr _, .val (.tup _)) :: _, _, _, _, e => by cases e
  | (.inr _, .val (.lst _)) :: _, _, _, _, e => by cases e
  | (.inr _, .val (.dK _)) :: _, _, _, _, e => by cases e
  | (.inr _, .val (.dT _)) :: _, _, _, _, e => by cases e
  | (.inr _, .val (.ins _ _)) :: _, _, _, _, e => by cases e
  | (.inr _, .loc _) :: _, _, _, _, e => by cases e
def siD (p : SI) : Dv := .tup [.str p.1, .int p.2]
def eSortItems (f : XE) : XE := fun ρ S => (f ρ S).bind fun m S1 => if isDic S1 m then (match dicOf S1 m with
  | some kvs => (match siM kvs with
    | some xs => .ok (.val (.lst ((sortI xs).map siD))) S1
    | none => .stuck)
  | none => .stuck) else .stuck
theorem fz_new {N : Addr → Prop} {K : PySem.W.Frag} {mg : Str → Option Value} {a : S3} {H' : Hp} {p : Addr} {o : HO} (sr : SR K mg N a) (hn : a.H p = none) (e : H' p = some o) : Fz N ⟨a.i, a.S, H'⟩ p = some o := by
  refine hide_some.mpr ⟨fun h => ?_, e⟩
  rcases h with h | h
  · exact sr.nm p h hn
  · exact sr.lt h hn
variable {W : WX}
theorem qe_sortItems {e : Expr} {f : XE} {p apos cpos pos : Pos} (hc : X.calm = true) (hm : X.mg "sorted" = none) (he : QE X W e f) (hg : Gl X "sorted" := by rfl) (hbase : attributeBase e "items" X.env (eval e X.env) = eval e X.env := by rfl) (hline : (apos.endLine == cpos.line) = true := by rfl)
    (hs : starEach [.Call (.Attribute e "items" apos) [] [] cpos] X.env = (false, eval (.Call (.Attribute e "items" apos) [] [] cpos) X.env) :: starEach [] X.env := by rfl) (hpl : (backTo pos (starEach [] X.env)).any (·.1) = false := by rfl) :
    QE X W (.Call (.Name "sorted" p) [.Call (.Attribute e "items" apos) [] [] cpos] [] pos) (eSortItems f) := by
  refine PE.weak (pe_callB (cr_sortIK hc) hg hm (by decide +kernel) (pa_cons (pe_bm0 PySem.F.plainAttrs_dict PySem.F.slot_dict_items PySem.F.type_dict_items mt_itemsK he hbase hline) pa_nil hs) (by decide) (by decide) hs hpl) ?_
  rintro σ H Q ⟨N, a, ρ, ⟨rfl, sr, en⟩, h⟩
  refine ⟨N, a, ρ, ⟨rfl, sr, en⟩, (Post.bind_out (rel := MR X.K X.mg N) h).mono ?_⟩
  rintro v H1 ⟨b, m, rfl, x, sb, r, h1⟩
  split at h1
  · rename_i hd
    split at h1
    · rename_i kvs e1
      split at h1
      · rename_i xs e2
        refine ⟨ty_dic N b m v sb r hd, ?_⟩
        obtain ⟨q, kws, rfl, hr, t⟩ := dicOf_ok sb r e1
        refine ⟨q, kws, rfl, rfl, hr, fun pv hpv => ?_⟩
        refine ⟨pv, q, xs, rfl, upd_same, ?_, fun H' l ps ext hp hs hl hz eL eT => ?_⟩
        · rw [← siM_ok t e2]
          rcases hr with hr | ⟨o, hr⟩
          · exact .inl (by rw [upd_ne (ne_of_none hr hpv)]; exact hr)
          · exact .inr ⟨o, by rw [upd_ne (ne_of_none hr hpv)]; exact hr⟩
        · have same : Same b.H H' := fun z o h => ext z o (by rw [upd_ne (ne_of_none h hpv)]; exact h)
          obtain ⟨ex, sr'⟩ := grown sb same
          have none_of : ∀ z, upd b.H pv (L2.DX.itemsO pv q) z = none → b.H z = none := fun z hz => by
            by_cases e : z = pv
            · rw [e]; exact hpv
            · rw [upd_ne e] at hz; exact hz
          have fl := fz_new sb (none_of l hl) eL
          refine h1 ⟨b.i, b.S, H'⟩ (.ref l) rfl ex sr' (VR.lst (SqL.of fl) ?_)
          rw [← sortI_uniq hp hs]
          clear fl eL hs hp
          induction ps with
          | nil => exact .nil
          | cons z ps ih =>
            refine .cons (VR.tup (SqT.of (fz_new sb (none_of z.1 (hz z (by simp))) (eT z (by simp)))) (.cons .str (.cons .int .nil))) (ih (fun z' hz' => hz z' (by simp [hz'])) fun z' hz' => eT z' (by simp [hz']))
      · exact h1.elim
    · exact h1.elim
  · exact h1.elim
/-! ### list(d.items()) -/
def itemM (p : Ky × Dv) : Dv := .tup [keyD p.1, p.2]
def dvK : List (Ky × Mv) → Option (List (Ky × Dv))
  | [] => some []
  | (k, .val d) :: r => (dvK r).map ((k, d) :: ·)
  | _ => none
def eListItems (f : XE) : XE := fun ρ S => (f ρ S).bind fun m S1 => match m with
  | .loc n => (match S1[n]? with
    | some (.dK kvs) => (match dvK kvs with
      | some xs => .ok (.val (.lst (xs.map itemM))) S1
      | none => .stuck)
    | _ => .stuck)
  | _ => .stuck
theorem dvK_ok {K : PySem.W.Frag} {mg : Str → Option Value} {N : Addr → Prop} {a : S3} : ∀ {kvs : List (Ky × Mv)} {kws : List (Key × V)} {xs : List (Ky × Dv)}, Paired (MRp K mg N kS a) kvs kws → dvK kvs = some xs → VRp K mg (Fz N a) kS xs kws
  | [], _, _, .nil, e => by cases e; exact .nil
  | (k, .val d) :: r, q :: _, _, .cons ⟨e0, h⟩ t, e => by
    simp only [dvK] at e
    cases q1 : dvK r with
    | none => rw [q1] at e; cases e
    | some ys =>
      rw [q1] at e
      cases e
      have : q = (kS k, q.2) := Prod.ext e0.symm rfl
      rw [this]
      exact .cons h (dvK_ok t q1)
  | (_, .loc _) :: _, _, _, _, e => by cases e
theorem qe_listItems {e : Expr} {f : XE} {p apos cpos pos : Pos} (hc : X.calm = true) (hm : X.mg "list" = none) (he : QE X W e f) (hg : Gl X "list" := by rfl) (hbase : attributeBase e "items" X.env (eval e X.env) = eval e X.env := by rfl) (hline : (apos.endLine == cpos.line) = true := by rfl)
    (hs : starEach [.Call (.Attribute e "items" apos) [] [] cpos] X.env = (false, eval (.Call (.Attribute e "items" apos) [] [] cpos) X.env) :: starEach [] X.env := by rfl) :
    QE X W (.Call (.Name "list" p) [.Call (.Attribute e "items" apos) [] [] cpos] [] pos) (eListItems f) := by
  refine PE.weak (LiI.pe_listItems hc he hg hm (by decide +kernel) hbase hline hs) ?_
  rintro σ H Q ⟨N, a, ρ, ⟨rfl, sr, en⟩, h⟩
  refine ⟨N, a, ρ, ⟨rfl, sr, en⟩, (Post.bind_out (rel := MR X.K X.mg N) h).mono ?_⟩
  rintro v H1 ⟨b, m, rfl, x, sb, r, h1⟩
  split at h1
  · rename_i n
    obtain ⟨hk, rfl⟩ := r
    split at h1
    · rename_i kvs e1
      split at h1
      · rename_i xs e2
        obtain ⟨kws, hw, t⟩ := sb.at_ _ _ e1
        refine ⟨_, kws, rfl, hw, fun H' l ts ext hl ht hnt eL eT => ?_⟩
        have same : Same b.H H' := fun z o h => ext z o h
        obtain ⟨ex, sr'⟩ := grown sb same
        have fl := fz_new sb hl eL
        refine h1 ⟨b.i, b.S, H'⟩ (.ref l) rfl ex sr' (VR.lst (SqL.of fl) ?_)
        have vp := dvK_ok t e2
        clear fl eL hw e1 e2 t hnt h1
        induction eT generalizing xs with
        | nil => cases vp; exact .nil
        | @cons z q ts kws hz _ ih =>
          cases vp with
          | cons hd tl =>
            refine .cons (VR.tup (SqT.of (fz_new sb (ht z (by simp)) hz)) (.cons (keyD_ok _) (.cons (hd.mono ex.fz) .nil))) (ih _ (fun z' hz' => ht z' (by simp [hz'])) tl)
      · exact h1.elim
    · exact h1.elim
  · exact h1.elim
end
end MK

/-! MK, part 15: defs on the store that are called by keywords. -/
namespace MK
open PySem L2 PyProof.Rows
section
variable {P : Program} {w : World} {K : PySem.W.Frag} {mg : Str → Option Value} {base : Heap} {x : Str} {st : Stmt} {ps ks Ns : List Str} {ix : List Nat} {k : Nat} {g : XS}
theorem hasSK (D : DefKwAt K mg x st ps ks ix) (S : FnScope Ns ps (defScope st)) (hb : Body P w K mg base Ns x st k g) : HasFn P w K mg base x (k + 1) (spS K mg (fnS ps.length Ns.length g)) ∧ HasFnK P w K mg base x (k + 1) (spS K mg (fnS ps.length Ns.length g)) ks ix := by
  obtain ⟨f, fd, F, hm, b, bk⟩ := D.ex
  have FO := ok_S (P := P) (w := w) (base := base) F S (hb f)
  exact ⟨⟨f, fd, ps, FO, hm, F.kp, b⟩, ⟨f, fd, ps, FO, hm, F.kp, bk⟩⟩
end
end MK

/-! MK, part 12: what the functions on plain data come to (for simp). -/
namespace MK
open PySem L2
section
variable (ρ : List (Option Mv)) (S : Sto) (f fa fb fc fo fe : XE) (g : XA) (t u : XT) (a b : XS) (i : Nat) (n : Nat)
@[simp] theorem eVar_eq : eVar i ρ S = (match ρ[i]? with | some (some m) => .ok m S | _ => .stuck) := rfl
@[simp] theorem eC_eq (d : Dv) : eC d ρ S = .ok (.val d) S := rfl
@[simp] theorem eBin_eq (F) : eBin F fa fb ρ S = (fa ρ S).bind fun x S1 => (fb ρ S1).bind fun y S2 => F x y S2 := rfl
@[simp] theorem eUn_eq (F) : eUn F fa ρ S = (fa ρ S).bind fun x S1 => F x S1 := rfl
@[simp] theorem eChain_eq (F G) : eChain F G fa fb fc ρ S = (fa ρ S).bind fun x S1 => (fb ρ S1).bind fun y S2 => (F x y S2).bind fun z S3 => match z with
  | .val (.bl true) => (fc ρ S3).bind fun w S4 => G y w S4
  | .val (.bl false) => .ok (.val (.bl false)) S3
  | _ => .stuck := rfl
@[simp] theorem xT_eq : xT f ρ S = (f ρ S).bind fun m S1 => match tru S1 m with | some b => .ok b S1 | none => .stuck := rfl
@[simp] theorem xB_eq : xB f ρ S = (f ρ S).bind fun m S1 => match m with | .val (.bl b) => .ok b S1 | _ => .stuck := rfl
@[simp] theorem xAnd_eq : xAnd t u ρ S = (t ρ S).bind fun b S1 => match b with | true => u ρ S1 | false => .ok false S1 := rfl
@[simp] theorem xOr_eq : xOr t u ρ S = (t ρ S).bind fun b S1 => match b with | false => u ρ S1 | true => .ok true S1 := rfl
@[simp] theorem xNot_eq : xNot t ρ S = (t ρ S).bind fun b S1 => .ok (!b) S1 := rfl
@[simp] theorem xYes_eq : xYes ρ S = .ok true S := rfl
@[simp] theorem eAnd_eq : eAnd fa fb ρ S = (fa ρ S).bind fun x S1 => match tru S1 x with | some true => fb ρ S1 | some false => .ok x S1 | none => .stuck := rfl
@[simp] theorem eOr_eq : eOr fa fb ρ S = (fa ρ S).bind fun x S1 => match tru S1 x with | some false => fb ρ S1 | some true => .ok x S1 | none => .stuck := rfl
@[simp] theorem eNot_eq : eNot fa ρ S = (fa ρ S).bind fun x S1 => match tru S1 x with | some b => .ok (.val (.bl (!b))) S1 | none => .stuck := rfl
@[simp] theorem eIf_eq : eIf t fa fb ρ S = (t ρ S).bind fun b S1 => match b with | true => fa ρ S1 | false => fb ρ S1 := rfl
@[simp] theorem aNil_eq : aNil ρ S = .ok [] S := rfl
@[simp] theorem aCons_eq : aCons f g ρ S = (f ρ S).bind fun x S1 => (g ρ S1).bind fun xs S2 => .ok (x :: xs) S2 := rfl
@[simp] theorem eMk_eq (F) : eMk F g ρ S = (g ρ S).bind F := rfl
@[simp] theorem eBm_eq (F T) : eBm F T f g ρ S = (f ρ S).bind fun x S1 => if T S1 x then (g ρ S1).bind fun xs S2 => F x xs S2 else .stuck := rfl
@[simp] theorem eBmN_eq (F T) : eBmN F T f ρ S = (f ρ S).bind fun x S1 => if T S1 x then F x [] S1 else .stuck := rfl
@[simp] theorem eFld_eq (c x : Str) : eFld c x fo ρ S = (fo ρ S).bind fun m S1 => match insOf S1 m with
  | some (c', fs) => if c' = c then (match fs.lookup x with | some m => .ok m S1 | none => .stuck) else .stuck
  | none => .stuck := rfl
@[simp] theorem eIsi_eq (T) : eIsi T f ρ S = (f ρ S).bind fun x S1 => match tyN S1 x with | some t => .ok (.val (.bl (isT T t))) S1 | none => .stuck := rfl
@[simp] theorem xoN_eq : xoN ρ S = .ok none S := rfl
@[simp] theorem xoS_eq : xoS f ρ S = (f ρ S).bind fun m S1 => match m with | .val (.int i) => .ok (some i) S1 | _ => .stuck := rfl
@[simp] theorem eSl_eq (mk) (p q : XO) : eSl mk f p q ρ S = (f ρ S).bind fun x S1 => (p ρ S1).bind fun lo S2 => (q ρ S2).bind fun hi S3 => fSl mk x lo hi S3 := rfl
@[simp] theorem eInKD_eq (kvs neg) : eInKD kvs neg f ρ S = (f ρ S).bind fun m S1 => match m with | .val (.str z) => .ok (.val (.bl ((kvs.lookup z).isSome != neg))) S1 | _ => .stuck := rfl
@[simp] theorem eIxKD_eq (kvs) : eIxKD kvs f ρ S = (f ρ S).bind fun m S1 => match m with
  | .val (.str z) => (match kvs.lookup z with | some i => .ok (.val (.int i)) S1 | none => .stuck)
  | _ => .stuck := rfl
@[simp] theorem eMeth_eq (c m : Str) (F) : eMeth c m F fo g ρ S = (fo ρ S).bind fun x S1 => match insOf S1 x with
  | some (c', fs) => if c' = c then (match fs.lookup m with | none => (g ρ S1).bind fun ms S2 => F (x :: ms) S2 | some _ => .stuck) else .stuck
  | none => .stuck := rfl
@[simp] theorem sSeq_eq : sSeq a b ρ S = (a ρ S).seq b := rfl
@[simp] theorem sNil_eq : sNil ρ S = .nx ρ S := rfl
@[simp] theorem sNever_eq : sNever ρ S = .stuck := rfl
@[simp] theorem sCont_eq : sCont ρ S = .cnt ρ S := rfl
@[simp] theorem sBrk_eq : sBrk ρ S = .brk ρ S := rfl
@[simp] theorem sRet_eq : sRet f ρ S = (f ρ S).thn ρ fun m S1 => .ret m S1 := rfl
@[simp] theorem sRetN_eq : sRetN ρ S = .ret (.val .non) S := rfl
@[simp] theorem sExpr_eq : sExpr f ρ S = (f ρ S).thn ρ fun _ S1 => .nx ρ S1 := rfl
@[simp] theorem sIf_eq : sIf t a b ρ S = (t ρ S).thn ρ fun c S1 => match c with | true => a ρ S1 | false => b ρ S1 := rfl
@[simp] theorem sSet_eq : sSet i f ρ S = (f ρ S).thn ρ fun m S1 => .nx (ρ.set i (some m)) S1 := rfl
@[simp] theorem sAsg_eq (tg : XG) : sAsg f tg ρ S = (f ρ S).thn ρ fun m S1 => (tg m ρ S1).only := rfl
@[simp] theorem sAug_eq (F) : sAug i F f ρ S = (match ρ[i]? with
  | some (some m) => (f ρ S).thn ρ fun y S1 => (F m y S1).thn ρ fun z S2 => .nx (ρ.set i (some z)) S2
  | _ => .stuck) := rfl
@[simp] theorem tgName_eq (m) : tgName i m ρ S = .nx (ρ.set i (some m)) S := rfl
@[simp] theorem tgSub_eq (F m) : tgSub F fo fe m ρ S = (fo ρ S).thn ρ fun o S1 => (fe ρ S1).thn ρ fun i S2 => (F o i m S2).thn ρ fun _ S3 => .nx ρ S3 := rfl
@[simp] theorem tgsNil_eq : tgsNil [] ρ S = .nx ρ S := rfl
@[simp] theorem tgsCons_eq (tg : XG) (v m r) : tgsCons tg v (m :: r) ρ S = (tg m ρ S).seq fun ρ1 S1 => v r ρ1 S1 := rfl
@[simp] theorem tgTup_eq (v ds) : tgTup n v (.val (.tup ds)) ρ S = if ds.length = n then v (ds.map .val) ρ S else .stuck := rfl
@[simp] theorem tgFld_eq (c x : Str) (m) : tgFld c x fo m ρ S = (fo ρ S).thn ρ fun z S1 => match z with
  | .loc k => (match S1[k]? with
    | some (.ins c' fs) => if c' = c ∧ fs.length < 1000 then .nx ρ (S1.set k (.ins c (putM x m fs))) else .stuck
    | _ => .stuck)
  | _ => .stuck := rfl
@[simp] theorem sFldS_eq (c x : Str) : sFldS c x fo fe ρ S = (fe ρ S).thn ρ fun y S1 => (fo ρ S1).thn ρ fun z S2 => match z with
  | .loc k => match S2[k]? with
    | some (.ins c' fs) => if c' = c ∧ fs.length < 1000 then .nx ρ (S2.set k (.ins c (putM x y fs))) else .stuck
    | _ => .stuck
  | _ => .stuck := rfl
@[simp] theorem sFldAug_eq (c x : Str) (F) : sFldAug c x F fo fe ρ S = (fo ρ S).thn ρ fun z S1 => match z with
  | .loc k => (match insOf S1 (.loc k) with
    | some (c', fs) => if c' = c then (match fs.lookup x with
      | some old => (fe ρ S1).thn ρ fun y S2 => (F old y S2).thn ρ fun z S3 => (match S3[k]? with
        | some (.ins c'' fs') => if c'' = c ∧ fs'.length < 1000 then .nx ρ (S3.set k (.ins c (putM x z fs'))) else .stuck
        | _ => .stuck)
      | none => .stuck) else .stuck
    | none => .stuck)
  | _ => .stuck := rfl
@[simp] theorem sFor_eq (it : XI) (tg : XG) : sFor it tg a ρ S = (it ρ S).thn ρ fun p S1 => forS p.2 tg a p.1 ρ S1 := rfl
@[simp] theorem sWhile_eq : sWhile n t a ρ S = whileS n t a ρ S := rfl
@[simp] theorem iAny_eq : iAny f ρ S = (f ρ S).bind fun m S1 => match m with
  | .val (.str x) => .ok (x.map fun c => .val (.str [c]), always) S1
  | .val (.tup ds) => .ok (ds.map .val, always) S1
  | .val (.lst ds) => .ok (ds.map .val, always) S1
  | .loc n => (match S1[n]? with | some (.lst ms) => .ok (ms, fun S => S[n]? = some (.lst ms)) S1 | _ => .stuck)
  | _ => .stuck := rfl
@[simp] theorem iRng1_eq : iRng1 g ρ S = (g ρ S).bind fun ms S1 => match ms with
  | [.val (.int j)] => if -(2 ^ 62) ≤ j ∧ j < 2 ^ 62 then .ok (rangeL 0 j.toNat, always) S1 else .stuck
  | _ => .stuck := rfl
@[simp] theorem iRng2_eq : iRng2 g ρ S = (g ρ S).bind fun ms S1 => match ms with
  | [.val (.int i), .val (.int j)] => if -(2 ^ 62) ≤ i ∧ i < 2 ^ 62 ∧ -(2 ^ 62) ≤ j ∧ j < 2 ^ 62 then .ok (rangeL i (j - i).toNat, always) S1 else .stuck
  | _ => .stuck := rfl
@[simp] theorem eLc_eq (fin) (it : XI) (tg tt te) : eLc fin it tg tt te ρ S = (it ρ S).bind fun p S1 => (lcS p.2 tg (wipeM ρ tg.ix) tt te p.1 [] S1).bind fin := rfl
@[simp] theorem forS_nil (tg : XG) : forS always tg a [] ρ S = .nx ρ S := by unfold forS; rw [if_pos (show always S from trivial)]
@[simp] theorem forS_cons (tg : XG) (m ms) : forS always tg a (m :: ms) ρ S = (tg m ρ S).only.seq fun ρ1 S1 => (a ρ1 S1).turn fun ρ2 S2 => forS always tg a ms ρ2 S2 := by
  conv => lhs; unfold forS
  rw [if_pos (show always S from trivial)]
@[simp] theorem lcS_nil (tg tt te acc) : lcS always tg ρ tt te [] acc S = .ok acc S := by unfold lcS; rw [if_pos (show always S from trivial)]
@[simp] theorem lcS_cons (tg tt te m ms acc) : lcS always tg ρ tt te (m :: ms) acc S = (match tgSet tg m ρ with
    | some ρ2 => (tt ρ2 S).nox.bind fun b S1 => match b with
      | true => (te ρ2 S1).nox.bind fun y S2 => if acc.length < sizeLine then lcS always tg ρ tt te ms (acc ++ [y]) S2 else .stuck
      | false => lcS always tg ρ tt te ms acc S1
    | none => .stuck) := by
  conv => lhs; unfold lcS
  rw [if_pos (show always S from trivial)]
  all_goals rfl
@[simp] theorem callP_vals (G : PFn) (ds : List Dv) : callP G (ds.map .val) S = liftP (G ds) S := by unfold callP; rw [vals_map]
@[simp] theorem callP1 (G : PFn) (d : Dv) : callP G [.val d] S = liftP (G [d]) S := rfl
@[simp] theorem callP2 (G : PFn) (d e : Dv) : callP G [.val d, .val e] S = liftP (G [d, e]) S := rfl
@[simp] theorem callP3 (G : PFn) (d e c : Dv) : callP G [.val d, .val e, .val c] S = liftP (G [d, e, c]) S := rfl
@[simp] theorem callP4 (G : PFn) (d e c k : Dv) : callP G [.val d, .val e, .val c, .val k] S = liftP (G [d, e, c, k]) S := rfl
@[simp] theorem pure0_val (d : Dv) : (Rz.ok (.val d) S).pure0 = .ok d := rfl
end
@[simp] theorem fInt_eq (C g) (i j : Int) (S : Sto) : fInt C g (.val (.int i)) (.val (.int j)) S = if C i j then .ok (.val (g i j)) S else .stuck := rfl
@[simp] theorem fAdd_int (i j : Int) (S : Sto) : fAdd (.val (.int i)) (.val (.int j)) S = .ok (.val (.int (i + j))) S := rfl
@[simp] theorem fAdd_str (i j : Tx) (S : Sto) : fAdd (.val (.str i)) (.val (.str j)) S = if i.length + j.length ≤ sizeLine then .ok (.val (.str (i ++ j))) S else .stuck := rfl
@[simp] theorem fAdd_tup (i j : List Dv) (S : Sto) : fAdd (.val (.tup i)) (.val (.tup j)) S = if i.length + j.length ≤ sizeLine then .ok (.val (.tup (i ++ j))) S else .stuck := rfl
@[simp] theorem fNeg_eq (i : Int) (S : Sto) : fNeg (.val (.int i)) S = .ok (.val (.int (-i))) S := rfl
@[simp] theorem tru_bl (S : Sto) (b : Bool) : tru S (.val (.bl b)) = some b := rfl
@[simp] theorem tru_int (S : Sto) (b : Int) : tru S (.val (.int b)) = some (b != 0) := rfl
@[simp] theorem tru_non (S : Sto) : tru S (.val .non) = some false := rfl
theorem line_is : (sizeLine : Nat) = 16777216 := sizeLine_eq
end MK

/-! MK, part 16: simp lemmas and small lemmas that more laws use. -/
namespace MK
open PySem L2
@[simp] theorem fIx_str (z : Tx) (i : Int) (S : Sto) : fIx (.val (.str z)) (.val (.int i)) S = if z.length ≤ sizeLine then (match atI z i with
      | some c => .ok (.val (.str [c])) S
      | none => .stuck) else .stuck := rfl
@[simp] theorem fIx_tup (z : List Dv) (i : Int) (S : Sto) : fIx (.val (.tup z)) (.val (.int i)) S = (match atI (z.map .val) i with
      | some c => .ok c S
      | none => .stuck) := rfl
@[simp] theorem fIx_lst (z : List Dv) (i : Int) (S : Sto) : fIx (.val (.lst z)) (.val (.int i)) S = (match atI (z.map .val) i with
      | some c => .ok c S
      | none => .stuck) := rfl
@[simp] theorem fIx_loc (n : Nat) (i : Int) (S : Sto) : fIx (.loc n) (.val (.int i)) S = (match seqOf S (.loc n) with
      | some (_, ms) => (match atI ms i with
        | some m => .ok m S
        | none => .stuck)
      | none => .stuck) := rfl
theorem seqOf_loc {S : Sto} {n : Nat} {ms : List Mv} (h : S[n]? = some (.lst ms)) : seqOf S (.loc n) = some (.l, ms) := by
  unfold seqOf; simp [h]
@[simp] theorem fLen_str (z : Tx) (S : Sto) : fLen [.val (.str z)] S = if z.length ≤ sizeLine then .ok (.val (.int z.length)) S else .stuck := rfl
@[simp] theorem fLen_tup (z : List Dv) (S : Sto) : fLen [.val (.tup z)] S = .ok (.val (.int (z.map Mv.val).length)) S := rfl
@[simp] theorem fLen_lst (z : List Dv) (S : Sto) : fLen [.val (.lst z)] S = .ok (.val (.int (z.map Mv.val).length)) S := rfl
@[simp] theorem fLen_loc (n : Nat) (S : Sto) : fLen [.loc n] S = (match seqOf S (.loc n) with
    | some (_, ms) => .ok (.val (.int ms.length)) S
    | none => .stuck) := rfl
theorem atI_n {α : Type} (xs : List α) (i : Nat) : atI xs (i : Int) = xs[i]? := by
  unfold atI ixN
  rw [if_pos (by omega)]
  split
  · simp
  · rename_i h
    simp at h ⊢
    exact h
theorem fSetL_nat {S : Sto} {k : Nat} {ms : List Mv} (h : S[k]? = some (.lst ms)) (i : Nat) (hi : i < ms.length) (m : Mv) : fSetL (.loc k) (.val (.int i)) m S = .ok () (S.set k (.lst (ms.set i m))) := by
  unfold fSetL
  simp only [h]
  unfold ixN
  rw [if_pos (by omega), if_pos (by omega)]
  simp
theorem lset {S : Sto} {k : Nat} {o o' : Ob} (h : S[k]? = some o) : (S.set k o')[k]? = some o' := by
  have : k < S.length := by
    rcases Nat.lt_or_ge k S.length with q | q
    · exact q
    · rw [List.getElem?_eq_none q] at h; cases h
  simp [this]
theorem forS_inv {t : XG} {g : XS} (I : List (Option Mv) → Sto → Prop) : ∀ (ms : List Mv), (∀ m ∈ ms, ∀ ρ S, I ρ S → ∃ ρ' S', ((t m ρ S).only.seq fun ρ1 S1 => g ρ1 S1) = .nx ρ' S' ∧ I ρ' S') → ∀ ρ S, I ρ S → ∃ ρ' S', forS always t g ms ρ S = .nx ρ' S' ∧ I ρ' S'
  | [], _, ρ, S, h => ⟨ρ, S, forS_nil .., h⟩
  | m :: ms, hs, ρ, S, h => by
    obtain ⟨ρ1, S1, e, h1⟩ := hs m (by simp) ρ S h
    obtain ⟨ρ2, S2, e2, h2⟩ := forS_inv I ms (fun m hm => hs m (by simp [hm])) ρ1 S1 h1
    refine ⟨ρ2, S2, ?_, h2⟩
    rw [forS_cons]
    have : ∀ (x : RS) (f g : List (Option Mv) → Sto → RS), (x.seq f).turn g = (x.seq fun a b => f a b).turn g := fun _ _ _ => rfl
    have q : ((t m ρ S).only.seq fun ρ1 S1 => (g ρ1 S1).turn fun ρ2 S2 => forS always t g ms ρ2 S2) = ((t m ρ S).only.seq fun ρ1 S1 => g ρ1 S1).turn fun ρ2 S2 => forS always t g ms ρ2 S2 := by
      revert e
      cases (t m ρ S) <;> simp [RS.only, RS.seq, RS.turn]
    rw [q, e]
    exact e2
theorem toPys_ints : ∀ zs : List Int, toPys (zs.map .int) = some (zs.map .int)
  | [] => rfl
  | z :: zs => by simp [toPys, toPy, toPys_ints zs]
theorem lay_ints : ∀ zs : List Int, PyData.canLayAll0 (zs.map .int) = true
  | [] => rfl
  | z :: zs => by simp [PyData.canLayAll0, PyData.canLay0, lay_ints zs]
theorem depth_ints : ∀ zs : List Int, PyData.depthAll (zs.map .int) = 0
  | [] => rfl
  | z :: zs => by simp [PyData.depthAll, PyData.depth, depth_ints zs]
theorem ne_nil (zs : List Int) (S : Sto) : fNe (.val (.lst (zs.map .int))) (.val (.lst [])) S = .ok (.val (.bl (!zs.isEmpty))) S := by
  have : eqD (.lst (zs.map .int)) (.lst []) = some zs.isEmpty := by
    unfold eqD
    simp only [toPy, toPys_ints, toPys, Option.map_some, Option.bind_some]
    rw [if_pos]
    · cases zs <;> rfl
    · simp [SeqAt.shaped, PyData.canLay0, PyData.canLayAll0, lay_ints, PyData.depth, PyData.depthAll, depth_ints]
  show fEqq true _ _ _ = _
  show fEqq true _ _ _ = _
  unfold fEqq rfy
  simp [this]
theorem seq_nx {a b : XS} {ρ S ρ1 S1} (h1 : a ρ S = .nx ρ1 S1) : sSeq a b ρ S = b ρ1 S1 := by rw [sSeq_eq, h1]; rfl
theorem seq_ret {a b : XS} {ρ S m S1} (h1 : a ρ S = .ret m S1) : sSeq a b ρ S = .ret m S1 := by rw [sSeq_eq, h1]; rfl
theorem fMod_ok {i j : Int} {S : Sto} (h : 0 < j) : fMod (.val (.int i)) (.val (.int j)) S = .ok (.val (.int (i % j))) S := by simp [h]
theorem fDiv_ok {i j : Int} {S : Sto} (h : 0 < j) (h2 : j < 1073741824) : fDiv (.val (.int i)) (.val (.int j)) S = .ok (.val (.int (i / j))) S := by simp [h, h2]
theorem fMul_l {i j : Int} {S : Sto} (h : -1000000000000000000 < i) (h2 : i < 1000000000000000000) : fMul (.val (.int i)) (.val (.int j)) S = .ok (.val (.int (i * j))) S := by
  have : (-(2 ^ 64) < i ∧ i < 2 ^ 64) := by omega
  show (if decide _ = true then _ else _) = _
  rw [if_pos (decide_eq_true (Or.inl this))]
theorem fMul_r {i j : Int} {S : Sto} (h : -10000000000000000000 < j) (h2 : j < 10000000000000000000) : fMul (.val (.int i)) (.val (.int j)) S = .ok (.val (.int (i * j))) S := by
  have : (-(2 ^ 64) < j ∧ j < 2 ^ 64) := by omega
  show (if decide _ = true then _ else _) = _
  rw [if_pos (decide_eq_true (Or.inr this))]
theorem pow18 {S : Sto} : fPow (.val (.int 10)) (.val (.int 18)) S = .ok (.val (.int 1000000000000000000)) S := by
  refine (fInt_eq _ _ 10 18 S).trans ((if_pos (by decide)).trans ?_); rfl
theorem mkLst_nil {S : Sto} : mkLst [] S = .ok (.val (.lst [])) S := rfl
@[simp] theorem fEqq_int (neg : Bool) (i j : Int) (S : Sto) : fEqq neg (.val (.int i)) (.val (.int j)) S = .ok (.val (.bl ((i == j) != neg))) S := by
  simp [fEqq, rfy, eqD, toPy, SeqAt.shaped, PyData.canLay0, PyData.depth, PyData.eqv]
def okT (x : Tx) : Bool := x.all (· < 1114112)
theorem sT_beq' (x y : Tx) : (sT x == sT y) = (x == y) := by rw [sT_beq, BEq.comm]
theorem okT_strOk {x : Tx} (h : okT x = true) : PyData.strOk (sT x) = true := by
  unfold okT at h
  unfold PyData.strOk sT
  simpa using h
theorem shaped_str {x : Tx} (h : okT x = true) : SeqAt.shaped (.str (sT x)) = true := by
  simp only [SeqAt.shaped, PyData.canLay0, okT_strOk h, PyData.depth]
  rfl
theorem fEqq_str (neg : Bool) {x y : Tx} (S : Sto) (hx : okT x = true) (hy : okT y = true) : fEqq neg (.val (.str x)) (.val (.str y)) S = .ok (.val (.bl ((x == y) != neg))) S := by
  have : eqD (.str x) (.str y) = some (x == y) := by
    unfold eqD
    simp only [toPy, Option.bind_some, shaped_str hx, shaped_str hy, Bool.and_self, if_true, PyData.eqv, sT_beq']
  show (match eqD (.str x) (.str y) with | some b => _ | none => _) = _
  rw [this]
theorem i10 {d : Int} (h0 : 0 ≤ d) (h1 : d < 10) : d = 0 ∨ d = 1 ∨ d = 2 ∨ d = 3 ∨ d = 4 ∨ d = 5 ∨ d = 6 ∨ d = 7 ∨ d = 8 ∨ d = 9 := by omega
theorem forS_cnt {t : XG} {g : XS} (I : Nat → List (Option Mv) → Sto → Prop) : ∀ (ms : List Mv) (n : Nat), (∀ n, ∀ m ∈ ms, ∀ ρ S, I n ρ S → ∃ ρ' S', ((t m ρ S).only.seq fun ρ1 S1 => g ρ1 S1) = .nx ρ' S' ∧ I (n + 1) ρ' S') → ∀ ρ S, I n ρ S → ∃ ρ' S', forS always t g ms ρ S = .nx ρ' S' ∧ I (n + ms.length) ρ' S'
  | [], n, _, ρ, S, h => ⟨ρ, S, forS_nil .., h⟩
  | m :: ms, n, hs, ρ, S, h => by
    obtain ⟨ρ1, S1, e, h1⟩ := hs n m (by simp) ρ S h
    obtain ⟨ρ2, S2, e2, h2⟩ := forS_cnt I ms (n + 1) (fun n m hm => hs n m (by simp [hm])) ρ1 S1 h1
    refine ⟨ρ2, S2, ?_, by rw [List.length_cons, show n + (ms.length + 1) = n + 1 + ms.length by omega]; exact h2⟩
    rw [forS_cons]
    have q : ((t m ρ S).only.seq fun ρ1 S1 => (g ρ1 S1).turn fun ρ2 S2 => forS always t g ms ρ2 S2) = ((t m ρ S).only.seq fun ρ1 S1 => g ρ1 S1).turn fun ρ2 S2 => forS always t g ms ρ2 S2 := by
      revert e
      cases (t m ρ S) <;> simp [RS.only, RS.seq, RS.turn]
    rw [q, e]
    exact e2
theorem rng5 {ρ : List (Option Mv)} {S : Sto} : iRng1 (aCons (eC (.int 5)) aNil) ρ S = .ok (rangeL 0 5, always) S := by
  rw [iRng1_eq]
  simp only [aCons_eq, aNil_eq, eC_eq, Rz.bind_ok]
  rw [if_pos (by decide)]; rfl
theorem rng6 {ρ : List (Option Mv)} {S : Sto} : iRng1 (aCons (eC (.int 6)) aNil) ρ S = .ok (rangeL 0 6, always) S := by
  rw [iRng1_eq]
  simp only [aCons_eq, aNil_eq, eC_eq, Rz.bind_ok]
  rw [if_pos (by decide)]; rfl
theorem rng7 {ρ : List (Option Mv)} {S : Sto} : iRng1 (aCons (eC (.int 7)) aNil) ρ S = .ok (rangeL 0 7, always) S := by
  rw [iRng1_eq]
  simp only [aCons_eq, aNil_eq, eC_eq, Rz.bind_ok]
  rw [if_pos (by decide)]; rfl
theorem rng8 {ρ : List (Option Mv)} {S : Sto} : iRng1 (aCons (eC (.int 8)) aNil) ρ S = .ok (rangeL 0 8, always) S := by
  rw [iRng1_eq]
  simp only [aCons_eq, aNil_eq, eC_eq, Rz.bind_ok]
  rw [if_pos (by decide)]; rfl
theorem rng12 {ρ : List (Option Mv)} {S : Sto} : iRng1 (aCons (eC (.int 12)) aNil) ρ S = .ok (rangeL 0 12, always) S := by
  rw [iRng1_eq]
  simp only [aCons_eq, aNil_eq, eC_eq, Rz.bind_ok]
  rw [if_pos (by decide)]; rfl
theorem rangeL_len (a : Int) (n : Nat) : (rangeL a n).length = n := by simp [rangeL]
def digs (n : Nat) : Tx := if n < 10 then [48 + n] else if n < 100 then [48 + n / 10, 48 + n % 10] else [48 + n / 100, 48 + n / 10 % 10, 48 + n % 10]
theorem dec_digs0 : ∀ n : Fin 1000, dec (n.val : Int) = digs n.val := by decide +kernel
theorem dec_digs {i : Int} (h0 : 0 ≤ i) (h1 : i < 1000) : dec i = digs i.toNat := by
  have := dec_digs0 ⟨i.toNat, by omega⟩
  simp only at this
  rwa [Int.toNat_of_nonneg h0] at this
theorem digs_len (n : Nat) : (digs n).length ≤ 3 := by
  unfold digs
  split
  · simp
  · split <;> simp
@[simp] theorem tyN_int (i : Int) (S : Sto) : tyN S (.val (.int i)) = some "int" := rfl
@[simp] theorem tyN_str (i : Tx) (S : Sto) : tyN S (.val (.str i)) = some "str" := rfl
@[simp] theorem tyN_tup (i : List Dv) (S : Sto) : tyN S (.val (.tup i)) = some "tuple" := rfl
theorem log_small {i : Int} (h0 : 0 ≤ i) (h1 : i < 1000) : i.natAbs.log2 < 1920 := by
  by_cases hz : i.natAbs = 0
  · rw [hz]; decide
  · exact (Nat.log2_lt hz).mpr (Nat.lt_of_lt_of_le (by omega : i.natAbs < 2 ^ 10) (Nat.pow_le_pow_right (by decide) (by decide)))
@[simp] theorem fStr_str (x : Tx) (S : Sto) : fStr [.val (.str x)] S = .ok (.val (.str x)) S := rfl
theorem fStr_int {i : Int} {S : Sto} (h : i.natAbs.log2 < 1920) : fStr [.val (.int i)] S = .ok (.val (.str (dec i))) S := by
  show (if _ then _ else _) = _
  rw [if_pos h]
theorem isT1 : isT "tuple" "int" = false := by decide
theorem isT2 : isT "tuple" "str" = false := by decide
theorem isT3 : isT "tuple" "tuple" = true := by decide
theorem fSl_tup (mk) (ds : List Dv) (lo hi) (S : Sto) : fSl mk (.val (.tup ds)) lo hi S = .ok (.val (.tup (cut ds lo hi))) S := rfl
theorem cut_at (t : Tx) (p : Nat) : cut t (some (p : Int)) (some ((p : Int) + 1)) = (t.drop p).take 1 := by
  unfold cut
  rw [show ((p : Int) + 1) = ((p + 1 : Nat) : Int) from rfl, HT.sIx_nat, HT.sIx_nat]
  rcases Nat.lt_or_ge p t.length with h | h
  · rw [Nat.min_eq_left (by omega), Nat.min_eq_left (by omega), Nat.add_sub_cancel_left]
  · rw [Nat.min_eq_right h, Nat.min_eq_right (by omega), Nat.sub_self, List.drop_length, List.drop_eq_nil_of_le h]; rfl
theorem cut_mid (t : Tx) (p n : Nat) (h : p + n ≤ t.length) : cut t (some (p : Int)) (some ((p + n : Nat) : Int)) = (t.drop p).take n := by
  unfold cut
  rw [HT.sIx_nat, HT.sIx_nat, Nat.min_eq_left h, Nat.min_eq_left (by omega), Nat.add_sub_cancel_left]
theorem at_drop {t : Tx} {p : Nat} {c : Nat} {r : Tx} (h : t.drop p = c :: r) : t[p]? = some c ∧ p < t.length ∧ t.drop (p + 1) = r := by
  have hp : p < t.length := by
    rcases Nat.lt_or_ge p t.length with q | q
    · exact q
    · rw [List.drop_eq_nil_of_le q] at h; cases h
  refine ⟨?_, hp, ?_⟩
  · have : t[p]? = (t.drop p)[0]? := by rw [List.getElem?_drop]; rfl
    rw [this, h]; rfl
  · rw [← List.drop_drop, h]; rfl
theorem at_end {t : Tx} {p : Nat} (h : t.drop p = []) : t.length ≤ p := List.drop_eq_nil_iff.mp h
def tDig : Tx := [48, 49, 50, 51, 52, 53, 54, 55, 56, 57]
def tLet : Tx := [97, 98, 99, 100, 101, 102, 103, 104, 105, 106, 107, 108, 109, 110, 111, 112, 113, 114, 115, 116, 117, 118, 119, 120, 121, 122]
theorem fIntOf_str (x : Tx) (S : Sto) : fIntOf [.val (.str x)] S = if x.length ≤ 640 then (match PySem.intText? (sT x) with
    | some n => .ok (.val (.int n)) S
    | none => .stuck) else .stuck := rfl
theorem intOf_dig {d : Nat} (h : d < 10) (S : Sto) : fIntOf [.val (.str [48 + d])] S = .ok (.val (.int d)) S := by
  have : ∀ d : Fin 10, PySem.intText? (sT [48 + d.val]) = some (d.val : Int) := by decide +kernel
  have := this ⟨d, h⟩
  simp only at this
  rw [fIntOf_str, if_pos (by simp), this]
theorem mem_dig {d : Nat} (h : d < 10) : (48 + d) ∈ tDig := by
  have : ∀ d : Fin 10, (48 + d.val) ∈ tDig := by decide
  exact this ⟨d, h⟩
@[simp] theorem fInS_eq (neg : Bool) (c : Nat) (z : Tx) (S : Sto) : fInS neg (.val (.str [c])) (.val (.str z)) S = .ok (.val (.bl (decide (c ∈ z) != neg))) S := rfl
theorem fSl_str (mk) (z : Tx) (lo hi) (S : Sto) : fSl mk (.val (.str z)) lo hi S = if z.length ≤ sizeLine then .ok (.val (.str (cut z lo hi))) S else .stuck := rfl
theorem okT1 (c : Nat) (h : c < 1114112) : okT [c] = true := by simp [okT, h]
theorem whileS_succ (n : Nat) (c : XT) (g : XS) (ρ S) : whileS (n + 1) c g ρ S = (c ρ S).thn ρ fun b S1 => match b with
    | true => (g ρ S1).turn fun ρ2 S2 => whileS n c g ρ2 S2
    | false => .nx ρ S1 := rfl
theorem drop_len {t u r : Tx} {p : Nat} (hp : p ≤ t.length) (h : t.drop p = u ++ r) : p + u.length ≤ t.length := by
  have := congrArg List.length h
  simp only [List.length_drop, List.length_append] at this
  omega
theorem drop_add {t u r : Tx} {p : Nat} (h : t.drop p = u ++ r) : t.drop (p + u.length) = r := by
  rw [← List.drop_drop, h, List.drop_left]
theorem whileS_mono {c : XT} {g : XS} : ∀ (n : Nat) (ρ : List (Option Mv)) (S : Sto) (r : RS), whileS n c g ρ S = r → r ≠ .stuck → whileS (n + 1) c g ρ S = r
  | 0, ρ, S, r, h, hr => absurd h.symm hr
  | n + 1, ρ, S, r, h, hr => by
    have e1 : whileS (n + 1) c g ρ S = (c ρ S).thn ρ fun b S1 => match b with
      | true => (g ρ S1).turn fun ρ2 S2 => whileS n c g ρ2 S2
      | false => .nx ρ S1 := rfl
    have e2 : whileS (n + 1 + 1) c g ρ S = (c ρ S).thn ρ fun b S1 => match b with
      | true => (g ρ S1).turn fun ρ2 S2 => whileS (n + 1) c g ρ2 S2
      | false => .nx ρ S1 := rfl
    rw [e1] at h
    rw [e2]
    cases hc : c ρ S with
    | stuck => rw [hc] at h; exact h
    | exn e S1 => rw [hc] at h; exact h
    | ok b S1 =>
      rw [hc] at h
      cases b with
      | false => exact h
      | true =>
        simp only [Rz.thn_ok] at h ⊢
        cases hg : g ρ S1 with
        | nx ρ2 S2 => rw [hg] at h; exact whileS_mono n ρ2 S2 r h hr
        | cnt ρ2 S2 => rw [hg] at h; exact whileS_mono n ρ2 S2 r h hr
        | brk ρ2 S2 => rw [hg] at h; exact h
        | ret m S2 => rw [hg] at h; exact h
        | exn e ρ2 S2 => rw [hg] at h; exact h
        | stuck => rw [hg] at h; exact h
theorem forS_keep {chk : Sto → Prop} {t : XG} {g : XS} (I : List (Option Mv) → Prop) (S : Sto) (hc : chk S) : ∀ (ms : List Mv), (∀ m ∈ ms, ∀ ρ, I ρ → ∃ ρ', ((t m ρ S).only.seq fun ρ1 S1 => g ρ1 S1) = .nx ρ' S ∧ I ρ') → ∀ ρ, I ρ → ∃ ρ', forS chk t g ms ρ S = .nx ρ' S ∧ I ρ'
  | [], _, ρ, h => ⟨ρ, by unfold forS; rw [if_pos hc], h⟩
  | m :: ms, hs, ρ, h => by
    obtain ⟨ρ1, e, h1⟩ := hs m (by simp) ρ h
    obtain ⟨ρ2, e2, h2⟩ := forS_keep I S hc ms (fun m hm => hs m (by simp [hm])) ρ1 h1
    refine ⟨ρ2, ?_, h2⟩
    conv => lhs; unfold forS
    rw [if_pos hc]
    have q : ((t m ρ S).only.seq fun ρ1 S1 => (g ρ1 S1).turn fun ρ2 S2 => forS chk t g ms ρ2 S2) = ((t m ρ S).only.seq fun ρ1 S1 => g ρ1 S1).turn fun ρ2 S2 => forS chk t g ms ρ2 S2 := by
      revert e
      cases (t m ρ S) <;> simp [RS.only, RS.seq, RS.turn]
    rw [q, e]
    exact e2
theorem forS_cntB {t : XG} {g : XS} (N : Nat) (I : Nat → List (Option Mv) → Sto → Prop) : ∀ (ms : List Mv) (n : Nat), n + ms.length ≤ N → (∀ n, n < N → ∀ m ∈ ms, ∀ ρ S, I n ρ S → ∃ ρ' S', ((t m ρ S).only.seq fun ρ1 S1 => g ρ1 S1) = .nx ρ' S' ∧ I (n + 1) ρ' S') → ∀ ρ S, I n ρ S → ∃ ρ' S', forS always t g ms ρ S = .nx ρ' S' ∧ I (n + ms.length) ρ' S'
  | [], n, _, _, ρ, S, h => ⟨ρ, S, forS_nil .., h⟩
  | m :: ms, n, hN, hs, ρ, S, h => by
    rw [List.length_cons] at hN
    obtain ⟨ρ1, S1, e, h1⟩ := hs n (by omega) m (by simp) ρ S h
    obtain ⟨ρ2, S2, e2, h2⟩ := forS_cntB N I ms (n + 1) (by omega) (fun n hn m hm => hs n hn m (by simp [hm])) ρ1 S1 h1
    refine ⟨ρ2, S2, ?_, by rw [List.length_cons, show n + (ms.length + 1) = n + 1 + ms.length by omega]; exact h2⟩
    rw [forS_cons]
    have q : ((t m ρ S).only.seq fun ρ1 S1 => (g ρ1 S1).turn fun ρ2 S2 => forS always t g ms ρ2 S2) = ((t m ρ S).only.seq fun ρ1 S1 => g ρ1 S1).turn fun ρ2 S2 => forS always t g ms ρ2 S2 := by
      revert e
      cases (t m ρ S) <;> simp [RS.only, RS.seq, RS.turn]
    rw [q, e]
    exact e2
theorem fEqq_bl (neg a b : Bool) (S : Sto) : fEqq neg (.val (.bl a)) (.val (.bl b)) S = .ok (.val (.bl ((a == b) != neg))) S := by
  simp [fEqq, rfy, eqD, toPy, SeqAt.shaped, PyData.canLay0, PyData.depth, PyData.eqv]
theorem okA {x : Tx} (h : ∀ c ∈ x, c < 1114112) : okT x = true := by
  unfold okT
  rw [List.all_eq_true]
  intro c hc
  exact decide_eq_true (h c hc)
theorem okT_app {x y : Tx} (h : okT x = true) (g : okT y = true) : okT (x ++ y) = true := by
  unfold okT at *
  rw [List.all_append, h, g]; rfl
theorem okT_cons {c : Nat} {y : Tx} (h : c < 1114112) (g : okT y = true) : okT (c :: y) = true := by
  unfold okT at *
  rw [List.all_cons, g, decide_eq_true h]; rfl
theorem ok_digs : ∀ n : Fin 1000, okT (digs n.val) = true := by decide +kernel
theorem ok_dec {i : Int} (h0 : 0 ≤ i) (h1 : i < 1000) : okT (dec i) = true := by
  rw [dec_digs h0 h1]; exact ok_digs ⟨i.toNat, by omega⟩
theorem tw_app {p : Nat → Bool} {x r : Tx} (h : ∀ c ∈ x, p c = true) (hr : r = [] ∨ ∃ c s, r = c :: s ∧ p c = false) : (x ++ r).takeWhile p = x ∧ (x ++ r).dropWhile p = r := by
  rw [List.takeWhile_append_of_pos h, List.dropWhile_append_of_pos h]
  rcases hr with rfl | ⟨c, s, rfl, hc⟩
  · simp
  · simp [hc]
theorem rngN {g : XA} {n : Nat} {ρ : List (Option Mv)} {S S1 : Sto} (hg : g ρ S = .ok [.val (.int n)] S1) (hn : n < 1000000) : iRng1 g ρ S = .ok (rangeL 0 n, always) S1 := by
  have : (-(2 ^ 62) ≤ (n : Int) ∧ (n : Int) < 2 ^ 62) := by omega
  rw [iRng1_eq, hg, Rz.bind_ok]
  simp only [if_pos this, Int.toNat_natCast]
@[simp] theorem eNewK_eq (ρ S) : eNewK ρ S = .ok (.loc S.length) (S ++ [.dK []]) := rfl
theorem dicOf_loc {S : Sto} {n : Nat} {kvs} (h : S[n]? = some (.dK kvs)) : dicOf S (.loc n) = some kvs := by unfold dicOf; simp [h]
@[simp] theorem keyM_str (x : Tx) : keyM (.val (.str x)) = some (.inr x) := rfl
@[simp] theorem keyM_int (x : Int) : keyM (.val (.int x)) = some (.inl x) := rfl
theorem fDGet_loc {S : Sto} {n : Nat} {kvs} (h : S[n]? = some (.dK kvs)) {y : Mv} {k : Ky} (hk : keyM y = some k) {m : Mv} (hm : valM kvs k = some m) : fDGet (.loc n) y S = .ok m S := by
  unfold fDGet
  rw [dicOf_loc h, hk]
  simp only [hm]
theorem fSetD_loc {S : Sto} {n : Nat} {kvs} (h : S[n]? = some (.dK kvs)) {y : Mv} {k : Ky} (hk : keyM y = some k) {m : Mv} (hl : kvs.length < 16777216) : fSetD (.loc n) y m S = .ok () (S.set n (.dK (putKM kvs k m))) := by
  unfold fSetD
  simp only [h, hk]
  rw [line_is, if_pos hl]
@[simp] theorem jsX_nil (acc : Tx) (ρ S) : jsX [] acc ρ S = .ok (.val (.str acc)) S := rfl
@[simp] theorem jsX_cons (f fs) (acc : Tx) (ρ S) : jsX (f :: fs) acc ρ S = (f ρ S).bind fun m S1 => match m with
    | .val (.str y) => if acc.length + y.length ≤ sizeLine then jsX fs (acc ++ y) ρ S1 else .stuck
    | _ => .stuck := rfl
theorem fFmt_str {x : Tx} (S : Sto) (h : x.length ≤ 16777216) : fFmt (.val (.str x)) S = .ok (.val (.str x)) S := by
  show (if _ then _ else _) = _
  rw [line_is, if_pos h]
theorem fFmt_int {i : Int} (S : Sto) (h : i.natAbs.log2 < 1920) : fFmt (.val (.int i)) S = .ok (.val (.str (dec i))) S := by
  show (if _ then _ else _) = _
  rw [if_pos h]
end MK

-- printed by gen.py
namespace TheText
open PySem L2 MK PyProof.Rows
def top (i : Nat) : Stmt := PySem.Challenge.pw_maskedlist_k71_residues_and_assignments.main.body.getD i (.Pass ⟨0, 0, 0, 0⟩)
/-- format_residues -/
noncomputable abbrev g_format_residues : XS :=
  (sRet ((eIf ((xB ((eBin fGt ((eMk fLen (aCons (eVar 0) (aNil)))) (eC (.int 0)))))) ((eBm fJoin isStr (eC (.str [32])) (aCons ((eLc finL (iAny (eVar 0)) (.one 1) (xYes) ((eMk fStr (aCons (eVar 1) (aNil)))))) (aNil)))) (eC (.str [45])))))
noncomputable def G_format_residues : PFn := fnP 1 2 g_format_residues
/-- format_assignment -/
noncomputable abbrev g_format_assignment : XS :=
  (sRet ((eOr ((eBm fJoin isStr (eC (.str [32])) (aCons ((eLc finL (iAny ((eMk (fSortS mkLst) (aCons ((eMk (fListD mkLst) (aCons (eVar 0) (aNil)))) (aNil))))) (.one 1) (xYes) ((jsX [eUn fFmt (eVar 1), eC (.str [61]), eUn fFmt ((eBin fDGet (eVar 0) (eVar 1)))] [])))) (aNil)))) (eC (.str [45])))))
noncomputable def G_format_assignment : SFn := fnS 1 2 g_format_assignment
/-- read_residue -/
noncomputable abbrev g_read_residue : XS :=
  (sSeq (sIf ((xOr ((xB ((eBin fEq ((eSl mkLst (eVar 0) (xoS (eVar 1)) (xoS ((eBin fAdd (eVar 1) (eC (.int 1))))))) (eC (.str [])))))) ((xOr ((xB ((eBin (fInS true) ((eBin fIx (eVar 0) (eVar 1))) (eC (.str [48, 49, 50, 51, 52, 53, 54, 55, 56, 57])))))) ((xB ((eBin fGe ((eMk fIntOf (aCons ((eBin fIx (eVar 0) (eVar 1))) (aNil)))) (eVar 2))))))))) (sNever) (sNil))
    (sSeq (sSet 3 ((eMk fIntOf (aCons ((eBin fIx (eVar 0) (eVar 1))) (aNil)))))
    (sSeq (sSet 4 ((eBin fAdd (eVar 1) (eC (.int 1)))))
    (sSeq (sWhile 100000 ((xAnd ((xB ((eBin fLt (eVar 4) ((eMk fLen (aCons (eVar 0) (aNil)))))))) ((xB ((eBin (fInS false) ((eBin fIx (eVar 0) (eVar 4))) (eC (.str [48, 49, 50, 51, 52, 53, 54, 55, 56, 57])))))))) ((sSeq (sSet 5 ((eBin fAdd ((eBin fMul (eC (.int 10)) (eVar 3))) ((eMk fIntOf (aCons ((eBin fIx (eVar 0) (eVar 4))) (aNil)))))))
    (sSeq (sIf ((xOr ((xB ((eBin fEq (eVar 3) (eC (.int 0)))))) ((xB ((eBin fGe (eVar 5) (eVar 2))))))) (sNever) (sNil))
    (sSeq (sSet 3 (eVar 5))
    (sAug 4 fAddI (eC (.int 1))))))))
    (sRet ((eMk mkTup (aCons (eVar 3) (aCons (eVar 4) (aNil))))))))))
noncomputable def G_read_residue : PFn := fnP 3 6 g_read_residue
/-- is_empty_mark -/
noncomputable abbrev g_is_empty_mark : XS :=
  (sSeq (sIf ((xAnd ((xB ((eBin fEq ((eSl mkLst (eVar 0) xoN (xoS (eC (.int 1))))) (eC (.str [45])))))) ((xB ((eBin fGt ((eMk fLen (aCons (eVar 0) (aNil)))) (eC (.int 1)))))))) (sNever) (sNil))
    (sRet ((eBin fEq (eVar 0) (eC (.str [45]))))))
noncomputable def G_is_empty_mark : PFn := fnP 1 1 g_is_empty_mark
/-- parse_residues -/
noncomputable abbrev g_parse_residues : XS :=
  (sSeq (sIf ((xT ((eMk (callP G_is_empty_mark) (aCons (eVar 0) (aNil)))))) ((sRet ((eMk mkTup (aNil))))) (sNil))
    (sSeq (sSet 2 ((eMk mkLoc (aNil))))
    (sSeq (sSet 3 (eC (.int 0)))
    (sWhile 100000 ((xT (eC (.bl true)))) ((sSeq (sAsg ((eMk (callP G_read_residue) (aCons (eVar 0) (aCons (eVar 3) (aCons (eVar 1) (aNil)))))) (tgTup 2 (tgsCons (tgName 4) (tgsCons (tgName 3) tgsNil))))
    (sSeq (sExpr ((eBm fAppend isLst (eVar 2) (aCons (eVar 4) (aNil)))))
    (sSeq (sIf ((xB ((eBin fEq (eVar 3) ((eMk fLen (aCons (eVar 0) (aNil)))))))) ((sRet ((eMk fTupOf (aCons (eVar 2) (aNil)))))) (sNil))
    (sSeq (sIf ((xB ((eBin fNe ((eBin fIx (eVar 0) (eVar 3))) (eC (.str [32])))))) (sNever) (sNil))
    (sAug 3 fAddI (eC (.int 1))))))))))))
noncomputable def G_parse_residues : PFn := fnP 2 5 g_parse_residues
/-- read_name_after -/
noncomputable abbrev g_read_name_after : XS :=
  (sSeq (sSet 3 (eVar 1))
    (sSeq (sWhile 100000 ((xAnd ((xB ((eBin fLt (eVar 3) ((eMk fLen (aCons (eVar 0) (aNil)))))))) ((xB ((eBin (fInS false) ((eBin fIx (eVar 0) (eVar 3))) (eC (.str [97, 98, 99, 100, 101, 102, 103, 104, 105, 106, 107, 108, 109, 110, 111, 112, 113, 114, 115, 116, 117, 118, 119, 120, 121, 122])))))))) ((sSeq (sSet 4 ((eBin fAdd ((eSl mkLst (eVar 0) (xoS (eVar 1)) (xoS ((eBin fAdd (eVar 3) (eC (.int 1))))))) ((eSl mkLst (eC (.str [122, 122, 122, 122, 122, 122])) (xoS ((eBin fSub ((eBin fAdd (eVar 3) (eC (.int 1)))) (eVar 1)))) xoN)))))
    (sSeq (sIf ((xOr ((xB ((eBin fGt ((eMk fLen (aCons (eVar 4) (aNil)))) (eC (.int 6)))))) ((xB ((eBin fLeS (eVar 4) (eVar 2))))))) (sNever) (sNil))
    (sAug 3 fAddI (eC (.int 1)))))))
    (sSeq (sSet 5 ((eSl mkLst (eVar 0) (xoS (eVar 1)) (xoS (eVar 3)))))
    (sSeq (sIf ((xOr ((xB ((eBin fEq (eVar 3) ((eMk fLen (aCons (eVar 0) (aNil)))))))) ((xOr ((xB ((eBin fNe ((eBin fIx (eVar 0) (eVar 3))) (eC (.str [61])))))) ((xB ((eBin fLeS (eVar 5) (eVar 2))))))))) (sNever) (sNil))
    (sRet ((eMk mkTup (aCons (eVar 5) (aCons (eVar 3) (aNil))))))))))
noncomputable def G_read_name_after : PFn := fnP 3 6 g_read_name_after
/-- parse_assignment -/
noncomputable abbrev g_parse_assignment : XS :=
  (sSeq (sIf ((xT ((eMk (callP G_is_empty_mark) (aCons (eVar 0) (aNil)))))) ((sRet (eNewK))) (sNil))
    (sSeq (sSet 2 (eNewK))
    (sSeq (sSet 3 (eC (.str [])))
    (sSeq (sSet 4 (eC (.int 0)))
    (sWhile 100000 ((xT (eC (.bl true)))) ((sSeq (sAsg ((eMk (callP G_read_name_after) (aCons (eVar 0) (aCons (eVar 4) (aCons (eVar 3) (aNil)))))) (tgTup 2 (tgsCons (tgName 3) (tgsCons (tgName 4) tgsNil))))
    (sSeq (sAsg ((eMk (callP G_read_residue) (aCons (eVar 0) (aCons ((eBin fAdd (eVar 4) (eC (.int 1)))) (aCons (eVar 1) (aNil)))))) (tgTup 2 (tgsCons (tgSub fSetD (eVar 2) (eVar 3)) (tgsCons (tgName 4) tgsNil))))
    (sSeq (sIf ((xB ((eBin fEq (eVar 4) ((eMk fLen (aCons (eVar 0) (aNil)))))))) ((sRet (eVar 2))) (sNil))
    (sSeq (sIf ((xOr ((xB ((eBin fNe ((eBin fIx (eVar 0) (eVar 4))) (eC (.str [32])))))) ((xB ((eBin fEq (eVar 3) (eC (.str [122, 122, 122, 122, 122, 122])))))))) (sNever) (sNil))
    (sAug 4 fAddI (eC (.int 1)))))))))))))
noncomputable def G_parse_assignment : SFn := fnS 2 5 g_parse_assignment
/-- _law_pen -/
noncomputable abbrev g_law_pen : XS :=
  (sRet ((eMk mkLoc (aCons ((eMk (fLstOf mkLst) (aCons ((eSl mkLst (eVar 0) xoN (xoS (eC (.int 63))))) (aNil)))) (aCons (eC (.int 0)) (aCons (eC (.int 0)) (aNil)))))))
noncomputable def G_law_pen : SFn := fnS 1 1 g_law_pen
/-- _law_fresh -/
noncomputable abbrev g_law_fresh : XS :=
  (sSeq (sSet 1 ((eBin fIx (eVar 0) (eC (.int 1)))))
    (sSeq (sAsg ((eBin fAdd (eVar 1) (eC (.int 1)))) (tgSub fSetL (eVar 0) (eC (.int 1))))
    (sSeq (sSet 2 (eC (.int 0)))
    (sSeq (sIf ((xB ((eBin fNe ((eBin fIx (eVar 0) (eC (.int 0)))) ((eMk mkLst (aNil))))))) ((sSet 2 ((eBin fIx ((eBin fIx (eVar 0) (eC (.int 0)))) ((eBin fMod (eVar 1) ((eMk fLen (aCons ((eBin fIx (eVar 0) (eC (.int 0)))) (aNil)))))))))) (sNil))
    (sSeq (sIf ((xAnd ((xB ((eBin fLt (eVar 1) ((eMk fLen (aCons ((eBin fIx (eVar 0) (eC (.int 0)))) (aNil)))))))) ((xB ((eBin fGe (eVar 2) ((eBin fPow (eC (.int 10)) (eC (.int 18)))))))))) ((sRet ((eBin fSub (eVar 2) ((eBin fPow (eC (.int 10)) (eC (.int 18)))))))) (sNil))
    (sSeq (sSet 3 (eC (.int 2305843009213693951)))
    (sSeq (sSet 4 ((eBin fMod ((eBin fAdd ((eBin fAdd ((eBin fMul (eVar 2) (eC (.int 48271)))) ((eBin fMul (eC (.int 40692)) (eVar 1))))) (eC (.int 31)))) (eVar 3))))
    (sSeq (sSet 5 (eVar 4))
    (sSeq (sFor (iRng1 (aCons (eC (.int 6)) (aNil))) (tgName 6) ((sSeq (sSet 4 ((eBin fMod ((eBin fAdd ((eBin fAdd ((eBin fMul (eVar 4) (eVar 4))) ((eBin fMul ((eBin fMul (eC (.int 69621)) ((eBin fAdd (eVar 6) (eC (.int 1)))))) ((eBin fAdd (eVar 1) (eC (.int 1)))))))) (eVar 2))) (eVar 3))))
    (sSet 5 ((eBin fAdd ((eBin fMul (eVar 5) (eVar 3))) (eVar 4)))))))
    (sRet (eVar 5)))))))))))
noncomputable def G_law_fresh : SFn := fnS 1 7 g_law_fresh
/-- _law_draw -/
noncomputable abbrev g_law_draw : XS :=
  (sSeq (sIf ((xB ((eBin fLt ((eBin fIx (eVar 0) (eC (.int 2)))) (eVar 1))))) ((sAsg ((eMk G_law_fresh (aCons (eVar 0) (aNil)))) (tgSub fSetL (eVar 0) (eC (.int 2))))) (sNil))
    (sSeq (sSet 2 ((eBin fMod ((eBin fIx (eVar 0) (eC (.int 2)))) (eVar 1))))
    (sSeq (sAsg ((eBin fDiv ((eBin fIx (eVar 0) (eC (.int 2)))) (eVar 1))) (tgSub fSetL (eVar 0) (eC (.int 2))))
    (sRet (eVar 2)))))
noncomputable def G_law_draw : SFn := fnS 2 3 g_law_draw
/-- _law_modulus -/
noncomputable abbrev g_law_modulus : XS :=
  (sRet ((eBin fIx ((eMk mkLst (aCons (eC (.int 2)) (aCons (eC (.int 3)) (aCons (eC (.int 4)) (aCons (eC (.int 5)) (aCons (eC (.int 6)) (aCons (eC (.int 7)) (aCons (eC (.int 12)) (aCons (eC (.int 97)) (aCons (eC (.int 1000)) (aCons ((eBin fAdd (eC (.int 2)) ((eMk G_law_draw (aCons (eVar 0) (aCons (eC (.int 999)) (aNil))))))) (aNil))))))))))))) ((eMk G_law_draw (aCons (eVar 0) (aCons (eC (.int 10)) (aNil))))))))
noncomputable def G_law_modulus : SFn := fnS 1 1 g_law_modulus
/-- _law_residues -/
noncomputable abbrev g_law_residues : XS :=
  (sRet ((eMk fTupOf (aCons ((eLc finL (iRng1 (aCons (eVar 2) (aNil))) (.one 3) (xYes) ((eMk G_law_draw (aCons (eVar 0) (aCons (eVar 1) (aNil))))))) (aNil)))))
noncomputable def G_law_residues : SFn := fnS 3 4 g_law_residues
/-- _law_variable -/
noncomputable abbrev g_law_variable : XS :=
  (sSeq (sSet 1 ((eBin fIx ((eMk mkLst (aCons (eC (.str [97, 98, 122])) (aCons (eC (.str [97, 98, 99, 100, 101, 102, 103, 104, 105, 106, 107, 108, 109, 110, 111, 112, 113, 114, 115, 116, 117, 118, 119, 120, 121, 122])) (aNil))))) ((eMk G_law_draw (aCons (eVar 0) (aCons (eC (.int 2)) (aNil))))))))
    (sRet ((eBm fJoin isStr (eC (.str [])) (aCons ((eLc finL (iRng1 (aCons ((eBin fAdd (eC (.int 1)) ((eMk G_law_draw (aCons (eVar 0) (aCons (eC (.int 6)) (aNil))))))) (aNil))) (.one 2) (xYes) ((eBin fIx (eVar 1) ((eMk G_law_draw (aCons (eVar 0) (aCons ((eMk fLen (aCons (eVar 1) (aNil)))) (aNil))))))))) (aNil))))))
noncomputable def G_law_variable : SFn := fnS 1 3 g_law_variable
/-- law -/
noncomputable abbrev g_law : XS :=
  (sSeq (sSet 1 ((eMk G_law_pen (aCons (eVar 0) (aNil)))))
    (sSeq (sSet 2 ((eBm fJoin isStr (eC (.str [32])) (aCons ((eLc finL (iAny (eC (.str [97, 98, 99, 100, 101, 102, 103, 104, 105, 106, 107, 108, 109, 110, 111, 112, 113, 114, 115, 116, 117, 118, 119, 120, 121, 122]))) (.one 3) (xYes) ((eBin fAdd (eVar 3) (eC (.str [61, 49])))))) (aNil)))))
    (sSeq (sIf ((xB ((eBin fNe ((eMk G_format_assignment (aCons ((eMk G_parse_assignment (aCons (eVar 2) (aCons (eC (.int 2)) (aNil))))) (aNil)))) (eVar 2))))) ((sRet (eC (.bl false)))) (sNil))
    (sSeq (sFor (iRng1 (aCons (eC (.int 5)) (aNil))) (tgName 4) ((sSeq (sSet 5 ((eMk G_law_modulus (aCons (eVar 1) (aNil)))))
    (sSeq (sSet 6 ((eMk G_law_residues (aCons (eVar 1) (aCons (eVar 5) (aCons ((eBin fIx ((eMk mkLst (aCons (eC (.int 0)) (aCons (eC (.int 1)) (aCons ((eMk G_law_draw (aCons (eVar 1) (aCons (eC (.int 9)) (aNil))))) (aCons (eC (.int 200)) (aNil))))))) ((eMk G_law_draw (aCons (eVar 1) (aCons (eC (.int 4)) (aNil))))))) (aNil)))))))
    (sSeq (sSet 7 ((eIf ((xB ((eBin fNe (eVar 6) ((eMk mkTup (aNil))))))) ((eBm fJoin isStr (eC (.str [32])) (aCons ((eLc finL (iAny (eVar 6)) (.one 8) (xYes) ((eMk fStr (aCons (eVar 8) (aNil)))))) (aNil)))) (eC (.str [45])))))
    (sSeq (sIf ((xOr ((xB ((eBin fNe ((eMk (callP G_format_residues) (aCons (eVar 6) (aNil)))) (eVar 7))))) ((xB ((eBin fNe ((eMk (kwF 1 [0] (callP G_format_residues)) (aCons (eVar 6) (aNil)))) (eVar 7))))))) ((sRet (eC (.bl false)))) (sNil))
    (sSeq (sIf ((xOr ((xB ((eBin fNe ((eMk fReprX (aCons ((eMk (callP G_parse_residues) (aCons (eVar 7) (aCons (eVar 5) (aNil))))) (aNil)))) ((eMk fReprX (aCons (eVar 6) (aNil)))))))) ((xB ((eBin fNe ((eMk (kwF 2 [1, 0] (callP G_parse_residues)) (aCons (eVar 5) (aCons (eVar 7) (aNil))))) (eVar 6))))))) ((sRet (eC (.bl false)))) (sNil))
    (sSeq (sSet 9 (eNewK))
    (sSeq (sFor (iRng1 (aCons ((eMk G_law_draw (aCons (eVar 1) (aCons (eC (.int 7)) (aNil))))) (aNil))) (tgName 10) ((sAsg ((eMk G_law_draw (aCons (eVar 1) (aCons (eVar 5) (aNil))))) (tgSub fSetD (eVar 9) ((eMk G_law_variable (aCons (eVar 1) (aNil))))))))
    (sSeq (sSet 11 ((eMk fReprX (aCons (eVar 9) (aNil)))))
    (sSeq (sSet 12 ((eIf ((xB ((eBin (fEqI true) (eVar 9) (eNewK))))) ((eBm fJoin isStr (eC (.str [32])) (aCons ((eLc finL (iAny ((eMk (fSortS mkLst) (aCons (eVar 9) (aNil))))) (.one 13) (xYes) ((eBin fAdd ((eBin fAdd (eVar 13) (eC (.str [61])))) ((eMk fStr (aCons ((eBin fDGet (eVar 9) (eVar 13))) (aNil)))))))) (aNil)))) (eC (.str [45])))))
    (sSeq (sIf ((xOr ((xB ((eBin fNe ((eMk G_format_assignment (aCons (eVar 9) (aNil)))) (eVar 12))))) ((xOr ((xB ((eBin fNe ((eMk (kwF 1 [0] G_format_assignment) (aCons (eVar 9) (aNil)))) (eVar 12))))) ((xB ((eBin fNe ((eMk fReprX (aCons (eVar 9) (aNil)))) (eVar 11))))))))) ((sRet (eC (.bl false)))) (sNil))
    (sSeq (sSet 14 ((eMk G_parse_assignment (aCons (eVar 12) (aCons (eVar 5) (aNil))))))
    (sSeq (sIf ((xB ((eBin fNe ((eMk fReprX (aCons ((eListItems (eVar 14))) (aNil)))) ((eMk fReprX (aCons ((eSortItems (eVar 9))) (aNil)))))))) ((sRet (eC (.bl false)))) (sNil))
    (sSeq (sAsg (eC (.int 0)) (tgSub fSetD (eVar 14) (eC (.str [101, 120, 116, 114, 97]))))
    (sIf ((xB ((eBin (fEqI true) ((eMk (kwF 2 [1, 0] G_parse_assignment) (aCons (eVar 5) (aCons (eVar 12) (aNil))))) (eVar 9))))) ((sRet (eC (.bl false)))) (sNil)))))))))))))))))
    (sRet (eC (.bl true)))))))
noncomputable def G_law : SFn := fnS 1 15 g_law
structure Txt (w : World) (K : PySem.W.Frag) (mg : Str → Option Value) : Prop where
  b_int : mg "int" = none
  b_len : mg "len" = none
  b_list : mg "list" = none
  b_range : mg "range" = none
  b_repr : mg "repr" = none
  b_sorted : mg "sorted" = none
  b_str : mg "str" = none
  b_tuple : mg "tuple" = none
  c_DIGITS : ∃ t, mg "DIGITS" = some (.str (sT [48, 49, 50, 51, 52, 53, 54, 55, 56, 57]) t)
  c_LAST_NAME : ∃ t, mg "LAST_NAME" = some (.str (sT [122, 122, 122, 122, 122, 122]) t)
  c_LETTERS : ∃ t, mg "LETTERS" = some (.str (sT [97, 98, 99, 100, 101, 102, 103, 104, 105, 106, 107, 108, 109, 110, 111, 112, 113, 114, 115, 116, 117, 118, 119, 120, 121, 122]) t)
  c_MAX_LETTERS : ∃ t, mg "MAX_LETTERS" = some (.int 6 t)
  d_format_residues : DefKwAt K mg "format_residues" (top 7) ["residues"] ["residues"] [0]
  d_format_assignment : DefKwAt K mg "format_assignment" (top 8) ["assignment"] ["assignment"] [0]
  d_read_residue : DefAt K mg "read_residue" (top 9) ["text", "start", "modulus"]
  d_is_empty_mark : DefAt K mg "is_empty_mark" (top 10) ["text"]
  d_parse_residues : DefKwAt K mg "parse_residues" (top 11) ["text", "modulus"] ["modulus", "text"] [1, 0]
  d_read_name_after : DefAt K mg "read_name_after" (top 12) ["text", "start", "previous"]
  d_parse_assignment : DefKwAt K mg "parse_assignment" (top 13) ["text", "modulus"] ["modulus", "text"] [1, 0]
  d_law_pen : DefAt K mg "_law_pen" (top 15) ["script"]
  d_law_fresh : DefAt K mg "_law_fresh" (top 16) ["pen"]
  d_law_draw : DefAt K mg "_law_draw" (top 17) ["pen", "many"]
  d_law_modulus : DefAt K mg "_law_modulus" (top 18) ["pen"]
  d_law_residues : DefAt K mg "_law_residues" (top 19) ["pen", "q", "many"]
  d_law_variable : DefAt K mg "_law_variable" (top 20) ["pen"]
section
variable {P : Program} {w : World} {K : PySem.W.Frag} {mg : Str → Option Value} {base : Heap}
theorem sc_format_residues : FnScope ["residues", "residue"] ["residues"] (defScope (top 7)) := ⟨rfl, rfl, rfl, by decide +kernel, rfl, by decide +kernel, by decide +kernel⟩
theorem ok_format_residues (T : Txt w K mg)  : HasFn P w K mg base "format_residues" 1 (spP K mg G_format_residues) ∧ HasFnK P w K mg base "format_residues" 1 (spP K mg G_format_residues) ["residues"] [0] := by
  have nd := sc_format_residues.nd
  exact hasPK (k := 0) T.d_format_residues sc_format_residues (fun f cdv A outer s H E hr => (qss_one (qs_ret (qe_if (qt_cmp o_gt (qe_callB o_len T.b_len (qa_cons (qe_var 0) qa_nil)) qe_int) (qe_bm PySem.F.plainAttrs_str PySem.F.slot_str_join PySem.F.type_str_join o_join ty_str (qe_str (i := [32])) (qa_cons (qe_lc finL_ok rfl nd (blkOk_by (own := [("residue", 1)]) (N := ["residues", "residue"]) (sc := defScope (top 7)) (by decide +kernel)) rfl (qi_any (qe_var 0)) (fun _ _ _ _ _ => pg_name nd rfl (by first | exact .inl rfl | exact .inr rfl)) (fun _ _ _ _ _ => qts_nil) (fun _ _ _ _ _ => (qe_callTy o_str T.b_str (qa_cons (qe_var 1) qa_nil)))) qa_nil)) (qe_str (i := [45]))))))
theorem sc_format_assignment : FnScope ["assignment", "name"] ["assignment"] (defScope (top 8)) := ⟨rfl, rfl, rfl, by decide +kernel, rfl, by decide +kernel, by decide +kernel⟩
theorem ok_format_assignment (T : Txt w K mg)  : HasFn P w K mg base "format_assignment" 1 (spS K mg G_format_assignment) ∧ HasFnK P w K mg base "format_assignment" 1 (spS K mg G_format_assignment) ["assignment"] [0] := by
  have nd := sc_format_assignment.nd
  exact hasSK (k := 0) T.d_format_assignment sc_format_assignment (fun f cdv A outer s H E hr => (qss_one (qs_ret (qe_or (qe_bm PySem.F.plainAttrs_str PySem.F.slot_str_join PySem.F.type_str_join o_join ty_str (qe_str (i := [32])) (qa_cons (qe_lc finL_ok rfl nd (blkOk_by (own := [("name", 1)]) (N := ["assignment", "name"]) (sc := defScope (top 8)) (by decide +kernel)) rfl (qi_any (qe_callB (o_sortS newL rfl) T.b_sorted (qa_cons (qe_callTy (o_listD newL rfl) T.b_list (qa_cons (qe_var 0) qa_nil)) qa_nil))) (fun _ _ _ _ _ => pg_name nd rfl (by first | exact .inl rfl | exact .inr rfl)) (fun _ _ _ _ _ => qts_nil) (fun _ _ _ _ _ => (qe_joined (.cons (qe_fmt (qe_var 1)) (.cons (qe_str (i := [61])) (.cons (qe_fmt (qe_dget hr (qe_var 0) (qe_var 1))) .nil)))))) qa_nil)) (qe_one (qe_str (i := [45])))))))
theorem sc_read_residue : FnScope ["text", "start", "modulus", "value", "end", "longer"] ["text", "start", "modulus"] (defScope (top 9)) := ⟨rfl, rfl, rfl, by decide +kernel, rfl, by decide +kernel, by decide +kernel⟩
theorem ok_read_residue (T : Txt w K mg)  : HasFn P w K mg base "read_residue" 1 (spP K mg G_read_residue) := by
  have nd := sc_read_residue.nd
  exact hasP (k := 0) T.d_read_residue sc_read_residue (fun f cdv A outer s H E hr => (qss_cons (qs_if (qt_w (qw_or (qt_cmp (o_eq hr) (qe_slice newL (qe_var 0) (qo_some (qe_var 1)) (qo_some (qe_op o_add (qe_var 1) qe_int))) (qe_str (i := []))) (qw_or (qt_cmp o_notInS (qe_ix o_ix (qe_var 0) (qe_var 1)) (qe_globS (z := [48, 49, 50, 51, 52, 53, 54, 55, 56, 57]) T.c_DIGITS) rfl) (qt_or1 (qt_cmp o_ge (qe_callTy o_int T.b_int (qa_cons (qe_ix o_ix (qe_var 0) (qe_var 1)) qa_nil)) (qe_var 2)))))) qss_never qss_nil)
      (qss_cons (qs_set nd (qe_callTy o_int T.b_int (qa_cons (qe_ix o_ix (qe_var 0) (qe_var 1)) qa_nil)))
      (qss_cons (qs_set nd (qe_op o_add (qe_var 1) qe_int))
      (qss_cons (qs_while 100000 (passes_of rfl) (qt_w (qw_and (qt_cmp o_lt (qe_var 4) (qe_callB o_len T.b_len (qa_cons (qe_var 0) qa_nil))) (qt_and1 (qt_cmp o_inS (qe_ix o_ix (qe_var 0) (qe_var 4)) (qe_globS (z := [48, 49, 50, 51, 52, 53, 54, 55, 56, 57]) T.c_DIGITS) rfl)))) (qss_cons (qs_set nd (qe_op o_add (qe_op o_mul qe_int (qe_var 3)) (qe_callTy o_int T.b_int (qa_cons (qe_ix o_ix (qe_var 0) (qe_var 4)) qa_nil))))
      (qss_cons (qs_if (qt_w (qw_or (qt_cmp (o_eq hr) (qe_var 3) qe_int) (qt_or1 (qt_cmp o_ge (qe_var 5) (qe_var 2))))) qss_never qss_nil)
      (qss_cons (qs_set nd (qe_var 5))
      (qss_one (qs_aug nd in_addI qe_int))))))
      (qss_one (qs_ret (qe_tup (qa_cons (qe_var 3) (qa_cons (qe_var 4) qa_nil))))))))))
theorem sc_is_empty_mark : FnScope ["text"] ["text"] (defScope (top 10)) := ⟨rfl, rfl, rfl, by decide +kernel, rfl, by decide +kernel, by decide +kernel⟩
theorem ok_is_empty_mark (T : Txt w K mg)  : HasFn P w K mg base "is_empty_mark" 1 (spP K mg G_is_empty_mark) := by
  have nd := sc_is_empty_mark.nd
  exact hasP (k := 0) T.d_is_empty_mark sc_is_empty_mark (fun f cdv A outer s H E hr => (qss_cons (qs_if (qt_w (qw_and (qt_cmp (o_eq hr) (qe_slice newL (qe_var 0) qo_none (qo_some qe_int)) (qe_str (i := [45]))) (qt_and1 (qt_cmp o_gt (qe_callB o_len T.b_len (qa_cons (qe_var 0) qa_nil)) qe_int)))) qss_never qss_nil)
      (qss_one (qs_ret (qe_cmp (o_eq hr) (qe_var 0) (qe_str (i := [45])))))))
theorem sc_parse_residues : FnScope ["text", "modulus", "residues", "position", "residue"] ["text", "modulus"] (defScope (top 11)) := ⟨rfl, rfl, rfl, by decide +kernel, rfl, by decide +kernel, by decide +kernel⟩
theorem ok_parse_residues (T : Txt w K mg) (h_read_residue : HasFn P w K mg base "read_residue" 1 (spP K mg G_read_residue)) (h_is_empty_mark : HasFn P w K mg base "is_empty_mark" 1 (spP K mg G_is_empty_mark)) : HasFn P w K mg base "parse_residues" 2 (spP K mg G_parse_residues) ∧ HasFnK P w K mg base "parse_residues" 2 (spP K mg G_parse_residues) ["modulus", "text"] [1, 0] := by
  have nd := sc_parse_residues.nd
  exact hasPK (k := 1) T.d_parse_residues sc_parse_residues (fun f cdv A outer s H E hr => (qss_cons (qs_if (qt_of (qe_call h_is_empty_mark (spOkP _) (hr.mono (by omega)) (takes_of rfl rfl rfl rfl) (qa_cons (qe_var 0) qa_nil))) (qss_one (qs_ret (qe_tup qa_nil))) qss_nil)
      (qss_cons (qs_set nd (qe_lstN qa_nil))
      (qss_cons (qs_set nd qe_int)
      (qss_one (qs_while 100000 (passes_of rfl) (qt_of qe_bl) (qss_cons (qs_asg (qe_call h_read_residue (spOkP _) (hr.mono (by omega)) (takes_of rfl rfl rfl rfl) (qa_cons (qe_var 0) (qa_cons (qe_var 3) (qa_cons (qe_var 1) qa_nil)))) (qg_tup rfl (qgs_cons (qg_name nd) (qgs_cons (qg_name nd) qgs_nil))))
      (qss_cons (qs_expr (qe_bm PySem.F.plainAttrs_list PySem.F.slot_list_append PySem.F.type_list_append o_append ty_lst (qe_var 2) (qa_cons (qe_var 4) qa_nil)))
      (qss_cons (qs_if (qt_cmp (o_eq hr) (qe_var 3) (qe_callB o_len T.b_len (qa_cons (qe_var 0) qa_nil))) (qss_one (qs_ret (qe_callTy o_tuple T.b_tuple (qa_cons (qe_var 2) qa_nil)))) qss_nil)
      (qss_cons (qs_if (qt_cmp (o_ne hr) (qe_ix o_ix (qe_var 0) (qe_var 3)) (qe_str (i := [32]))) qss_never qss_nil)
      (qss_one (qs_aug nd in_addI qe_int))))))))))))
theorem sc_read_name_after : FnScope ["text", "start", "previous", "end", "greatest", "name"] ["text", "start", "previous"] (defScope (top 12)) := ⟨rfl, rfl, rfl, by decide +kernel, rfl, by decide +kernel, by decide +kernel⟩
theorem ok_read_name_after (T : Txt w K mg)  : HasFn P w K mg base "read_name_after" 1 (spP K mg G_read_name_after) := by
  have nd := sc_read_name_after.nd
  exact hasP (k := 0) T.d_read_name_after sc_read_name_after (fun f cdv A outer s H E hr => (qss_cons (qs_set nd (qe_var 1))
      (qss_cons (qs_while 100000 (passes_of rfl) (qt_w (qw_and (qt_cmp o_lt (qe_var 3) (qe_callB o_len T.b_len (qa_cons (qe_var 0) qa_nil))) (qt_and1 (qt_cmp o_inS (qe_ix o_ix (qe_var 0) (qe_var 3)) (qe_globS (z := [97, 98, 99, 100, 101, 102, 103, 104, 105, 106, 107, 108, 109, 110, 111, 112, 113, 114, 115, 116, 117, 118, 119, 120, 121, 122]) T.c_LETTERS) rfl)))) (qss_cons (qs_set nd (qe_op o_add (qe_slice newL (qe_var 0) (qo_some (qe_var 1)) (qo_some (qe_op o_add (qe_var 3) qe_int))) (qe_slice newL (qe_globS (z := [122, 122, 122, 122, 122, 122]) T.c_LAST_NAME) (qo_some (qe_op o_sub (qe_op o_add (qe_var 3) qe_int) (qe_var 1))) qo_none)))
      (qss_cons (qs_if (qt_w (qw_or (qt_cmp o_gt (qe_callB o_len T.b_len (qa_cons (qe_var 4) qa_nil)) (qe_globI (i := 6) T.c_MAX_LETTERS)) (qt_or1 (qt_cmp o_leS (qe_var 4) (qe_var 2))))) qss_never qss_nil)
      (qss_one (qs_aug nd in_addI qe_int)))))
      (qss_cons (qs_set nd (qe_slice newL (qe_var 0) (qo_some (qe_var 1)) (qo_some (qe_var 3))))
      (qss_cons (qs_if (qt_w (qw_or (qt_cmp (o_eq hr) (qe_var 3) (qe_callB o_len T.b_len (qa_cons (qe_var 0) qa_nil))) (qw_or (qt_cmp (o_ne hr) (qe_ix o_ix (qe_var 0) (qe_var 3)) (qe_str (i := [61]))) (qt_or1 (qt_cmp o_leS (qe_var 5) (qe_var 2)))))) qss_never qss_nil)
      (qss_one (qs_ret (qe_tup (qa_cons (qe_var 5) (qa_cons (qe_var 3) qa_nil))))))))))
theorem sc_parse_assignment : FnScope ["text", "modulus", "assignment", "name", "position"] ["text", "modulus"] (defScope (top 13)) := ⟨rfl, rfl, rfl, by decide +kernel, rfl, by decide +kernel, by decide +kernel⟩
theorem ok_parse_assignment (T : Txt w K mg) (h_read_residue : HasFn P w K mg base "read_residue" 1 (spP K mg G_read_residue)) (h_is_empty_mark : HasFn P w K mg base "is_empty_mark" 1 (spP K mg G_is_empty_mark)) (h_read_name_after : HasFn P w K mg base "read_name_after" 1 (spP K mg G_read_name_after)) : HasFn P w K mg base "parse_assignment" 2 (spS K mg G_parse_assignment) ∧ HasFnK P w K mg base "parse_assignment" 2 (spS K mg G_parse_assignment) ["modulus", "text"] [1, 0] := by
  have nd := sc_parse_assignment.nd
  exact hasSK (k := 1) T.d_parse_assignment sc_parse_assignment (fun f cdv A outer s H E hr => (qss_cons (qs_if (qt_of (qe_call h_is_empty_mark (spOkP _) (hr.mono (by omega)) (takes_of rfl rfl rfl rfl) (qa_cons (qe_var 0) qa_nil))) (qss_one (qs_ret qe_newK)) qss_nil)
      (qss_cons (qs_set nd qe_newK)
      (qss_cons (qs_set nd (qe_str (i := [])))
      (qss_cons (qs_set nd qe_int)
      (qss_one (qs_while 100000 (passes_of rfl) (qt_of qe_bl) (qss_cons (qs_asg (qe_call h_read_name_after (spOkP _) (hr.mono (by omega)) (takes_of rfl rfl rfl rfl) (qa_cons (qe_var 0) (qa_cons (qe_var 4) (qa_cons (qe_var 3) qa_nil)))) (qg_tup rfl (qgs_cons (qg_name nd) (qgs_cons (qg_name nd) qgs_nil))))
      (qss_cons (qs_asg (qe_call h_read_residue (spOkP _) (hr.mono (by omega)) (takes_of rfl rfl rfl rfl) (qa_cons (qe_var 0) (qa_cons (qe_op o_add (qe_var 4) qe_int) (qa_cons (qe_var 1) qa_nil)))) (qg_tup rfl (qgs_cons (qg_sub (o_setD hr) (qe_var 2) (qe_var 3)) (qgs_cons (qg_name nd) qgs_nil))))
      (qss_cons (qs_if (qt_cmp (o_eq hr) (qe_var 4) (qe_callB o_len T.b_len (qa_cons (qe_var 0) qa_nil))) (qss_one (qs_ret (qe_var 2))) qss_nil)
      (qss_cons (qs_if (qt_w (qw_or (qt_cmp (o_ne hr) (qe_ix o_ix (qe_var 0) (qe_var 4)) (qe_str (i := [32]))) (qt_or1 (qt_cmp (o_eq hr) (qe_var 3) (qe_globS (z := [122, 122, 122, 122, 122, 122]) T.c_LAST_NAME))))) qss_never qss_nil)
      (qss_one (qs_aug nd in_addI qe_int)))))))))))))
theorem sc_law_pen : FnScope ["script"] ["script"] (defScope (top 15)) := ⟨rfl, rfl, rfl, by decide +kernel, rfl, by decide +kernel, by decide +kernel⟩
theorem ok_law_pen (T : Txt w K mg)  : HasFn P w K mg base "_law_pen" 1 (spS K mg G_law_pen) := by
  have nd := sc_law_pen.nd
  exact hasS (k := 0) T.d_law_pen sc_law_pen (fun f cdv A outer s H E hr => (qss_one (qs_ret (qe_lstN (qa_cons (qe_callTy (o_list newL) T.b_list (qa_cons (qe_slice newL (qe_var 0) qo_none (qo_some qe_int)) qa_nil)) (qa_cons qe_int (qa_cons qe_int qa_nil)))))))
theorem sc_law_fresh : FnScope ["pen", "at", "cell", "p", "state", "found", "turn"] ["pen"] (defScope (top 16)) := ⟨rfl, rfl, rfl, by decide +kernel, rfl, by decide +kernel, by decide +kernel⟩
theorem ok_law_fresh (T : Txt w K mg)  : HasFn P w K mg base "_law_fresh" 1 (spS K mg G_law_fresh) := by
  have nd := sc_law_fresh.nd
  exact hasS (k := 0) T.d_law_fresh sc_law_fresh (fun f cdv A outer s H E hr => (qss_cons (qs_set nd (qe_ix o_ix (qe_var 0) qe_int))
      (qss_cons (qs_asg (qe_op o_add (qe_var 1) qe_int) (qg_sub o_setL (qe_var 0) qe_int))
      (qss_cons (qs_set nd qe_int)
      (qss_cons (qs_if (qt_cmp (o_ne hr) (qe_ix o_ix (qe_var 0) qe_int) (qe_lst qa_nil)) (qss_one (qs_set nd (qe_ix o_ix (qe_ix o_ix (qe_var 0) qe_int) (qe_op o_mod (qe_var 1) (qe_callB o_len T.b_len (qa_cons (qe_ix o_ix (qe_var 0) qe_int) qa_nil)))))) qss_nil)
      (qss_cons (qs_if (qt_w (qw_and (qt_cmp o_lt (qe_var 1) (qe_callB o_len T.b_len (qa_cons (qe_ix o_ix (qe_var 0) qe_int) qa_nil))) (qt_and1 (qt_cmp o_ge (qe_var 2) (qe_op o_pow qe_int qe_int))))) (qss_one (qs_ret (qe_op o_sub (qe_var 2) (qe_op o_pow qe_int qe_int)))) qss_nil)
      (qss_cons (qs_set nd qe_int)
      (qss_cons (qs_set nd (qe_op o_mod (qe_op o_add (qe_op o_add (qe_op o_mul (qe_var 2) qe_int) (qe_op o_mul qe_int (qe_var 1))) qe_int) (qe_var 3)))
      (qss_cons (qs_set nd (qe_var 4))
      (qss_cons (qs_for (passes_of rfl) rfl (qi_range1 T.b_range (qa_cons qe_int qa_nil)) (qg_name nd) (qss_cons (qs_set nd (qe_op o_mod (qe_op o_add (qe_op o_add (qe_op o_mul (qe_var 4) (qe_var 4)) (qe_op o_mul (qe_op o_mul qe_int (qe_op o_add (qe_var 6) qe_int)) (qe_op o_add (qe_var 1) qe_int))) (qe_var 2)) (qe_var 3)))
      (qss_one (qs_set nd (qe_op o_add (qe_op o_mul (qe_var 5) (qe_var 3)) (qe_var 4))))))
      (qss_one (qs_ret (qe_var 5)))))))))))))
theorem sc_law_draw : FnScope ["pen", "many", "digit"] ["pen", "many"] (defScope (top 17)) := ⟨rfl, rfl, rfl, by decide +kernel, rfl, by decide +kernel, by decide +kernel⟩
theorem ok_law_draw (T : Txt w K mg) (h_law_fresh : HasFn P w K mg base "_law_fresh" 1 (spS K mg G_law_fresh)) : HasFn P w K mg base "_law_draw" 2 (spS K mg G_law_draw) := by
  have nd := sc_law_draw.nd
  exact hasS (k := 1) T.d_law_draw sc_law_draw (fun f cdv A outer s H E hr => (qss_cons (qs_if (qt_cmp o_lt (qe_ix o_ix (qe_var 0) qe_int) (qe_var 1)) (qss_one (qs_asg (qe_call h_law_fresh (spOkS _) (hr.mono (by omega)) (takes_of rfl rfl rfl rfl) (qa_cons (qe_var 0) qa_nil)) (qg_sub o_setL (qe_var 0) qe_int))) qss_nil)
      (qss_cons (qs_set nd (qe_op o_mod (qe_ix o_ix (qe_var 0) qe_int) (qe_var 1)))
      (qss_cons (qs_asg (qe_op o_div (qe_ix o_ix (qe_var 0) qe_int) (qe_var 1)) (qg_sub o_setL (qe_var 0) qe_int))
      (qss_one (qs_ret (qe_var 2)))))))
theorem sc_law_modulus : FnScope ["pen"] ["pen"] (defScope (top 18)) := ⟨rfl, rfl, rfl, by decide +kernel, rfl, by decide +kernel, by decide +kernel⟩
theorem ok_law_modulus (T : Txt w K mg) (h_law_draw : HasFn P w K mg base "_law_draw" 2 (spS K mg G_law_draw)) : HasFn P w K mg base "_law_modulus" 3 (spS K mg G_law_modulus) := by
  have nd := sc_law_modulus.nd
  exact hasS (k := 2) T.d_law_modulus sc_law_modulus (fun f cdv A outer s H E hr => (qss_one (qs_ret (qe_ix o_ix (qe_lst (qa_cons qe_int (qa_cons qe_int (qa_cons qe_int (qa_cons qe_int (qa_cons qe_int (qa_cons qe_int (qa_cons qe_int (qa_cons qe_int (qa_cons qe_int (qa_cons (qe_op o_add qe_int (qe_call h_law_draw (spOkS _) (hr.mono (by omega)) (takes_of rfl rfl rfl rfl) (qa_cons (qe_var 0) (qa_cons qe_int qa_nil)))) qa_nil))))))))))) (qe_call h_law_draw (spOkS _) (hr.mono (by omega)) (takes_of rfl rfl rfl rfl) (qa_cons (qe_var 0) (qa_cons qe_int qa_nil)))))))
theorem sc_law_residues : FnScope ["pen", "q", "many", "k"] ["pen", "q", "many"] (defScope (top 19)) := ⟨rfl, rfl, rfl, by decide +kernel, rfl, by decide +kernel, by decide +kernel⟩
theorem ok_law_residues (T : Txt w K mg) (h_law_draw : HasFn P w K mg base "_law_draw" 2 (spS K mg G_law_draw)) : HasFn P w K mg base "_law_residues" 3 (spS K mg G_law_residues) := by
  have nd := sc_law_residues.nd
  exact hasS (k := 2) T.d_law_residues sc_law_residues (fun f cdv A outer s H E hr => (qss_one (qs_ret (qe_callTy o_tuple T.b_tuple (qa_cons (qe_lc finL_ok rfl nd (blkOk_by (own := [("k", 3)]) (N := ["pen", "q", "many", "k"]) (sc := defScope (top 19)) (by decide +kernel)) rfl (qi_range1 T.b_range (qa_cons (qe_var 2) qa_nil)) (fun _ _ _ _ _ => pg_name nd rfl (by first | exact .inl rfl | exact .inr rfl)) (fun _ _ _ _ _ => qts_nil) (fun _ _ _ _ _ => (qe_call h_law_draw (spOkS _) (hr.mono (by omega)) takes0 (qa_cons (qe_var 0) (qa_cons (qe_var 1) qa_nil))))) qa_nil)))))
theorem sc_law_variable : FnScope ["pen", "letters", "k"] ["pen"] (defScope (top 20)) := ⟨rfl, rfl, rfl, by decide +kernel, rfl, by decide +kernel, by decide +kernel⟩
theorem ok_law_variable (T : Txt w K mg) (h_law_draw : HasFn P w K mg base "_law_draw" 2 (spS K mg G_law_draw)) : HasFn P w K mg base "_law_variable" 3 (spS K mg G_law_variable) := by
  have nd := sc_law_variable.nd
  exact hasS (k := 2) T.d_law_variable sc_law_variable (fun f cdv A outer s H E hr => (qss_cons (qs_set nd (qe_ix o_ix (qe_lst (qa_cons (qe_str (i := [97, 98, 122])) (qa_cons (qe_str (i := [97, 98, 99, 100, 101, 102, 103, 104, 105, 106, 107, 108, 109, 110, 111, 112, 113, 114, 115, 116, 117, 118, 119, 120, 121, 122])) qa_nil))) (qe_call h_law_draw (spOkS _) (hr.mono (by omega)) (takes_of rfl rfl rfl rfl) (qa_cons (qe_var 0) (qa_cons qe_int qa_nil)))))
      (qss_one (qs_ret (qe_bm PySem.F.plainAttrs_str PySem.F.slot_str_join PySem.F.type_str_join o_join ty_str (qe_str (i := [])) (qa_cons (qe_lc finL_ok rfl nd (blkOk_by (own := [("k", 2)]) (N := ["pen", "letters", "k"]) (sc := defScope (top 20)) (by decide +kernel)) rfl (qi_range1 T.b_range (qa_cons (qe_op o_add qe_int (qe_call h_law_draw (spOkS _) (hr.mono (by omega)) (takes_of rfl rfl rfl rfl) (qa_cons (qe_var 0) (qa_cons qe_int qa_nil)))) qa_nil)) (fun _ _ _ _ _ => pg_name nd rfl (by first | exact .inl rfl | exact .inr rfl)) (fun _ _ _ _ _ => qts_nil) (fun _ _ _ _ _ => (qe_ix o_ix (qe_var 1) (qe_call h_law_draw (spOkS _) (hr.mono (by omega)) takes0 (qa_cons (qe_var 0) (qa_cons (qe_callB o_len T.b_len (qa_cons (qe_var 1) qa_nil)) qa_nil)))))) qa_nil))))))
theorem sc_law : FnScope ["script", "pen", "every", "letter", "turn", "q", "numbers", "line", "residue", "values", "k", "before", "page", "name", "found"] ["script"] (defScope (top 21)) := ⟨rfl, rfl, rfl, by decide +kernel, rfl, by decide +kernel, by decide +kernel⟩
theorem ok_law {f : Addr} {fd : FuncData} (F : Fun K "law" "law" (top 21) f fd) (T : Txt w K mg) (h_format_residues : HasFn P w K mg base "format_residues" 1 (spP K mg G_format_residues) ∧ HasFnK P w K mg base "format_residues" 1 (spP K mg G_format_residues) ["residues"] [0]) (h_format_assignment : HasFn P w K mg base "format_assignment" 1 (spS K mg G_format_assignment) ∧ HasFnK P w K mg base "format_assignment" 1 (spS K mg G_format_assignment) ["assignment"] [0]) (h_parse_residues : HasFn P w K mg base "parse_residues" 2 (spP K mg G_parse_residues) ∧ HasFnK P w K mg base "parse_residues" 2 (spP K mg G_parse_residues) ["modulus", "text"] [1, 0]) (h_parse_assignment : HasFn P w K mg base "parse_assignment" 2 (spS K mg G_parse_assignment) ∧ HasFnK P w K mg base "parse_assignment" 2 (spS K mg G_parse_assignment) ["modulus", "text"] [1, 0]) (h_law_pen : HasFn P w K mg base "_law_pen" 1 (spS K mg G_law_pen)) (h_law_draw : HasFn P w K mg base "_law_draw" 2 (spS K mg G_law_draw)) (h_law_modulus : HasFn P w K mg base "_law_modulus" 3 (spS K mg G_law_modulus)) (h_law_residues : HasFn P w K mg base "_law_residues" 3 (spS K mg G_law_residues)) (h_law_variable : HasFn P w K mg base "_law_variable" 3 (spS K mg G_law_variable)) : AtTop P w K mg base f fd "script" (spS K mg (fnS 1 15 g_law)) := by
  have nd := sc_law.nd
  exact atTop (k := 3) F sc_law ⟨rfl, by decide, by decide⟩ (fun cdv s H E hr => (qss_cons (qs_set nd (qe_call h_law_pen (spOkS _) (hr.mono (by omega)) (takes_of rfl rfl rfl rfl) (qa_cons (qe_var 0) qa_nil)))
      (qss_cons (qs_set nd (qe_bm PySem.F.plainAttrs_str PySem.F.slot_str_join PySem.F.type_str_join o_join ty_str (qe_str (i := [32])) (qa_cons (qe_lc finL_ok rfl nd (blkOk_by (own := [("letter", 3)]) (N := ["script", "pen", "every", "letter", "turn", "q", "numbers", "line", "residue", "values", "k", "before", "page", "name", "found"]) (sc := defScope (top 21)) (by decide +kernel)) rfl (qi_any (qe_str (i := [97, 98, 99, 100, 101, 102, 103, 104, 105, 106, 107, 108, 109, 110, 111, 112, 113, 114, 115, 116, 117, 118, 119, 120, 121, 122]))) (fun _ _ _ _ _ => pg_name nd rfl (by first | exact .inl rfl | exact .inr rfl)) (fun _ _ _ _ _ => qts_nil) (fun _ _ _ _ _ => (qe_op o_add (qe_var 3) (qe_str (i := [61, 49]))))) qa_nil)))
      (qss_cons (qs_if (qt_cmp (o_ne hr) (qe_call h_format_assignment.1 (spOkS _) (hr.mono (by omega)) (takes_of rfl rfl rfl rfl) (qa_cons (qe_call h_parse_assignment.1 (spOkS _) (hr.mono (by omega)) (takes_of rfl rfl rfl rfl) (qa_cons (qe_var 2) (qa_cons qe_int qa_nil))) qa_nil)) (qe_var 2)) (qss_one (qs_ret qe_bl)) qss_nil)
      (qss_cons (qs_for (passes_of rfl) rfl (qi_range1 T.b_range (qa_cons qe_int qa_nil)) (qg_name nd) (qss_cons (qs_set nd (qe_call h_law_modulus (spOkS _) (hr.mono (by omega)) (takes_of rfl rfl rfl rfl) (qa_cons (qe_var 1) qa_nil)))
      (qss_cons (qs_set nd (qe_call h_law_residues (spOkS _) (hr.mono (by omega)) (takes_of rfl rfl rfl rfl) (qa_cons (qe_var 1) (qa_cons (qe_var 5) (qa_cons (qe_ix o_ix (qe_lst (qa_cons qe_int (qa_cons qe_int (qa_cons (qe_call h_law_draw (spOkS _) (hr.mono (by omega)) (takes_of rfl rfl rfl rfl) (qa_cons (qe_var 1) (qa_cons qe_int qa_nil))) (qa_cons qe_int qa_nil))))) (qe_call h_law_draw (spOkS _) (hr.mono (by omega)) (takes_of rfl rfl rfl rfl) (qa_cons (qe_var 1) (qa_cons qe_int qa_nil)))) qa_nil)))))
      (qss_cons (qs_set nd (qe_if (qt_cmp (o_ne hr) (qe_var 6) (qe_tup qa_nil)) (qe_bm PySem.F.plainAttrs_str PySem.F.slot_str_join PySem.F.type_str_join o_join ty_str (qe_str (i := [32])) (qa_cons (qe_lc finL_ok rfl nd (blkOk_by (own := [("residue", 8)]) (N := ["script", "pen", "every", "letter", "turn", "q", "numbers", "line", "residue", "values", "k", "before", "page", "name", "found"]) (sc := defScope (top 21)) (by decide +kernel)) rfl (qi_any (qe_var 6)) (fun _ _ _ _ _ => pg_name nd rfl (by first | exact .inl rfl | exact .inr rfl)) (fun _ _ _ _ _ => qts_nil) (fun _ _ _ _ _ => (qe_callTy o_str T.b_str (qa_cons (qe_var 8) qa_nil)))) qa_nil)) (qe_str (i := [45]))))
      (qss_cons (qs_if (qt_w (qw_or (qt_cmp (o_ne hr) (qe_call h_format_residues.1 (spOkP _) (hr.mono (by omega)) (takes_of rfl rfl rfl rfl) (qa_cons (qe_var 6) qa_nil)) (qe_var 7)) (qt_or1 (qt_cmp (o_ne hr) (qe_callK (ks := ["residues"]) (ix := [0]) h_format_residues.2 (spOkP _) (hr.mono (by omega)) (takes_of rfl rfl rfl rfl) (qk_cons (qe_var 6) qk_nil)) (qe_var 7))))) (qss_one (qs_ret qe_bl)) qss_nil)
      (qss_cons (qs_if (qt_w (qw_or (qt_cmp (o_ne hr) (qe_callB (o_reprX hr rfl) T.b_repr (qa_cons (qe_call h_parse_residues.1 (spOkP _) (hr.mono (by omega)) (takes_of rfl rfl rfl rfl) (qa_cons (qe_var 7) (qa_cons (qe_var 5) qa_nil))) qa_nil)) (qe_callB (o_reprX hr rfl) T.b_repr (qa_cons (qe_var 6) qa_nil))) (qt_or1 (qt_cmp (o_ne hr) (qe_callK (ks := ["modulus", "text"]) (ix := [1, 0]) h_parse_residues.2 (spOkP _) (hr.mono (by omega)) (takes_of rfl rfl rfl rfl) (qk_cons (qe_var 5) (qk_cons (qe_var 7) qk_nil))) (qe_var 6))))) (qss_one (qs_ret qe_bl)) qss_nil)
      (qss_cons (qs_set nd qe_newK)
      (qss_cons (qs_for (passes_of rfl) rfl (qi_range1 T.b_range (qa_cons (qe_call h_law_draw (spOkS _) (hr.mono (by omega)) (takes_of rfl rfl rfl rfl) (qa_cons (qe_var 1) (qa_cons qe_int qa_nil))) qa_nil)) (qg_name nd) (qss_one (qs_asg (qe_call h_law_draw (spOkS _) (hr.mono (by omega)) (takes_of rfl rfl rfl rfl) (qa_cons (qe_var 1) (qa_cons (qe_var 5) qa_nil))) (qg_sub (o_setD hr) (qe_var 9) (qe_call h_law_variable (spOkS _) (hr.mono (by omega)) (takes_of rfl rfl rfl rfl) (qa_cons (qe_var 1) qa_nil))))))
      (qss_cons (qs_set nd (qe_callB (o_reprX hr rfl) T.b_repr (qa_cons (qe_var 9) qa_nil)))
      (qss_cons (qs_set nd (qe_if (qt_cmp (o_neI hr) (qe_var 9) qe_newK) (qe_bm PySem.F.plainAttrs_str PySem.F.slot_str_join PySem.F.type_str_join o_join ty_str (qe_str (i := [32])) (qa_cons (qe_lc finL_ok rfl nd (blkOk_by (own := [("name", 13)]) (N := ["script", "pen", "every", "letter", "turn", "q", "numbers", "line", "residue", "values", "k", "before", "page", "name", "found"]) (sc := defScope (top 21)) (by decide +kernel)) rfl (qi_any (qe_callB (o_sortS newL rfl) T.b_sorted (qa_cons (qe_var 9) qa_nil))) (fun _ _ _ _ _ => pg_name nd rfl (by first | exact .inl rfl | exact .inr rfl)) (fun _ _ _ _ _ => qts_nil) (fun _ _ _ _ _ => (qe_op o_add (qe_op o_add (qe_var 13) (qe_str (i := [61]))) (qe_callTy o_str T.b_str (qa_cons (qe_dget hr (qe_var 9) (qe_var 13)) qa_nil))))) qa_nil)) (qe_str (i := [45]))))
      (qss_cons (qs_if (qt_w (qw_or (qt_cmp (o_ne hr) (qe_call h_format_assignment.1 (spOkS _) (hr.mono (by omega)) (takes_of rfl rfl rfl rfl) (qa_cons (qe_var 9) qa_nil)) (qe_var 12)) (qw_or (qt_cmp (o_ne hr) (qe_callK (ks := ["assignment"]) (ix := [0]) h_format_assignment.2 (spOkS _) (hr.mono (by omega)) (takes_of rfl rfl rfl rfl) (qk_cons (qe_var 9) qk_nil)) (qe_var 12)) (qt_or1 (qt_cmp (o_ne hr) (qe_callB (o_reprX hr rfl) T.b_repr (qa_cons (qe_var 9) qa_nil)) (qe_var 11)))))) (qss_one (qs_ret qe_bl)) qss_nil)
      (qss_cons (qs_set nd (qe_call h_parse_assignment.1 (spOkS _) (hr.mono (by omega)) (takes_of rfl rfl rfl rfl) (qa_cons (qe_var 12) (qa_cons (qe_var 5) qa_nil))))
      (qss_cons (qs_if (qt_cmp (o_ne hr) (qe_callB (o_reprX hr rfl) T.b_repr (qa_cons (qe_listItems rfl T.b_list (qe_var 14)) qa_nil)) (qe_callB (o_reprX hr rfl) T.b_repr (qa_cons (qe_sortItems rfl T.b_sorted (qe_var 9)) qa_nil))) (qss_one (qs_ret qe_bl)) qss_nil)
      (qss_cons (qs_asg qe_int (qg_sub (o_setD hr) (qe_var 14) (qe_str (i := [101, 120, 116, 114, 97]))))
      (qss_one (qs_if (qt_cmp (o_neI hr) (qe_callK (ks := ["modulus", "text"]) (ix := [1, 0]) h_parse_assignment.2 (spOkS _) (hr.mono (by omega)) (takes_of rfl rfl rfl rfl) (qk_cons (qe_var 5) (qk_cons (qe_var 12) qk_nil))) (qe_var 9)) (qss_one (qs_ret qe_bl)) qss_nil))))))))))))))))
      (qss_one (qs_ret qe_bl)))))))
/-- all defs, from the text's facts -/
theorem all_ok {f : Addr} {fd : FuncData} (F : Fun K "law" "law" (top 21) f fd) (T : Txt w K mg) : AtTop P w K mg base f fd "script" (spS K mg (fnS 1 15 g_law)) := by
  have h_format_residues : HasFn P w K mg base "format_residues" 1 (spP K mg G_format_residues) ∧ HasFnK P w K mg base "format_residues" 1 (spP K mg G_format_residues) ["residues"] [0] := ok_format_residues T 
  have h_format_assignment : HasFn P w K mg base "format_assignment" 1 (spS K mg G_format_assignment) ∧ HasFnK P w K mg base "format_assignment" 1 (spS K mg G_format_assignment) ["assignment"] [0] := ok_format_assignment T 
  have h_read_residue : HasFn P w K mg base "read_residue" 1 (spP K mg G_read_residue) := ok_read_residue T 
  have h_is_empty_mark : HasFn P w K mg base "is_empty_mark" 1 (spP K mg G_is_empty_mark) := ok_is_empty_mark T 
  have h_parse_residues : HasFn P w K mg base "parse_residues" 2 (spP K mg G_parse_residues) ∧ HasFnK P w K mg base "parse_residues" 2 (spP K mg G_parse_residues) ["modulus", "text"] [1, 0] := ok_parse_residues T h_read_residue h_is_empty_mark
  have h_read_name_after : HasFn P w K mg base "read_name_after" 1 (spP K mg G_read_name_after) := ok_read_name_after T 
  have h_parse_assignment : HasFn P w K mg base "parse_assignment" 2 (spS K mg G_parse_assignment) ∧ HasFnK P w K mg base "parse_assignment" 2 (spS K mg G_parse_assignment) ["modulus", "text"] [1, 0] := ok_parse_assignment T h_read_residue h_is_empty_mark h_read_name_after
  have h_law_pen : HasFn P w K mg base "_law_pen" 1 (spS K mg G_law_pen) := ok_law_pen T 
  have h_law_fresh : HasFn P w K mg base "_law_fresh" 1 (spS K mg G_law_fresh) := ok_law_fresh T 
  have h_law_draw : HasFn P w K mg base "_law_draw" 2 (spS K mg G_law_draw) := ok_law_draw T h_law_fresh
  have h_law_modulus : HasFn P w K mg base "_law_modulus" 3 (spS K mg G_law_modulus) := ok_law_modulus T h_law_draw
  have h_law_residues : HasFn P w K mg base "_law_residues" 3 (spS K mg G_law_residues) := ok_law_residues T h_law_draw
  have h_law_variable : HasFn P w K mg base "_law_variable" 3 (spS K mg G_law_variable) := ok_law_variable T h_law_draw
  exact ok_law F T h_format_residues h_format_assignment h_parse_residues h_parse_assignment h_law_pen h_law_draw h_law_modulus h_law_residues h_law_variable
end
end TheText

/-! the law's pen: draws (the same text in many laws) -/
namespace TheText
open PySem L2 MK
def PenOb (o : Ob) : Prop := ∃ (zs : List Int) (at_ : Nat) (acc : Int), o = .lst [.val (.lst (zs.map .int)), .val (.int at_), .val (.int acc)]
def PenAt (S : Sto) (k : Nat) : Prop := ∃ o, S[k]? = some o ∧ PenOb o
abbrev loopB : XS := (sSeq (sSet 4 ((eBin fMod ((eBin fAdd ((eBin fAdd ((eBin fMul (eVar 4) (eVar 4))) ((eBin fMul ((eBin fMul (eC (.int 69621)) ((eBin fAdd (eVar 6) (eC (.int 1)))))) ((eBin fAdd (eVar 1) (eC (.int 1)))))))) (eVar 2))) (eVar 3))))
    (sSet 5 ((eBin fAdd ((eBin fMul (eVar 5) (eVar 3))) (eVar 4)))))
theorem fresh_ok {S : Sto} {k : Nat} (hp : PenAt S k) : ∃ d o, PenOb o ∧ G_law_fresh [.loc k] S = .ok (.val (.int d)) (S.set k o) := by
  obtain ⟨_, h, zs, at_, acc, rfl⟩ := hp
  obtain ⟨o', eo⟩ : ∃ o', o' = Ob.lst [.val (.lst (zs.map .int)), .val (.int ((at_ + 1 : Nat) : Int)), .val (.int acc)] := ⟨_, rfl⟩
  obtain ⟨S', eS⟩ : ∃ S', S' = S.set k o' := ⟨_, rfl⟩
  have ho : seqOf S' (.loc k) = some (.l, [.val (.lst (zs.map .int)), .val (.int ((at_ + 1 : Nat) : Int)), .val (.int acc)]) := by subst eS; exact seqOf_loc (by rw [lset h, eo])
  have e1 : fSetL (.loc k) (.val (.int 1)) (.val (.int ((at_ : Int) + 1))) S = .ok () S' := by subst eS eo; exact fSetL_nat h 1 (by simp) _
  have p0 : ∀ {x y z : Mv}, atI [x, y, z] 0 = some x := rfl
  have p1 : ∀ {x y z : Mv}, atI [x, y, z] 1 = some y := rfl
  suffices q : ∃ d, G_law_fresh [.loc k] S = .ok (.val (.int d)) S' by
    obtain ⟨d, q⟩ := q
    exact ⟨d, o', ⟨zs, at_ + 1, acc, eo⟩, by rw [← eS]; exact q⟩
  have ec : ∃ cell : Int, (if (!zs.isEmpty) = true then (fMod (.val (.int at_)) (.val (.int zs.length)) S').bind fun i S1 => fIx (.val (.lst (zs.map .int))) i S1 else .ok (.val (.int 0)) S') = .ok (.val (.int cell)) S' := by
    cases zs with
    | nil => exact ⟨0, rfl⟩
    | cons z zs =>
      have : at_ % (z :: zs).length < (z :: zs).length := Nat.mod_lt _ (by simp)
      refine ⟨(z :: zs)[at_ % (z :: zs).length], ?_⟩
      rw [if_pos (show (!(z :: zs).isEmpty) = true from rfl), fMod_ok (Int.natCast_pos.mpr (by simp)), Rz.bind_ok, fIx_lst]
      rw [show ((at_ : Int) % ((z :: zs).length : Int)) = ((at_ % (z :: zs).length : Nat) : Int) from (Int.natCast_emod _ _).symm, atI_n]
      simp only [List.getElem?_map, List.getElem?_eq_getElem this, Option.map_some]
  obtain ⟨cell, ec⟩ := ec
  simp only [G_law_fresh, fnS, g_law_fresh, List.length_cons, List.length_nil, if_true, List.map_cons, List.map_nil, List.replicate, List.cons_append, List.nil_append]
  rw [seq_nx (ρ1 := [some (.loc k), some (.val (.int at_)), none, none, none, none, none]) (S1 := S) ?s1]
  case s1 => simp [seqOf_loc h, p1]
  rw [seq_nx (ρ1 := [some (.loc k), some (.val (.int at_)), none, none, none, none, none]) (S1 := S') ?s2]
  case s2 => simp [e1]
  rw [seq_nx (ρ1 := [some (.loc k), some (.val (.int at_)), some (.val (.int 0)), none, none, none, none]) (S1 := S') ?s3]
  case s3 => simp
  rw [seq_nx (ρ1 := [some (.loc k), some (.val (.int at_)), some (.val (.int cell)), none, none, none, none]) (S1 := S') ?s4]
  case s4 =>
    simp only [sIf_eq, xB_eq, eBin_eq, eVar_eq, eC_eq, eMk_eq, aNil_eq, aCons_eq, List.getElem?_cons_zero, List.getElem?_cons_succ, Rz.bind_ok, fIx_loc, ho, p0, mkLst_nil, ne_nil, Rz.thn_ok, sSet_eq, sNil_eq, fLen_lst, List.length_map]
    revert ec
    cases (!zs.isEmpty) with
    | false => intro ec; cases ec; rfl
    | true =>
      intro ec
      rw [if_pos rfl] at ec
      simp only [ec, Rz.thn_ok, List.set_cons_succ, List.set_cons_zero]
  by_cases hr : (at_ : Int) < (zs.length : Int) ∧ 1000000000000000000 ≤ cell
  · rw [seq_ret (m := .val (.int (cell - 1000000000000000000))) (S1 := S') ?s5]
    · exact ⟨_, rfl⟩
    case s5 => simp [ho, p0, pow18, hr.1, hr.2]
  rw [seq_nx (ρ1 := [some (.loc k), some (.val (.int at_)), some (.val (.int cell)), none, none, none, none]) (S1 := S') ?s6]
  case s6 =>
    by_cases h1 : (at_ : Int) < (zs.length : Int)
    · have h2 : ¬ (1000000000000000000 ≤ cell) := fun q => hr ⟨h1, q⟩
      simp [ho, p0, pow18, h1, h2]
    · simp [ho, p0, h1]
  clear hr ec
  rw [seq_nx (ρ1 := [some (.loc k), some (.val (.int at_)), some (.val (.int cell)), some (.val (.int 2305843009213693951)), none, none, none]) (S1 := S') ?s7]
  case s7 => simp
  obtain ⟨st, es⟩ : ∃ st, st = (cell * 48271 + 40692 * at_ + 31) % 2305843009213693951 := ⟨_, rfl⟩
  have g0 : 0 ≤ st := by rw [es]; exact Int.emod_nonneg _ (by decide)
  have g1 : st < 2305843009213693951 := by rw [es]; exact Int.emod_lt_of_pos _ (by decide)
  rw [seq_nx (ρ1 := [some (.loc k), some (.val (.int at_)), some (.val (.int cell)), some (.val (.int 2305843009213693951)), some (.val (.int st)), none, none]) (S1 := S') ?s8]
  case s8 =>
    rw [es]
    simp only [sSet_eq, eBin_eq, eVar_eq, eC_eq, List.getElem?_cons_zero, List.getElem?_cons_succ, Rz.bind_ok, fMul_r (j := 48271) (by decide) (by decide), fMul_l (i := 40692) (by decide) (by decide), fAdd_int, fMod_ok (j := 2305843009213693951) (by decide), Rz.thn_ok, List.set_cons_succ, List.set_cons_zero]
  rw [seq_nx (ρ1 := [some (.loc k), some (.val (.int at_)), some (.val (.int cell)), some (.val (.int 2305843009213693951)), some (.val (.int st)), some (.val (.int st)), none]) (S1 := S') ?s9]
  case s9 => simp
  clear es
  suffices q : ∀ fo, ∃ st1 fo1 t, (sFor (iRng1 (aCons (eC (.int 6)) (aNil))) (tgName 6) loopB) [some (.loc k), some (.val (.int at_)), some (.val (.int cell)), some (.val (.int 2305843009213693951)), some (.val (.int st)), some (.val (.int fo)), none] S' = .nx [some (.loc k), some (.val (.int at_)), some (.val (.int cell)), some (.val (.int 2305843009213693951)), some (.val (.int st1)), some (.val (.int fo1)), t] S' by
    obtain ⟨st', fo, t, q⟩ := q st
    rw [seq_nx q]
    exact ⟨fo, rfl⟩
  intro fo
  rw [sFor_eq]
  simp only [iRng1_eq, aCons_eq, aNil_eq, eC_eq, Rz.bind_ok]
  rw [if_pos (by decide)]
  simp only [Rz.thn_ok]
  obtain ⟨ρ', S'', e, st', fo', t', rfl, rfl, _⟩ := forS_inv (t := tgName 6) (g := loopB)
      (fun ρ T => ∃ (st fo : Int) (t : Option Mv), ρ = [some (.loc k), some (.val (.int at_)), some (.val (.int cell)), some (.val (.int 2305843009213693951)), some (.val (.int st)), some (.val (.int fo)), t] ∧ T = S' ∧ 0 ≤ st ∧ st < 2305843009213693951) (rangeL 0 6) (by
        intro m hm ρ T ⟨st, fo, t, e1, e2, h0, h1⟩
        subst e1 e2
        unfold rangeL at hm
        obtain ⟨i, hi, rfl⟩ := List.mem_map.mp hm
        have hi := List.mem_range.mp hi
        generalize hj : (0 + (i : Int)) = j at *
        have hj0 : 0 ≤ j ∧ j < 6 := by omega
        refine ⟨_, _, ?_, (st * st + 69621 * (j + 1) * (at_ + 1) + cell) % 2305843009213693951, fo * 2305843009213693951 + (st * st + 69621 * (j + 1) * (at_ + 1) + cell) % 2305843009213693951, some (.val (.int j)), rfl, rfl, Int.emod_nonneg _ (by decide), Int.emod_lt_of_pos _ (by decide)⟩
        simp only [tgName_eq, RS.only_nx, RS.seq_nx, List.set_cons_succ, List.set_cons_zero, loopB]
        rw [seq_nx (ρ1 := [some (.loc k), some (.val (.int at_)), some (.val (.int cell)), some (.val (.int 2305843009213693951)), some (.val (.int ((st * st + 69621 * (j + 1) * (at_ + 1) + cell) % 2305843009213693951))), some (.val (.int fo)), some (.val (.int j))]) (S1 := T) ?s1]
        case s1 =>
          simp only [sSet_eq, eBin_eq, eVar_eq, eC_eq, List.getElem?_cons_zero, List.getElem?_cons_succ, Rz.bind_ok, fAdd_int]
          rw [fMul_r (by omega) (by omega), Rz.bind_ok, fMul_l (i := 69621) (by decide) (by decide), Rz.bind_ok, fMul_l (by omega) (by omega)]
          simp only [Rz.bind_ok, fAdd_int, fMod_ok (j := 2305843009213693951) (by decide), Rz.thn_ok, List.set_cons_succ, List.set_cons_zero]
        simp only [sSet_eq, eBin_eq, eVar_eq, eC_eq, List.getElem?_cons_zero, List.getElem?_cons_succ, Rz.bind_ok, fAdd_int, fMul_r (j := 2305843009213693951) (by decide) (by decide), Rz.thn_ok, List.set_cons_succ, List.set_cons_zero]) _ _ ⟨st, fo, none, rfl, rfl, g0, g1⟩
  exact ⟨st', fo', t', e⟩
theorem draw_ok {S : Sto} {k : Nat} (hp : PenAt S k) {m : Int} (h0 : 0 < m) (h1 : m < 1073741824) : ∃ d o, PenOb o ∧ 0 ≤ d ∧ d < m ∧ G_law_draw [.loc k, .val (.int m)] S = .ok (.val (.int d)) (S.set k o) := by
  have p2 : ∀ {x y z : Mv}, atI [x, y, z] 2 = some z := rfl
  obtain ⟨S1, o1, hS1, hp1, e1⟩ : ∃ S1 o1, S1 = S.set k o1 ∧ PenOb o1 ∧ ((sIf ((xB ((eBin fLt ((eBin fIx (eVar 0) (eC (.int 2)))) (eVar 1))))) ((sAsg ((eMk G_law_fresh (aCons (eVar 0) (aNil)))) (tgSub fSetL (eVar 0) (eC (.int 2))))) (sNil)) [some (.loc k), some (.val (.int m)), none] S = .nx [some (.loc k), some (.val (.int m)), none] S1) := by
    obtain ⟨_, h, zs, at_, acc, rfl⟩ := id hp
    by_cases q : acc < m
    · obtain ⟨d, o, ho, e⟩ := fresh_ok hp
      obtain ⟨zs, at_, acc, rfl⟩ := ho
      refine ⟨_, _, rfl, ⟨zs, at_, d, rfl⟩, ?_⟩
      have e2 := fSetL_nat (lset (o' := .lst [.val (.lst (zs.map .int)), .val (.int at_), .val (.int acc)]) h) 2 (by simp) (.val (.int d))
      simp [seqOf_loc h, p2, q, e]
      rw [show (2 : Int) = ((2 : Nat) : Int) from rfl, e2]
      simp
    · refine ⟨S, _, ?_, ⟨zs, at_, acc, rfl⟩, ?_⟩
      · apply List.ext_getElem?
        intro i
        by_cases hi : k = i
        · subst hi; rw [lset h, h]
        · rw [List.getElem?_set_ne hi]
      · simp [seqOf_loc h, p2, q]
  have h : S1[k]? = some o1 := by
    obtain ⟨_, h, _⟩ := hp
    rw [hS1]; exact lset h
  obtain ⟨zs, at_, acc, rfl⟩ := hp1
  refine ⟨acc % m, _, ⟨zs, at_, acc / m, rfl⟩, Int.emod_nonneg _ (by omega), Int.emod_lt_of_pos _ h0, ?_⟩
  simp only [G_law_draw, fnS, g_law_draw, List.length_cons, List.length_nil, if_true, List.map_cons, List.map_nil, List.replicate, List.cons_append, List.nil_append]
  rw [seq_nx e1]
  have e2 := fSetL_nat h 2 (by simp) (.val (.int (acc / m)))
  have e3 : fSetL (.loc k) (.val (.int 2)) (.val (.int (acc / m))) S1 = .ok () (S.set k (.lst [.val (.lst (zs.map .int)), .val (.int at_), .val (.int (acc / m))])) := by
    rw [show (2 : Int) = ((2 : Nat) : Int) from rfl, e2, hS1]; simp
  simp only [sSeq_eq, sSet_eq, sAsg_eq, sRet_eq, tgSub_eq, eBin_eq, eVar_eq, eC_eq, List.getElem?_cons_zero, List.getElem?_cons_succ, Rz.bind_ok, fIx_loc, seqOf_loc h, p2, fMod_ok h0, fDiv_ok h0 h1, Rz.thn_ok, e3, RS.only_nx, RS.seq_nx, List.set_cons_succ, List.set_cons_zero, RS.fin_ret]
structure Pn (k : Nat) (S S' : Sto) : Prop where
  pen : PenAt S' k
  len : S'.length = S.length
  oth : ∀ i, i ≠ k → S'[i]? = S[i]?
theorem Pn.trans {k : Nat} {S S1 S2 : Sto} (a : Pn k S S1) (b : Pn k S1 S2) : Pn k S S2 := ⟨b.pen, b.len.trans a.len, fun i h => (b.oth i h).trans (a.oth i h)⟩
theorem Pn.refl {k : Nat} {S : Sto} (h : PenAt S k) : Pn k S S := ⟨h, rfl, fun _ _ => rfl⟩
theorem draw {S : Sto} {k : Nat} (hp : PenAt S k) (m : Int) (h0 : 0 < m) (h1 : m < 1073741824) : ∃ d S', 0 ≤ d ∧ d < m ∧ Pn k S S' ∧ G_law_draw [.loc k, .val (.int m)] S = .ok (.val (.int d)) S' := by
  obtain ⟨d, o, ho, a, b, e⟩ := draw_ok hp h0 h1
  obtain ⟨o1, h, _⟩ := hp
  exact ⟨d, _, a, b, ⟨⟨o, lset h, ho⟩, by simp, fun i hi => List.getElem?_set_ne (Ne.symm hi)⟩, e⟩
theorem pen_ok (zs : List Int) : ∃ o, PenOb o ∧ G_law_pen [.val (.lst (zs.map .int))] [] = .ok (.loc 0) [o] := by
  refine ⟨_, ⟨(cut zs none (some 63)), 0, 0, rfl⟩, ?_⟩
  have e : cut ((zs.map Dv.int).map Mv.val) none (some 63) = ((cut zs none (some 63)).map Dv.int).map Mv.val := by
    simp [cut, List.map_drop, List.map_take]
  have hl : (cut zs none (some 63)).length ≤ 63 := by
    unfold cut
    rw [List.length_take]
    have : HT.sIx zs.length zs.length (some 63) ≤ 63 := by
      rw [show (63 : Int) = ((63 : Nat) : Int) from rfl, HT.sIx_nat]; omega
    omega
  have hm : ∀ S, mkLst (((cut zs none (some 63)).map Dv.int).map Mv.val) S = .ok (.val (.lst ((cut zs none (some 63)).map Dv.int))) S := by
    intro S
    unfold mkLst
    rw [vals_map]
    simp only [List.length_map]
    rw [if_pos (by rw [line_is]; omega)]
  have hs : fSl mkLst (.val (.lst (zs.map .int))) none (some 63) [] = mkLst (cut ((zs.map Dv.int).map Mv.val) none (some 63)) [] := rfl
  simp only [G_law_pen, fnS, g_law_pen, List.length_cons, List.length_nil, if_true, List.map_cons, List.map_nil, List.replicate, List.cons_append, List.nil_append, sRet_eq, eMk_eq, aCons_eq, aNil_eq, eSl_eq, xoN_eq, xoS_eq, eVar_eq, eC_eq, List.getElem?_cons_zero, Rz.bind_ok, hs, e, hm, fLstOf, seqOf_lst]
  simp [mkLoc, line_is]
theorem modulus_ok {S : Sto} {k : Nat} (hp : PenAt S k) : ∃ q S', 2 ≤ q ∧ q ≤ 1000 ∧ Pn k S S' ∧ G_law_modulus [.loc k] S = .ok (.val (.int q)) S' := by
  obtain ⟨a, S1, a0, a1, p1, e1⟩ := draw hp 999 (by decide) (by decide)
  obtain ⟨b, S2, b0, b1, p2, e2⟩ := draw p1.pen 10 (by decide) (by decide)
  suffices q : ∃ q, 2 ≤ q ∧ q ≤ 1000 ∧ G_law_modulus [.loc k] S = .ok (.val (.int q)) S2 by
    obtain ⟨q, h0, h1, h2⟩ := q
    exact ⟨q, S2, h0, h1, p1.trans p2, h2⟩
  have hq : ∃ q, 2 ≤ q ∧ q ≤ 1000 ∧ atI [Mv.val (.int 2), .val (.int 3), .val (.int 4), .val (.int 5), .val (.int 6), .val (.int 7), .val (.int 12), .val (.int 97), .val (.int 1000), .val (.int (2 + a))] b = some (.val (.int q)) := by
    rcases i10 b0 b1 with rfl | rfl | rfl | rfl | rfl | rfl | rfl | rfl | rfl | rfl
    all_goals exact ⟨_, by omega, by omega, rfl⟩
  obtain ⟨q, h0, h1, hq⟩ := hq
  refine ⟨q, h0, h1, ?_⟩
  simp [G_law_modulus, fnS, g_law_modulus, e1, e2, mkLst, hq, line_is]
end TheText

/-! the loops' parts, printed from the body's text -/
namespace TheText
open PySem L2 MK
noncomputable abbrev wc_read_residue : XT := ((xAnd ((xB ((eBin fLt (eVar 4) ((eMk fLen (aCons (eVar 0) (aNil)))))))) ((xB ((eBin (fInS false) ((eBin fIx (eVar 0) (eVar 4))) (eC (.str [48, 49, 50, 51, 52, 53, 54, 55, 56, 57]))))))))
noncomputable abbrev wb_read_residue : XS := ((sSeq (sSet 5 ((eBin fAdd ((eBin fMul (eC (.int 10)) (eVar 3))) ((eMk fIntOf (aCons ((eBin fIx (eVar 0) (eVar 4))) (aNil)))))))
    (sSeq (sIf ((xOr ((xB ((eBin fEq (eVar 3) (eC (.int 0)))))) ((xB ((eBin fGe (eVar 5) (eVar 2))))))) (sNever) (sNil))
    (sSeq (sSet 3 (eVar 5))
    (sAug 4 fAddI (eC (.int 1)))))))
noncomputable abbrev wc_parse_residues : XT := ((xT (eC (.bl true))))
noncomputable abbrev wb_parse_residues : XS := ((sSeq (sAsg ((eMk (callP G_read_residue) (aCons (eVar 0) (aCons (eVar 3) (aCons (eVar 1) (aNil)))))) (tgTup 2 (tgsCons (tgName 4) (tgsCons (tgName 3) tgsNil))))
    (sSeq (sExpr ((eBm fAppend isLst (eVar 2) (aCons (eVar 4) (aNil)))))
    (sSeq (sIf ((xB ((eBin fEq (eVar 3) ((eMk fLen (aCons (eVar 0) (aNil)))))))) ((sRet ((eMk fTupOf (aCons (eVar 2) (aNil)))))) (sNil))
    (sSeq (sIf ((xB ((eBin fNe ((eBin fIx (eVar 0) (eVar 3))) (eC (.str [32])))))) (sNever) (sNil))
    (sAug 3 fAddI (eC (.int 1))))))))
noncomputable abbrev wc_read_name_after : XT := ((xAnd ((xB ((eBin fLt (eVar 3) ((eMk fLen (aCons (eVar 0) (aNil)))))))) ((xB ((eBin (fInS false) ((eBin fIx (eVar 0) (eVar 3))) (eC (.str [97, 98, 99, 100, 101, 102, 103, 104, 105, 106, 107, 108, 109, 110, 111, 112, 113, 114, 115, 116, 117, 118, 119, 120, 121, 122]))))))))
noncomputable abbrev wb_read_name_after : XS := ((sSeq (sSet 4 ((eBin fAdd ((eSl mkLst (eVar 0) (xoS (eVar 1)) (xoS ((eBin fAdd (eVar 3) (eC (.int 1))))))) ((eSl mkLst (eC (.str [122, 122, 122, 122, 122, 122])) (xoS ((eBin fSub ((eBin fAdd (eVar 3) (eC (.int 1)))) (eVar 1)))) xoN)))))
    (sSeq (sIf ((xOr ((xB ((eBin fGt ((eMk fLen (aCons (eVar 4) (aNil)))) (eC (.int 6)))))) ((xB ((eBin fLeS (eVar 4) (eVar 2))))))) (sNever) (sNil))
    (sAug 3 fAddI (eC (.int 1))))))
noncomputable abbrev wc_parse_assignment : XT := ((xT (eC (.bl true))))
noncomputable abbrev wb_parse_assignment : XS := ((sSeq (sAsg ((eMk (callP G_read_name_after) (aCons (eVar 0) (aCons (eVar 4) (aCons (eVar 3) (aNil)))))) (tgTup 2 (tgsCons (tgName 3) (tgsCons (tgName 4) tgsNil))))
    (sSeq (sAsg ((eMk (callP G_read_residue) (aCons (eVar 0) (aCons ((eBin fAdd (eVar 4) (eC (.int 1)))) (aCons (eVar 1) (aNil)))))) (tgTup 2 (tgsCons (tgSub fSetD (eVar 2) (eVar 3)) (tgsCons (tgName 4) tgsNil))))
    (sSeq (sIf ((xB ((eBin fEq (eVar 4) ((eMk fLen (aCons (eVar 0) (aNil)))))))) ((sRet (eVar 2))) (sNil))
    (sSeq (sIf ((xOr ((xB ((eBin fNe ((eBin fIx (eVar 0) (eVar 4))) (eC (.str [32])))))) ((xB ((eBin fEq (eVar 3) (eC (.str [122, 122, 122, 122, 122, 122])))))))) (sNever) (sNil))
    (sAug 4 fAddI (eC (.int 1))))))))
noncomputable abbrev fb_law_fresh : XS := ((sSeq (sSet 4 ((eBin fMod ((eBin fAdd ((eBin fAdd ((eBin fMul (eVar 4) (eVar 4))) ((eBin fMul ((eBin fMul (eC (.int 69621)) ((eBin fAdd (eVar 6) (eC (.int 1)))))) ((eBin fAdd (eVar 1) (eC (.int 1)))))))) (eVar 2))) (eVar 3))))
    (sSet 5 ((eBin fAdd ((eBin fMul (eVar 5) (eVar 3))) (eVar 4))))))
noncomputable abbrev fb_law : XS := ((sSeq (sSet 5 ((eMk G_law_modulus (aCons (eVar 1) (aNil)))))
    (sSeq (sSet 6 ((eMk G_law_residues (aCons (eVar 1) (aCons (eVar 5) (aCons ((eBin fIx ((eMk mkLst (aCons (eC (.int 0)) (aCons (eC (.int 1)) (aCons ((eMk G_law_draw (aCons (eVar 1) (aCons (eC (.int 9)) (aNil))))) (aCons (eC (.int 200)) (aNil))))))) ((eMk G_law_draw (aCons (eVar 1) (aCons (eC (.int 4)) (aNil))))))) (aNil)))))))
    (sSeq (sSet 7 ((eIf ((xB ((eBin fNe (eVar 6) ((eMk mkTup (aNil))))))) ((eBm fJoin isStr (eC (.str [32])) (aCons ((eLc finL (iAny (eVar 6)) (.one 8) (xYes) ((eMk fStr (aCons (eVar 8) (aNil)))))) (aNil)))) (eC (.str [45])))))
    (sSeq (sIf ((xOr ((xB ((eBin fNe ((eMk (callP G_format_residues) (aCons (eVar 6) (aNil)))) (eVar 7))))) ((xB ((eBin fNe ((eMk (kwF 1 [0] (callP G_format_residues)) (aCons (eVar 6) (aNil)))) (eVar 7))))))) ((sRet (eC (.bl false)))) (sNil))
    (sSeq (sIf ((xOr ((xB ((eBin fNe ((eMk fReprX (aCons ((eMk (callP G_parse_residues) (aCons (eVar 7) (aCons (eVar 5) (aNil))))) (aNil)))) ((eMk fReprX (aCons (eVar 6) (aNil)))))))) ((xB ((eBin fNe ((eMk (kwF 2 [1, 0] (callP G_parse_residues)) (aCons (eVar 5) (aCons (eVar 7) (aNil))))) (eVar 6))))))) ((sRet (eC (.bl false)))) (sNil))
    (sSeq (sSet 9 (eNewK))
    (sSeq (sFor (iRng1 (aCons ((eMk G_law_draw (aCons (eVar 1) (aCons (eC (.int 7)) (aNil))))) (aNil))) (tgName 10) ((sAsg ((eMk G_law_draw (aCons (eVar 1) (aCons (eVar 5) (aNil))))) (tgSub fSetD (eVar 9) ((eMk G_law_variable (aCons (eVar 1) (aNil))))))))
    (sSeq (sSet 11 ((eMk fReprX (aCons (eVar 9) (aNil)))))
    (sSeq (sSet 12 ((eIf ((xB ((eBin (fEqI true) (eVar 9) (eNewK))))) ((eBm fJoin isStr (eC (.str [32])) (aCons ((eLc finL (iAny ((eMk (fSortS mkLst) (aCons (eVar 9) (aNil))))) (.one 13) (xYes) ((eBin fAdd ((eBin fAdd (eVar 13) (eC (.str [61])))) ((eMk fStr (aCons ((eBin fDGet (eVar 9) (eVar 13))) (aNil)))))))) (aNil)))) (eC (.str [45])))))
    (sSeq (sIf ((xOr ((xB ((eBin fNe ((eMk G_format_assignment (aCons (eVar 9) (aNil)))) (eVar 12))))) ((xOr ((xB ((eBin fNe ((eMk (kwF 1 [0] G_format_assignment) (aCons (eVar 9) (aNil)))) (eVar 12))))) ((xB ((eBin fNe ((eMk fReprX (aCons (eVar 9) (aNil)))) (eVar 11))))))))) ((sRet (eC (.bl false)))) (sNil))
    (sSeq (sSet 14 ((eMk G_parse_assignment (aCons (eVar 12) (aCons (eVar 5) (aNil))))))
    (sSeq (sIf ((xB ((eBin fNe ((eMk fReprX (aCons ((eListItems (eVar 14))) (aNil)))) ((eMk fReprX (aCons ((eSortItems (eVar 9))) (aNil)))))))) ((sRet (eC (.bl false)))) (sNil))
    (sSeq (sAsg (eC (.int 0)) (tgSub fSetD (eVar 14) (eC (.str [101, 120, 116, 114, 97]))))
    (sIf ((xB ((eBin (fEqI true) ((eMk (kwF 2 [1, 0] G_parse_assignment) (aCons (eVar 5) (aCons (eVar 12) (aNil))))) (eVar 9))))) ((sRet (eC (.bl false)))) (sNil))))))))))))))))
noncomputable abbrev fb_law1 : XS := ((sAsg ((eMk G_law_draw (aCons (eVar 1) (aCons (eVar 5) (aNil))))) (tgSub fSetD (eVar 9) ((eMk G_law_variable (aCons (eVar 1) (aNil)))))))
end TheText

/-! read_residue -/
namespace TheText
open PySem L2 MK

/-- no digit ahead -/
def NoDg (r : Tx) : Prop := r = [] ∨ ∃ c s, r = c :: s ∧ c ∉ tDig
theorem NoDg.dig {c : Nat} {s : Tx} (h : NoDg (c :: s)) : c ∉ tDig := by
  rcases h with h | ⟨c', s', e, h⟩
  · cases h
  · cases e; exact h
theorem rr_step {t : Tx} {s q v e d : Nat} {x : Option Mv} {r : Tx} {S : Sto} (n : Nat) (ht : t.length ≤ 16777216) (h : t.drop e = (48 + d) :: r) (hd : d < 10) (hv : v ≠ 0) (hq : 10 * v + d < q) :
    whileS (n + 1) wc_read_residue wb_read_residue [some (.val (.str t)), some (.val (.int s)), some (.val (.int q)), some (.val (.int v)), some (.val (.int e)), x] S
      = whileS n wc_read_residue wb_read_residue [some (.val (.str t)), some (.val (.int s)), some (.val (.int q)), some (.val (.int (10 * v + d : Nat))), some (.val (.int (e + 1 : Nat))), some (.val (.int (10 * v + d : Nat)))] S := by
  obtain ⟨h1, h2, h3⟩ := at_drop h
  have h2' : (e : Int) < (t.length : Int) := by omega
  have m := mem_dig hd
  have e1 : ((v : Int) == 0) = false := by simp; omega
  have e2 : decide ((q : Int) ≤ 10 * (v : Int) + (d : Int)) = false := by simp; omega
  have e3 : fMul (.val (.int 10)) (.val (.int (v : Int))) S = .ok (.val (.int (10 * (v : Int)))) S := fMul_l (by decide) (by decide)
  unfold tDig at m
  rw [whileS_succ]
  simp only [xAnd_eq, xB_eq, eBin_eq, eVar_eq, eC_eq, eMk_eq, aCons_eq, aNil_eq, List.getElem?_cons_zero, List.getElem?_cons_succ, Rz.bind_ok, fLen_str, line_is, if_pos ht, fInt_eq, if_true, decide_eq_true h2', fIx_str, atI_n, h1, fInS_eq, decide_eq_true m, Rz.thn_ok, show (true != false) = true from rfl]
  simp only [wb_read_residue, sSeq_eq, sSet_eq, eBin_eq, eVar_eq, eC_eq, eMk_eq, aCons_eq, aNil_eq, List.getElem?_cons_zero, List.getElem?_cons_succ, Rz.bind_ok, Rz.thn_ok, e3, fIx_str, line_is, if_pos ht, atI_n, h1, intOf_dig hd, fAdd_int, List.set_cons_succ, List.set_cons_zero, RS.seq_nx, sIf_eq, xOr_eq, xB_eq, fEqq_int, e1, fInt_eq, if_true, e2, sNil_eq, sAug_eq, RS.turn_nx, show (false != false) = false from rfl]
  rfl
theorem rr_stop {t : Tx} {s q v e : Nat} {x : Option Mv} {S : Sto} (n : Nat) (ht : t.length ≤ 16777216) (h : NoDg (t.drop e)) :
    whileS (n + 1) wc_read_residue wb_read_residue [some (.val (.str t)), some (.val (.int s)), some (.val (.int q)), some (.val (.int v)), some (.val (.int e)), x] S
      = .nx [some (.val (.str t)), some (.val (.int s)), some (.val (.int q)), some (.val (.int v)), some (.val (.int e)), x] S := by
  rw [whileS_succ]
  cases hr : t.drop e with
  | nil =>
    have h2 := at_end hr
    have h2' : decide ((e : Int) < (t.length : Int)) = false := by simp; omega
    simp only [xAnd_eq, xB_eq, eBin_eq, eVar_eq, eC_eq, eMk_eq, aCons_eq, aNil_eq, List.getElem?_cons_zero, List.getElem?_cons_succ, Rz.bind_ok, fLen_str, line_is, if_pos ht, fInt_eq, if_true, h2', Rz.thn_ok]
  | cons c r =>
    obtain ⟨h1, h2, h3⟩ := at_drop hr
    have h2' : (e : Int) < (t.length : Int) := by omega
    rw [hr] at h
    have m := h.dig
    unfold tDig at m
    simp only [xAnd_eq, xB_eq, eBin_eq, eVar_eq, eC_eq, eMk_eq, aCons_eq, aNil_eq, List.getElem?_cons_zero, List.getElem?_cons_succ, Rz.bind_ok, fLen_str, line_is, if_pos ht, fInt_eq, if_true, decide_eq_true h2', fIx_str, atI_n, h1, fInS_eq, decide_eq_false m, Rz.thn_ok, show (false != false) = false from rfl]
theorem residue_ok {t : Tx} {p q i : Nat} {r : Tx} (ht : t.length ≤ 16777216) (h : t.drop p = digs i ++ r) (hr : NoDg r) (hi : i < q) (hq : i < 1000) : G_read_residue [.str t, .int p, .int q] = .ok (.tup [.int i, .int (p + (digs i).length : Nat)]) := by
  suffices Q : ∃ d r1 n x, d < 10 ∧ d < q ∧ t.drop p = (48 + d) :: r1 ∧ whileS 100000 wc_read_residue wb_read_residue [some (.val (.str t)), some (.val (.int p)), some (.val (.int q)), some (.val (.int d)), some (.val (.int (p + 1 : Nat))), none] [] = whileS (n + 1) wc_read_residue wb_read_residue [some (.val (.str t)), some (.val (.int p)), some (.val (.int q)), some (.val (.int i)), some (.val (.int (p + (digs i).length : Nat))), x] [] ∧ t.drop (p + (digs i).length) = r by
    obtain ⟨d, r1, n, x, d1, d2, d3, e, hr2⟩ := Q
    obtain ⟨h1, h2, h3⟩ := at_drop d3
    rw [rr_stop n ht (by rw [hr2]; exact hr)] at e
    have m := mem_dig d1
    unfold tDig at m
    have e2 : decide ((q : Int) ≤ (d : Int)) = false := by simp; omega
    have e0 : okT [48 + d] = true := okT1 _ (by omega)
    simp only [G_read_residue, fnP, fnS, g_read_residue, List.length_cons, List.length_nil, if_true, List.map_cons, List.map_nil, List.replicate, List.cons_append, List.nil_append]
    rw [seq_nx (ρ1 := [some (.val (.str t)), some (.val (.int p)), some (.val (.int q)), none, none, none]) (S1 := []) (by
      simp only [sIf_eq, xOr_eq, xB_eq, eBin_eq, eSl_eq, xoS_eq, eVar_eq, eC_eq, eMk_eq, aCons_eq, aNil_eq, List.getElem?_cons_zero, List.getElem?_cons_succ, Rz.bind_ok, fAdd_int, fSl_str, line_is, if_pos ht, cut_at, d3, List.take_succ_cons, List.take_zero, fEqq_str false _ e0 (show okT [] = true from rfl), show (([48 + d] : Tx) == []) = false from rfl, fIx_str, atI_n, h1, fInS_eq, decide_eq_true m, intOf_dig d1, fInt_eq, if_true, e2, Rz.thn_ok, sNil_eq, show (false != false) = false from rfl, show (true != true) = false from rfl])]
    rw [seq_nx (ρ1 := [some (.val (.str t)), some (.val (.int p)), some (.val (.int q)), some (.val (.int d)), none, none]) (S1 := []) (by
      simp only [sSet_eq, eBin_eq, eVar_eq, eMk_eq, aCons_eq, aNil_eq, List.getElem?_cons_zero, List.getElem?_cons_succ, Rz.bind_ok, fIx_str, line_is, if_pos ht, atI_n, h1, intOf_dig d1, Rz.thn_ok, List.set_cons_succ, List.set_cons_zero])]
    rw [seq_nx (ρ1 := [some (.val (.str t)), some (.val (.int p)), some (.val (.int q)), some (.val (.int d)), some (.val (.int (p + 1 : Nat))), none]) (S1 := []) (by
      simp only [sSet_eq, eBin_eq, eVar_eq, eC_eq, List.getElem?_cons_zero, List.getElem?_cons_succ, Rz.bind_ok, fAdd_int, Rz.thn_ok, List.set_cons_succ, List.set_cons_zero]; rfl)]
    rw [seq_nx (ρ1 := [some (.val (.str t)), some (.val (.int p)), some (.val (.int q)), some (.val (.int i)), some (.val (.int (p + (digs i).length : Nat))), x]) (S1 := []) (show sWhile 100000 wc_read_residue wb_read_residue _ _ = _ from e)]
    simp [mkTup, line_is, Rz.pure0, rfy]
  unfold digs at h ⊢
  by_cases i1 : i < 10
  · rw [if_pos i1] at h ⊢
    obtain ⟨_, _, h3⟩ := at_drop h
    exact ⟨i, r, 99999, none, i1, hi, h, rfl, h3⟩
  rw [if_neg i1] at h ⊢
  by_cases i2 : i < 100
  · rw [if_pos i2] at h ⊢
    obtain ⟨_, _, h3⟩ := at_drop h
    obtain ⟨_, _, h4⟩ := at_drop h3
    refine ⟨i / 10, _, 99998, some (.val (.int i)), by omega, by omega, h, ?_, h4⟩
    rw [rr_step 99999 ht h3 (by omega) (by omega) (by omega), show 10 * (i / 10) + i % 10 = i by omega]
    rfl
  rw [if_neg i2] at h ⊢
  obtain ⟨_, _, h3⟩ := at_drop h
  obtain ⟨_, _, h4⟩ := at_drop h3
  obtain ⟨_, _, h5⟩ := at_drop h4
  refine ⟨i / 100, _, 99997, some (.val (.int i)), by omega, by omega, h, ?_, h5⟩
  rw [rr_step 99999 ht h3 (by omega) (by omega) (by omega), rr_step 99998 ht h4 (by omega) (by omega) (by omega), show 10 * (10 * (i / 100) + i / 10 % 10) + i % 10 = i by omega]
  rfl
end TheText

namespace MK
open PySem L2
theorem lc_map {α : Type} {i : Nat} {te : XE} {ρ : List (Option Mv)} {S : Sto} {g f : α → Mv} : ∀ (xs : List α) (acc : List Mv), (∀ x ∈ xs, te (ρ.set i (some (g x))) S = .ok (f x) S) → acc.length + xs.length ≤ 16777216 → lcS always (.one i) ρ xYes te (xs.map g) acc S = .ok (acc ++ xs.map f) S
  | [], acc, _, _ => by rw [List.map_nil, lcS_nil]; simp
  | x :: xs, acc, h, hl => by
    rw [List.map_cons, lcS_cons]
    rw [List.length_cons] at hl
    simp only [tgSet, xYes_eq, Rz.nox_ok, Rz.bind_ok, h x (by simp)]
    rw [line_is, if_pos (by omega), lc_map xs (acc ++ [f x]) (fun y hy => h y (by simp [hy])) (by simp; omega)]
    simp
theorem join_len : ∀ (xs : List Tx) (sep : Tx), (joinT sep xs).length ≤ (xs.map (·.length)).sum + xs.length * sep.length
  | [], _ => Nat.zero_le _
  | [x], _ => by simp [joinT]
  | x :: y :: r, sep => by
    have := join_len (y :: r) sep
    simp only [joinT, List.length_append, List.map_cons, List.sum_cons, List.length_cons] at this ⊢
    simp only [Nat.add_mul, Nat.one_mul] at *
    omega
theorem sum_le {α : Type} (f : α → Nat) (c : Nat) : ∀ (xs : List α), (∀ x ∈ xs, f x ≤ c) → (xs.map f).sum ≤ xs.length * c
  | [], _ => by simp
  | x :: xs, h => by
    have := sum_le f c xs fun y hy => h y (by simp [hy])
    have := h x (by simp)
    simp only [List.map_cons, List.sum_cons, List.length_cons, Nat.add_mul]
    omega
theorem fJoin_ok {sep : Tx} {xs : List Tx} {S : Sto} (h : (xs.map (·.length)).sum + xs.length * sep.length ≤ 16777216) : fJoin (.val (.str sep)) [.val (.lst (xs.map .str))] S = .ok (.val (.str (joinT sep xs))) S := by
  simp only [fJoin, seqOf_lst, vals_map, strsD_map]
  rw [if_pos h]
theorem finL_ok' {ds : List Dv} {S : Sto} (h : ds.length ≤ 16777216) : finL (ds.map .val) S = .ok (.val (.lst ds)) S := by
  unfold finL
  rw [vals_map]
end MK
namespace TheText
open PySem L2 MK
/-- the text of residues -/
def resT (ns : List Nat) : Tx := if ns = [] then [45] else joinT [32] (ns.map digs)
theorem dec_nat {n : Nat} (h : n < 1000) : dec (n : Int) = digs n := dec_digs (by omega) (by omega)
theorem res_sum (ns : List Nat) (hl : ns.length ≤ 1000) : ((ns.map digs).map (·.length)).sum + (ns.map digs).length * ([32] : Tx).length ≤ 16777216 := by
  have := sum_le (fun x : Tx => x.length) 3 (ns.map digs) (by
    intro x hx
    obtain ⟨n, _, rfl⟩ := List.mem_map.mp hx
    exact digs_len n)
  simp only [List.length_map, List.length_cons, List.length_nil] at *
  omega
theorem lc_res {ρ : List (Option Mv)} {S : Sto} {i : Nat} (ns : List Nat) (hl : ns.length ≤ 1000) (hn : ∀ n ∈ ns, n < 1000) (hi : i < ρ.length) : lcS always (.one i) ρ xYes (eMk fStr (aCons (eVar i) aNil)) ((ns.map fun n => Dv.int (n : Nat)).map .val) [] S = .ok (((ns.map digs).map Dv.str).map .val) S := by
  have := lc_map (i := i) (te := eMk fStr (aCons (eVar i) aNil)) (ρ := ρ) (S := S) (g := fun n : Nat => .val (.int (n : Int))) (f := fun n : Nat => .val (.str (digs n))) ns [] (by
    intro n h
    have := hn n h
    simp only [eMk_eq, aCons_eq, aNil_eq, eVar_eq, List.getElem?_set_self hi, Rz.bind_ok]
    rw [fStr_int (log_small (by omega) (by omega)), dec_nat this]) (by simp; omega)
  rw [List.nil_append] at this
  rw [List.map_map, List.map_map, List.map_map]
  exact this
theorem formatR_ok (ns : List Nat) (hl : ns.length ≤ 1000) (hn : ∀ n ∈ ns, n < 1000) : G_format_residues [.tup (ns.map fun n => .int (n : Nat))] = .ok (.str (resT ns)) := by
  simp only [G_format_residues, fnP, fnS, g_format_residues, List.length_cons, List.length_nil, if_true, List.map_cons, List.map_nil, List.replicate, List.cons_append, List.nil_append, sRet_eq, eIf_eq, xB_eq, eBin_eq, eMk_eq, aCons_eq, aNil_eq, eVar_eq, eC_eq, List.getElem?_cons_zero, List.getElem?_cons_succ, Rz.bind_ok, fLen_tup, fInt_eq, List.length_map]
  unfold resT
  cases ns with
  | nil => rfl
  | cons n ns =>
    have e : decide ((0 : Int) < ((n :: ns).length : Int)) = true := by simp
    rw [e, if_neg (by simp)]
    simp only [eBm_eq, eC_eq, Rz.bind_ok, show ∀ S x, isStr S (.val (.str x)) = true from fun _ _ => rfl, if_true, aCons_eq, aNil_eq, eLc_eq, iAny_eq, eVar_eq, List.getElem?_cons_zero, Tg.ix, wipeM]
    rw [lc_res (n :: ns) hl hn (by simp)]
    rw [Rz.bind_ok, finL_ok' (by rw [List.length_map, List.length_map]; omega)]
    simp only [Rz.bind_ok]
    rw [fJoin_ok (res_sum _ hl)]
    rfl
end TheText

namespace TheText
open PySem L2 MK
theorem cut_first (t : Tx) : cut t none (some 1) = t.take 1 := by
  unfold cut
  rw [show (1 : Int) = ((1 : Nat) : Int) from rfl, HT.sIx_nat]
  show (t.drop 0).take (min 1 t.length - 0) = _
  rw [List.drop_zero, Nat.sub_zero]
  cases t with
  | nil => rfl
  | cons c t => rw [Nat.min_eq_left (by simp)]
theorem dash : okT [45] = true := by decide
theorem emptyMark_yes : G_is_empty_mark [.str [45]] = .ok (.bl true) := by
  simp only [G_is_empty_mark, fnP, fnS, g_is_empty_mark, List.length_cons, List.length_nil, if_true, List.map_cons, List.map_nil, List.replicate, List.cons_append, List.nil_append]
  rw [seq_nx (ρ1 := [some (.val (.str [45]))]) (S1 := []) (by
    simp only [sIf_eq, xAnd_eq, xB_eq, eBin_eq, eSl_eq, xoN_eq, xoS_eq, eVar_eq, eC_eq, eMk_eq, aCons_eq, aNil_eq, List.getElem?_cons_zero, Rz.bind_ok, fSl_str, line_is, cut_first, List.length_cons, List.length_nil, if_pos (show 0 + 1 ≤ 16777216 by decide), List.take_succ_cons, List.take_zero, fEqq_str false _ dash dash, beq_self_eq_true, show (true != false) = true from rfl, fLen_str, fInt_eq, if_true]
    rfl)]
  simp only [sRet_eq, eBin_eq, eVar_eq, eC_eq, List.getElem?_cons_zero, Rz.bind_ok, fEqq_str false _ dash dash, Rz.thn_ok, RS.fin_ret]
  rfl
theorem emptyMark_no {c : Nat} {t : Tx} (hc : c < 1114112) (h45 : c ≠ 45) (ht : okT (c :: t) = true) (hl : (c :: t).length ≤ 16777216) : G_is_empty_mark [.str (c :: t)] = .ok (.bl false) := by
  have e1 : (([c] : Tx) == [45]) = false := by simp [h45]
  have e2 : ((c :: t : Tx) == [45]) = false := by simp [h45]
  simp only [G_is_empty_mark, fnP, fnS, g_is_empty_mark, List.length_cons, List.length_nil, if_true, List.map_cons, List.map_nil, List.replicate, List.cons_append, List.nil_append]
  rw [seq_nx (ρ1 := [some (.val (.str (c :: t)))]) (S1 := []) (by
    simp only [sIf_eq, xAnd_eq, xB_eq, eBin_eq, eSl_eq, xoN_eq, xoS_eq, eVar_eq, eC_eq, List.getElem?_cons_zero, Rz.bind_ok, fSl_str, line_is, cut_first, if_pos hl, List.take_succ_cons, List.take_zero, fEqq_str false _ (okT1 c hc) dash, e1, show (false != false) = false from rfl, Rz.thn_ok, sNil_eq]
    rfl)]
  simp only [sRet_eq, eBin_eq, eVar_eq, eC_eq, List.getElem?_cons_zero, Rz.bind_ok, fEqq_str false _ ht dash, e2, Rz.thn_ok, RS.fin_ret]
  rfl
/-! ### residues, read -/
theorem joinT_cons (sep x : Tx) (ys : List Tx) : joinT sep (x :: ys) = x ++ (if ys = [] then [] else sep ++ joinT sep ys) := by
  cases ys with
  | nil => simp [joinT]
  | cons y r => simp [joinT]
theorem digs_head (n : Nat) (h : n < 1000) : ∃ d u, digs n = d :: u ∧ d ∈ tDig := by
  unfold digs
  split
  · exact ⟨_, _, rfl, mem_dig (by omega)⟩
  · split
    · exact ⟨_, _, rfl, mem_dig (by omega)⟩
    · exact ⟨_, _, rfl, mem_dig (by omega)⟩
theorem parseR_loop {t : Tx} {q : Nat} (ht : t.length ≤ 16777216) (hot : okT t = true) (hq : q ≤ 1000) : ∀ (ns : List Nat) (done : List Nat) (n0 : Nat) (p k : Nat) (x : Option Mv), (∀ n ∈ n0 :: ns, n < q) → t.drop p = joinT [32] ((n0 :: ns).map digs) → ns.length < k → done.length + ns.length ≤ 1000 →
    ∃ S', whileS k wc_parse_residues wb_parse_residues [some (.val (.str t)), some (.val (.int q)), some (.loc 0), some (.val (.int p)), x] [.lst ((done.map fun n => Dv.int (n : Nat)).map .val)] = .ret (.val (.tup ((done ++ n0 :: ns).map fun n => .int (n : Nat)))) S'
  | ns, done, n0, p, 0, x, _, _, hk, _ => by omega
  | ns, done, n0, p, k + 1, x, hn, h, hk, hd => by
    rw [List.map_cons, joinT_cons] at h
    have hn0 := hn n0 (by simp)
    have nd : NoDg (if ns.map digs = [] then [] else [32] ++ joinT [32] (ns.map digs)) := by
      split
      · exact .inl rfl
      · exact .inr ⟨32, _, rfl, by decide⟩
    have e := residue_ok ht h nd hn0 (by omega)
    obtain ⟨dg, u, ed, _⟩ := digs_head n0 (by omega)
    have hp : p ≤ t.length := by
      rcases Nat.lt_or_ge t.length p with g | g
      · rw [List.drop_eq_nil_of_le (by omega), ed] at h; cases h
      · exact g
    have hlen := drop_len hp h
    have hdr := drop_add h
    rw [whileS_succ]
    simp only [xT_eq, eC_eq, Rz.bind_ok, tru_bl, Rz.thn_ok, wb_parse_residues]
    have eap : fAppend (.loc 0) [.val (.int n0)] [.lst ((done.map fun n => Dv.int (n : Nat)).map .val)] = .ok (.val .non) [.lst (((done ++ [n0]).map fun n => Dv.int (n : Nat)).map .val)] := by
      simp only [fAppend, List.getElem?_cons_zero]
      rw [line_is, if_pos (by simp; omega)]
      simp
    rw [seq_nx (ρ1 := [some (.val (.str t)), some (.val (.int q)), some (.loc 0), some (.val (.int (p + (digs n0).length : Nat))), some (.val (.int n0))]) (S1 := [.lst ((done.map fun n => Dv.int (n : Nat)).map .val)]) (by
      simp only [sAsg_eq, eMk_eq, aCons_eq, aNil_eq, eVar_eq, List.getElem?_cons_zero, List.getElem?_cons_succ, Rz.bind_ok, callP3, e, liftP_ok, Rz.thn_ok, tgTup_eq, List.length_cons, List.length_nil, if_true, List.map_cons, List.map_nil, tgsCons_eq, tgsNil_eq, tgName_eq, RS.seq_nx, RS.only_nx, List.set_cons_succ, List.set_cons_zero])]
    rw [seq_nx (ρ1 := [some (.val (.str t)), some (.val (.int q)), some (.loc 0), some (.val (.int (p + (digs n0).length : Nat))), some (.val (.int n0))]) (S1 := [.lst (((done ++ [n0]).map fun n => Dv.int (n : Nat)).map .val)]) (by
      simp only [sExpr_eq, eBm_eq, aCons_eq, aNil_eq, eVar_eq, List.getElem?_cons_zero, List.getElem?_cons_succ, Rz.bind_ok, show isLst [.lst ((done.map fun n => Dv.int (n : Nat)).map .val)] (.loc 0) = true from rfl, if_true, eap, Rz.thn_ok])]
    cases ns with
    | nil =>
      simp only [List.map_nil, if_true] at hdr
      have he := at_end hdr
      have e2 : (((p + (digs n0).length : Nat) : Int) == (t.length : Int)) = true := beq_iff_eq.mpr (by omega)
      refine ⟨[.lst (((done ++ [n0]).map fun n => Dv.int (n : Nat)).map .val)], ?_⟩
      rw [seq_ret (m := .val (.tup ((done ++ [n0]).map fun n => .int (n : Nat)))) (S1 := [.lst (((done ++ [n0]).map fun n => Dv.int (n : Nat)).map .val)]) (by
        simp only [sIf_eq, xB_eq, eBin_eq, eMk_eq, aCons_eq, aNil_eq, eVar_eq, List.getElem?_cons_zero, List.getElem?_cons_succ, Rz.bind_ok, fLen_str, line_is, if_pos ht, fEqq_int, e2, show (true != false) = true from rfl, Rz.thn_ok, sRet_eq, fTupOf, seqOf_loc (S := [.lst (((done ++ [n0]).map fun n => Dv.int (n : Nat)).map .val)]) (n := 0) rfl, vals_map])]
      rfl
    | cons n1 ns =>
      rw [List.map_cons, if_neg (by simp)] at hdr
      obtain ⟨g1, g2, g3⟩ := at_drop (c := 32) (r := joinT [32] (digs n1 :: ns.map digs)) hdr
      have e2 : (((p + (digs n0).length : Nat) : Int) == (t.length : Int)) = false := beq_eq_false_iff_ne.mpr (by omega)
      rw [seq_nx (ρ1 := [some (.val (.str t)), some (.val (.int q)), some (.loc 0), some (.val (.int (p + (digs n0).length : Nat))), some (.val (.int n0))]) (S1 := [.lst (((done ++ [n0]).map fun n => Dv.int (n : Nat)).map .val)]) (by
        simp only [sIf_eq, xB_eq, eBin_eq, eMk_eq, aCons_eq, aNil_eq, eVar_eq, List.getElem?_cons_zero, List.getElem?_cons_succ, Rz.bind_ok, fLen_str, line_is, if_pos ht, fEqq_int, e2, show (false != false) = false from rfl, Rz.thn_ok, sNil_eq])]
      rw [seq_nx (ρ1 := [some (.val (.str t)), some (.val (.int q)), some (.loc 0), some (.val (.int (p + (digs n0).length : Nat))), some (.val (.int n0))]) (S1 := [.lst (((done ++ [n0]).map fun n => Dv.int (n : Nat)).map .val)]) (by
        simp only [sIf_eq, xB_eq, eBin_eq, eC_eq, eVar_eq, List.getElem?_cons_zero, List.getElem?_cons_succ, Rz.bind_ok, fIx_str, line_is, if_pos ht, atI_n, g1, fEqq_str true _ (show okT [32] = true from rfl) (show okT [32] = true from rfl), beq_self_eq_true, show (true != true) = false from rfl, Rz.thn_ok, sNil_eq])]
      obtain ⟨S', ih⟩ := parseR_loop ht hot hq ns (done ++ [n0]) n1 (p + (digs n0).length + 1) k (some (.val (.int n0))) (fun n hn' => hn n (by simp at hn' ⊢; exact .inr hn')) g3 (by simp at hk; omega) (by simp at hd ⊢; omega)
      refine ⟨S', ?_⟩
      simp only [sAug_eq, eC_eq, List.getElem?_cons_zero, List.getElem?_cons_succ, Rz.thn_ok, fInt_eq, if_true, List.set_cons_succ, List.set_cons_zero, RS.turn_nx]
      rw [show done ++ n0 :: n1 :: ns = done ++ [n0] ++ n1 :: ns by simp, ← ih]
      rfl
theorem ok_join {sep : Tx} (hs : okT sep = true) : ∀ {xs : List Tx}, (∀ x ∈ xs, okT x = true) → okT (joinT sep xs) = true
  | [], _ => rfl
  | [x], h => h x (by simp)
  | x :: y :: r, h => okT_app (okT_app (h x (by simp)) hs) (ok_join hs fun z hz => h z (by simp at hz ⊢; exact .inr hz))
theorem ok_dig' {n : Nat} (h : n < 1000) : okT (digs n) = true := ok_digs ⟨n, h⟩
theorem parseR_ok {q : Nat} (hq : q ≤ 1000) (ns : List Nat) (hl : ns.length ≤ 1000) (hn : ∀ n ∈ ns, n < q) : G_parse_residues [.str (resT ns), .int q] = .ok (.tup (ns.map fun n => .int (n : Nat))) := by
  simp only [G_parse_residues, fnP, fnS, g_parse_residues, List.length_cons, List.length_nil, if_true, List.map_cons, List.map_nil, List.replicate, List.cons_append, List.nil_append]
  unfold resT
  cases ns with
  | nil =>
    rw [if_pos rfl]
    rw [seq_ret (m := .val (.tup [])) (S1 := []) (by
      simp only [sIf_eq, xT_eq, eMk_eq, aCons_eq, aNil_eq, eVar_eq, List.getElem?_cons_zero, Rz.bind_ok, callP1, emptyMark_yes, liftP_ok, tru_bl, Rz.thn_ok, sRet_eq, mkTup, vals_nil]
      rfl)]
    rfl
  | cons n ns =>
    rw [if_neg (by simp)]
    have hj := join_len ((n :: ns).map digs) [32]
    have hs := res_sum (n :: ns) hl
    have ht : (joinT [32] ((n :: ns).map digs)).length ≤ 16777216 := Nat.le_trans hj hs
    have ho : okT (joinT [32] ((n :: ns).map digs)) = true := ok_join (by decide) fun x hx => by
      obtain ⟨m, hm, rfl⟩ := List.mem_map.mp hx
      exact ok_dig' (by have := hn m hm; omega)
    obtain ⟨d, u, ed, hd⟩ := digs_head n (by have := hn n (by simp); omega)
    have eh : joinT [32] ((n :: ns).map digs) = d :: (u ++ (if ns.map digs = [] then [] else [32] ++ joinT [32] (ns.map digs))) := by
      rw [List.map_cons, joinT_cons, ed]; rfl
    have hd' : d < 1114112 ∧ d ≠ 45 := by
      have : ∀ c ∈ tDig, c < 1114112 ∧ c ≠ 45 := by decide
      exact this d hd
    have em := emptyMark_no (t := u ++ (if ns.map digs = [] then [] else [32] ++ joinT [32] (ns.map digs))) hd'.1 hd'.2 (by rw [← eh]; exact ho) (by rw [← eh]; exact ht)
    rw [← eh] at em
    generalize ej : joinT [32] ((n :: ns).map digs) = t at *
    rw [seq_nx (ρ1 := [some (.val (.str t)), some (.val (.int q)), none, none, none]) (S1 := []) (by
      simp only [sIf_eq, xT_eq, eMk_eq, aCons_eq, aNil_eq, eVar_eq, List.getElem?_cons_zero, Rz.bind_ok, callP1, em, liftP_ok, tru_bl, Rz.thn_ok, sNil_eq])]
    rw [seq_nx (ρ1 := [some (.val (.str t)), some (.val (.int q)), some (.loc 0), none, none]) (S1 := [.lst []]) (by
      simp only [sSet_eq, eMk_eq, aNil_eq, Rz.bind_ok, mkLoc, line_is]; rfl)]
    rw [seq_nx (ρ1 := [some (.val (.str t)), some (.val (.int q)), some (.loc 0), some (.val (.int (0 : Nat))), none]) (S1 := [.lst []]) (by rfl)]
    obtain ⟨S', e⟩ := parseR_loop (q := q) ht ho hq ns [] n 0 100000 none hn (by rw [List.drop_zero, ej]) (by simp at hl; omega) (by simp at hl ⊢; omega)
    exact (congrArg (fun z : RS => z.fin.pure0) e).trans rfl
end TheText

namespace MK
open PySem L2
theorem app_lt (p : Tx) {a b : Tx} : p ++ a < p ++ b ↔ a < b := by
  induction p with
  | nil => exact Iff.rfl
  | cons c p ih =>
    rw [List.cons_append, List.cons_append, List.cons_lt_cons_iff]
    constructor
    · rintro (h | ⟨_, h⟩)
      · exact absurd h (Nat.lt_irrefl _)
      · exact ih.mp h
    · intro h
      exact .inr ⟨rfl, ih.mpr h⟩
theorem zmax : ∀ (r : Tx) (m : Nat), r.length ≤ m → (∀ c ∈ r, c ≤ 122) → ¬ (List.replicate m 122 < r)
  | [], m, _, _ => List.not_lt_nil _
  | c :: r, 0, h, _ => by simp at h
  | c :: r, m + 1, h, hc => by
    rw [List.replicate_succ, List.cons_lt_cons_iff]
    rintro (h1 | ⟨_, h1⟩)
    · have := hc c (by simp); omega
    · exact zmax r m (by simpa using h) (fun d hd => hc d (by simp [hd])) h1
theorem cut_from {α : Type} (xs : List α) (k : Nat) (h : k ≤ xs.length) : cut xs (some (k : Int)) none = xs.drop k := by
  unfold cut
  rw [HT.sIx_nat, HT.sIx_none, Nat.min_eq_left h]
  rw [List.take_of_length_le (by rw [List.length_drop]; exact Nat.le_refl _)]
@[simp] theorem fLeS_eq (x y : Tx) (S : Sto) : fLeS (.val (.str x)) (.val (.str y)) S = .ok (.val (.bl (!decide (y < x)))) S := rfl
end MK
namespace TheText
open PySem L2 MK
/-- a variable's name -/
structure Nm (x : Tx) : Prop where
  ne : x ≠ []
  len : x.length ≤ 6
  let_ : ∀ c ∈ x, c ∈ tLet
theorem let_le : ∀ c ∈ tLet, c ≤ 122 ∧ c < 1114112 ∧ c ≠ 45 ∧ c ≠ 39 := by decide
theorem great {u : Tx} {prev : Tx} {j : Nat} (hn : Nm u) (hp : prev < u) (hj : j + 1 ≤ u.length) : prev < u.take (j + 1) ++ List.replicate (6 - (j + 1)) 122 := by
  have h1 : ¬ (u.take (j + 1) ++ List.replicate (6 - (j + 1)) 122 < u) := by
    intro h
    have h : u.take (j + 1) ++ List.replicate (6 - (j + 1)) 122 < u.take (j + 1) ++ u.drop (j + 1) := by
      rw [List.take_append_drop]; exact h
    refine zmax (u.drop (j + 1)) (6 - (j + 1)) (by rw [List.length_drop]; have := hn.len; omega) (fun c hc => (let_le c (hn.let_ c (List.mem_of_mem_drop hc))).1) ((app_lt _).mp h)
  rcases ltTx_tri u (u.take (j + 1) ++ List.replicate (6 - (j + 1)) 122) with h | h | h
  · exact List.lt_trans hp h
  · rw [← h]; exact hp
  · exact absurd h h1
theorem name_loop {t : Tx} {s : Nat} {u prev r : Tx} (ht : t.length ≤ 16777216) (hs : s ≤ t.length) (h : t.drop s = u ++ 61 :: r) (hn : Nm u) (hp : prev < u) : ∀ (m j k : Nat) (x : Option Mv), j + m = u.length → m < k →
    ∃ x', whileS k wc_read_name_after wb_read_name_after [some (.val (.str t)), some (.val (.int s)), some (.val (.str prev)), some (.val (.int (s + j : Nat))), x, none] [] = .nx [some (.val (.str t)), some (.val (.int s)), some (.val (.str prev)), some (.val (.int (s + u.length : Nat))), x', none] []
  | m, j, 0, _, _, hk => by omega
  | 0, j, k + 1, x, hj, hk => by
    obtain rfl : j = u.length := by omega
    obtain ⟨h1, h2, h3⟩ := at_drop (drop_add h)
    have e1 : decide (((s + u.length : Nat) : Int) < (t.length : Int)) = true := decide_eq_true (by omega)
    refine ⟨x, ?_⟩
    rw [whileS_succ]
    simp only [xAnd_eq, xB_eq, eBin_eq, eVar_eq, eC_eq, eMk_eq, aCons_eq, aNil_eq, List.getElem?_cons_zero, List.getElem?_cons_succ, Rz.bind_ok, fLen_str, line_is, if_pos ht, fInt_eq, if_true, e1, fIx_str, atI_n, h1, fInS_eq, show decide (61 ∈ ([97, 98, 99, 100, 101, 102, 103, 104, 105, 106, 107, 108, 109, 110, 111, 112, 113, 114, 115, 116, 117, 118, 119, 120, 121, 122] : Tx)) = false from by decide, show (false != false) = false from rfl, Rz.thn_ok]
  | m + 1, j, k + 1, x, hj, hk => by
    have hjl : j < u.length := by omega
    have hdj : t.drop (s + j) = u[j] :: (u.drop (j + 1) ++ 61 :: r) := by
      rw [← List.drop_drop, h, List.drop_append_of_le_length (by omega), List.drop_eq_getElem_cons hjl]; rfl
    obtain ⟨h1, h2, h3⟩ := at_drop hdj
    have hm : u[j] ∈ tLet := hn.let_ _ (List.getElem_mem _)
    unfold tLet at hm
    have hlen := drop_len hs h
    have e1 : decide (((s + j : Nat) : Int) < (t.length : Int)) = true := decide_eq_true (by omega)
    have ec : cut t (some (s : Int)) (some (((s + j : Nat) : Int) + 1)) = u.take (j + 1) := by
      rw [show (((s + j : Nat) : Int) + 1) = ((s + (j + 1) : Nat) : Int) by omega, cut_mid t s (j + 1) (by omega), h, List.take_append_of_le_length (by omega)]
    have ez : cut ([122, 122, 122, 122, 122, 122] : Tx) (some (((s + j : Nat) : Int) + 1 - (s : Int))) none = List.replicate (6 - (j + 1)) 122 := by
      rw [show (((s + j : Nat) : Int) + 1 - (s : Int)) = ((j + 1 : Nat) : Int) by omega, cut_from _ _ (by have := hn.len; simp; omega)]
      rw [show ([122, 122, 122, 122, 122, 122] : Tx) = List.replicate 6 122 from rfl, List.drop_replicate]
    have lg : (u.take (j + 1) ++ List.replicate (6 - (j + 1)) 122).length = 6 := by
      rw [List.length_append, List.length_take, List.length_replicate]; have := hn.len; omega
    have lg' : (u.take (j + 1)).length + (List.replicate (6 - (j + 1)) 122).length ≤ 16777216 := by
      rw [← List.length_append, lg]; decide
    have hg := great hn hp (j := j) (by omega)
    obtain ⟨x', ih⟩ := name_loop ht hs h hn hp m (j + 1) k (some (.val (.str (u.take (j + 1) ++ List.replicate (6 - (j + 1)) 122)))) (by omega) (by omega)
    refine ⟨x', ?_⟩
    rw [whileS_succ]
    simp only [xAnd_eq, xB_eq, eBin_eq, eVar_eq, eC_eq, eMk_eq, aCons_eq, aNil_eq, List.getElem?_cons_zero, List.getElem?_cons_succ, Rz.bind_ok, fLen_str, line_is, if_pos ht, fInt_eq, if_true, e1, fIx_str, atI_n, h1, fInS_eq, decide_eq_true hm, show (true != false) = true from rfl, Rz.thn_ok, wb_read_name_after]
    rw [seq_nx (ρ1 := [some (.val (.str t)), some (.val (.int s)), some (.val (.str prev)), some (.val (.int (s + j : Nat))), some (.val (.str (u.take (j + 1) ++ List.replicate (6 - (j + 1)) 122))), none]) (S1 := []) (by
      simp only [sSet_eq, eBin_eq, eSl_eq, xoS_eq, xoN_eq, eVar_eq, eC_eq, List.getElem?_cons_zero, List.getElem?_cons_succ, Rz.bind_ok, fAdd_int, fInt_eq, if_true, fSl_str, line_is, if_pos ht, ec, List.length_cons, List.length_nil, if_pos (show 0 + 1 + 1 + 1 + 1 + 1 + 1 ≤ 16777216 by decide), ez, fAdd_str, if_pos lg', Rz.thn_ok, List.set_cons_succ, List.set_cons_zero])]
    rw [seq_nx (ρ1 := [some (.val (.str t)), some (.val (.int s)), some (.val (.str prev)), some (.val (.int (s + j : Nat))), some (.val (.str (u.take (j + 1) ++ List.replicate (6 - (j + 1)) 122))), none]) (S1 := []) (by
      simp only [sIf_eq, xOr_eq, xB_eq, eBin_eq, eMk_eq, aCons_eq, aNil_eq, eVar_eq, eC_eq, List.getElem?_cons_zero, List.getElem?_cons_succ, Rz.bind_ok, fLen_str, lg, line_is, if_pos (show 6 ≤ 16777216 by decide), fInt_eq, if_true, show decide ((6 : Int) < ((6 : Nat) : Int)) = false from by decide, fLeS_eq, decide_eq_true hg, Bool.not_true, Rz.thn_ok, sNil_eq])]
    simp only [sAug_eq, eC_eq, List.getElem?_cons_zero, List.getElem?_cons_succ, Rz.thn_ok, fInt_eq, if_true, List.set_cons_succ, List.set_cons_zero, RS.turn_nx]
    rw [← ih]; rfl
theorem name_ok {t : Tx} {s : Nat} {u prev r : Tx} (ht : t.length ≤ 16777216) (hs : s ≤ t.length) (h : t.drop s = u ++ 61 :: r) (hn : Nm u) (hp : prev < u) : G_read_name_after [.str t, .int s, .str prev] = .ok (.tup [.str u, .int (s + u.length : Nat)]) := by
  obtain ⟨x', e⟩ := name_loop ht hs h hn hp u.length 0 100000 none (by omega) (by have := hn.len; omega)
  obtain ⟨h1, h2, h3⟩ := at_drop (drop_add h)
  have hlen := drop_len hs h
  have e2 : (((s + u.length : Nat) : Int) == (t.length : Int)) = false := beq_eq_false_iff_ne.mpr (by omega)
  simp only [G_read_name_after, fnP, fnS, g_read_name_after, List.length_cons, List.length_nil, if_true, List.map_cons, List.map_nil, List.replicate, List.cons_append, List.nil_append]
  rw [seq_nx (ρ1 := [some (.val (.str t)), some (.val (.int s)), some (.val (.str prev)), some (.val (.int (s + 0 : Nat))), none, none]) (S1 := []) (by rfl)]
  rw [seq_nx (show sWhile 100000 wc_read_name_after wb_read_name_after _ _ = _ from e)]
  rw [seq_nx (ρ1 := [some (.val (.str t)), some (.val (.int s)), some (.val (.str prev)), some (.val (.int (s + u.length : Nat))), x', some (.val (.str u))]) (S1 := []) (by
    simp only [sSet_eq, eSl_eq, xoS_eq, eVar_eq, List.getElem?_cons_zero, List.getElem?_cons_succ, Rz.bind_ok, fSl_str, line_is, if_pos ht, cut_mid t s u.length hlen, h, List.take_left, Rz.thn_ok, List.set_cons_succ, List.set_cons_zero])]
  rw [seq_nx (ρ1 := [some (.val (.str t)), some (.val (.int s)), some (.val (.str prev)), some (.val (.int (s + u.length : Nat))), x', some (.val (.str u))]) (S1 := []) (by
    simp only [sIf_eq, xOr_eq, xB_eq, eBin_eq, eMk_eq, aCons_eq, aNil_eq, eVar_eq, eC_eq, List.getElem?_cons_zero, List.getElem?_cons_succ, Rz.bind_ok, fLen_str, line_is, if_pos ht, fEqq_int, e2, show (false != false) = false from rfl, fIx_str, atI_n, h1, fEqq_str true _ (show okT [61] = true from rfl) (show okT [61] = true from rfl), beq_self_eq_true, show (true != true) = false from rfl, fLeS_eq, decide_eq_true hp, Bool.not_true, Rz.thn_ok, sNil_eq])]
  simp [mkTup, line_is, Rz.pure0, rfy]
end TheText

namespace TheText
open PySem L2 MK
abbrev Pr := Tx × Nat
def entM (p : Pr) : Ky × Mv := (.inr p.1, .val (.int p.2))
def itT (p : Pr) : Tx := p.1 ++ 61 :: digs p.2
def asgT (sp : List Pr) : Tx := if sp = [] then [45] else joinT [32] (sp.map itT)
def Asc (sp : List Pr) : Prop := sp.Pairwise fun a b => a.1 < b.1
def Fine (q : Nat) (sp : List Pr) : Prop := ∀ p ∈ sp, Nm p.1 ∧ p.2 < q
theorem put_new {sp : List Pr} {x : Pr} (h : ∀ p ∈ sp, p.1 ≠ x.1) : putKM (sp.map entM) (.inr x.1) (.val (.int x.2)) = (sp ++ [x]).map entM := by
  unfold putKM
  rw [if_neg]
  · simp [entM]
  · simp only [List.any_map, List.any_eq_true, not_exists, Function.comp, not_and]
    intro p hp h2
    have h2 := of_decide_eq_true h2
    exact h p hp (Sum.inr.inj h2)
theorem parseA_loop {t : Tx} {q : Nat} {S0 : Sto} (ht : t.length ≤ 16777216) (hq : q ≤ 1000) : ∀ (sp done : List Pr) (x : Pr) (prev : Tx) (p k : Nat), Fine q (x :: sp) → Asc (done ++ x :: sp) → prev < x.1 → t.drop p = joinT [32] ((x :: sp).map itT) → sp.length < k → done.length + sp.length ≤ 1000 →
    whileS k wc_parse_assignment wb_parse_assignment [some (.val (.str t)), some (.val (.int q)), some (.loc S0.length), some (.val (.str prev)), some (.val (.int p))] (S0 ++ [.dK (done.map entM)]) = .ret (.loc S0.length) (S0 ++ [.dK ((done ++ x :: sp).map entM)])
  | sp, done, x, prev, p, 0, _, _, _, _, hk, _ => by omega
  | sp, done, x, prev, p, k + 1, hf, ha, hprev, h, hk, hd => by
    rw [List.map_cons, joinT_cons] at h
    obtain ⟨hn, hx⟩ := hf x (by simp)
    have h0 : t.drop p = x.1 ++ 61 :: (digs x.2 ++ (if sp.map itT = [] then [] else [32] ++ joinT [32] (sp.map itT))) := by rw [h]; simp [itT]
    have hp : p ≤ t.length := by
      rcases Nat.lt_or_ge t.length p with g | g
      · rw [List.drop_eq_nil_of_le (by omega)] at h0
        have := congrArg List.length h0
        simp at this
      · exact g
    have e1 := name_ok ht hp h0 hn hprev
    obtain ⟨_, hl1, h1⟩ := at_drop (drop_add h0)
    have nd : NoDg (if sp.map itT = [] then [] else [32] ++ joinT [32] (sp.map itT)) := by
      split
      · exact .inl rfl
      · exact .inr ⟨32, _, rfl, by decide⟩
    have e2 := residue_ok ht h1 nd hx (by omega)
    have hlen := drop_len (by omega) h1
    have hdr := drop_add h1
    obtain ⟨ps, eps⟩ : ∃ ps, ps = p + x.1.length + 1 + (digs x.2).length := ⟨_, rfl⟩
    rw [← eps] at e2 hdr hlen
    have hnew : ∀ p ∈ done, p.1 ≠ x.1 := by
      intro p hp e
      have := (List.pairwise_append.mp ha).2.2 p hp x (by simp)
      rw [e] at this
      exact List.lt_irrefl _ this
    have eset : fSetD (.loc S0.length) (.val (.str x.1)) (.val (.int x.2)) (S0 ++ [.dK (done.map entM)]) = .ok () (S0 ++ [.dK ((done ++ [x]).map entM)]) := by
      rw [fSetD_loc (kvs := done.map entM) (k := .inr x.1) (by simp) rfl (by rw [List.length_map]; omega), put_new hnew]
      simp
    rw [whileS_succ]
    simp only [xT_eq, eC_eq, Rz.bind_ok, tru_bl, Rz.thn_ok, wb_parse_assignment]
    rw [seq_nx (ρ1 := [some (.val (.str t)), some (.val (.int q)), some (.loc S0.length), some (.val (.str x.1)), some (.val (.int (p + x.1.length : Nat)))]) (S1 := S0 ++ [.dK (done.map entM)]) (by
      simp only [sAsg_eq, eMk_eq, aCons_eq, aNil_eq, eVar_eq, List.getElem?_cons_zero, List.getElem?_cons_succ, Rz.bind_ok, callP3, e1, liftP_ok, Rz.thn_ok, tgTup_eq, List.length_cons, List.length_nil, if_true, List.map_cons, List.map_nil, tgsCons_eq, tgsNil_eq, tgName_eq, RS.seq_nx, RS.only_nx, List.set_cons_succ, List.set_cons_zero])]
    rw [seq_nx (ρ1 := [some (.val (.str t)), some (.val (.int q)), some (.loc S0.length), some (.val (.str x.1)), some (.val (.int ps))]) (S1 := S0 ++ [.dK ((done ++ [x]).map entM)]) (by
      have e2' : G_read_residue [.str t, .int (((p + x.1.length : Nat) : Int) + 1), .int q] = .ok (.tup [.int x.2, .int ps]) := e2
      simp only [sAsg_eq, eMk_eq, aCons_eq, aNil_eq, eBin_eq, eC_eq, eVar_eq, List.getElem?_cons_zero, List.getElem?_cons_succ, Rz.bind_ok, fAdd_int, callP3, e2', liftP_ok, Rz.thn_ok, tgTup_eq, List.length_cons, List.length_nil, if_true, List.map_cons, List.map_nil, tgsCons_eq, tgsNil_eq, tgSub_eq, eset, tgName_eq, RS.seq_nx, RS.only_nx, List.set_cons_succ, List.set_cons_zero])]
    cases sp with
    | nil =>
      simp only [List.map_nil, if_true] at hdr
      have he := at_end hdr
      have e3 : ((ps : Int) == (t.length : Int)) = true := beq_iff_eq.mpr (by omega)
      rw [seq_ret (m := .loc S0.length) (S1 := S0 ++ [.dK ((done ++ [x]).map entM)]) (by
        simp only [sIf_eq, xB_eq, eBin_eq, eMk_eq, aCons_eq, aNil_eq, eVar_eq, List.getElem?_cons_zero, List.getElem?_cons_succ, Rz.bind_ok, fLen_str, line_is, if_pos ht, fEqq_int, e3, show (true != false) = true from rfl, Rz.thn_ok, sRet_eq])]
      rfl
    | cons y sp =>
      rw [List.map_cons, if_neg (by simp)] at hdr
      obtain ⟨g1, g2, g3⟩ := at_drop (c := 32) (r := joinT [32] (itT y :: sp.map itT)) hdr
      have e3 : ((ps : Int) == (t.length : Int)) = false := beq_eq_false_iff_ne.mpr (by omega)
      have hxy : x.1 < y.1 := by
        have := (List.pairwise_append.mp ha).2.1
        exact (List.pairwise_cons.mp this).1 y (by simp)
      obtain ⟨hny, _⟩ := hf y (by simp)
      have hz : (x.1 == [122, 122, 122, 122, 122, 122]) = false := beq_eq_false_iff_ne.mpr fun e => by
        rw [e] at hxy
        exact zmax y.1 6 hny.len (fun c hc => (let_le c (hny.let_ c hc)).1) hxy
      have ox : okT x.1 = true := okA fun c hc => (let_le c (hn.let_ c hc)).2.1
      rw [seq_nx (ρ1 := [some (.val (.str t)), some (.val (.int q)), some (.loc S0.length), some (.val (.str x.1)), some (.val (.int ps))]) (S1 := S0 ++ [.dK ((done ++ [x]).map entM)]) (by
        simp only [sIf_eq, xB_eq, eBin_eq, eMk_eq, aCons_eq, aNil_eq, eVar_eq, List.getElem?_cons_zero, List.getElem?_cons_succ, Rz.bind_ok, fLen_str, line_is, if_pos ht, fEqq_int, e3, show (false != false) = false from rfl, Rz.thn_ok, sNil_eq])]
      rw [seq_nx (ρ1 := [some (.val (.str t)), some (.val (.int q)), some (.loc S0.length), some (.val (.str x.1)), some (.val (.int ps))]) (S1 := S0 ++ [.dK ((done ++ [x]).map entM)]) (by
        simp only [sIf_eq, xOr_eq, xB_eq, eBin_eq, eC_eq, eVar_eq, List.getElem?_cons_zero, List.getElem?_cons_succ, Rz.bind_ok, fIx_str, line_is, if_pos ht, atI_n, g1, fEqq_str true _ (show okT [32] = true from rfl) (show okT [32] = true from rfl), beq_self_eq_true, show (true != true) = false from rfl, fEqq_str false _ ox (show okT [122, 122, 122, 122, 122, 122] = true from by decide), hz, show (false != false) = false from rfl, Rz.thn_ok, sNil_eq])]
      have ih := parseA_loop (S0 := S0) ht hq sp (done ++ [x]) y x.1 (ps + 1) k (fun z hz' => hf z (by simp at hz' ⊢; exact .inr hz')) (by simpa using ha) hxy g3 (by simp at hk; omega) (by simp at hd ⊢; omega)
      simp only [sAug_eq, eC_eq, List.getElem?_cons_zero, List.getElem?_cons_succ, Rz.thn_ok, fInt_eq, if_true, List.set_cons_succ, List.set_cons_zero, RS.turn_nx]
      rw [show done ++ x :: y :: sp = done ++ [x] ++ y :: sp by simp, ← ih]
      rfl
theorem it_sum (q : Nat) (hq : q ≤ 1000) (sp : List Pr) (hl : sp.length ≤ 1000) (hf : Fine q sp) : ((sp.map itT).map (·.length)).sum + (sp.map itT).length * ([32] : Tx).length ≤ 16777216 := by
  have := sum_le (fun x : Tx => x.length) 10 (sp.map itT) (by
    intro x hx
    obtain ⟨n, hn, rfl⟩ := List.mem_map.mp hx
    have h1 := digs_len n.2
    have h2 := (hf n hn).1.len
    simp [itT]; omega)
  simp only [List.length_map, List.length_cons, List.length_nil] at *
  omega
theorem ok_it {q : Nat} (hq : q ≤ 1000) {sp : List Pr} (hf : Fine q sp) {p : Pr} (hp : p ∈ sp) : okT (itT p) = true := by
  obtain ⟨h1, h2⟩ := hf p hp
  exact okT_app (okA fun c hc => (let_le c (h1.let_ c hc)).2.1) (okT_cons (by decide) (ok_dig' (by omega)))
theorem asg_facts {q : Nat} (hq : q ≤ 1000) {sp : List Pr} (hl : sp.length ≤ 1000) (hf : Fine q sp) : okT (asgT sp) = true ∧ (asgT sp).length ≤ 16777216 := by
  unfold asgT
  split
  · exact ⟨by decide, by decide⟩
  · exact ⟨ok_join (by decide) fun x hx => by
      obtain ⟨m, hm, rfl⟩ := List.mem_map.mp hx
      exact ok_it hq hf hm, Nat.le_trans (join_len _ _) (it_sum q hq sp hl hf)⟩
theorem parseA_ok {q : Nat} (hq : q ≤ 1000) (sp : List Pr) (hl : sp.length ≤ 1000) (hf : Fine q sp) (ha : Asc sp) (S : Sto) : G_parse_assignment [.val (.str (asgT sp)), .val (.int q)] S = .ok (.loc S.length) (S ++ [.dK (sp.map entM)]) := by
  obtain ⟨ho, ht⟩ := asg_facts hq hl hf
  simp only [G_parse_assignment, fnS, g_parse_assignment, List.length_cons, List.length_nil, if_true, List.map_cons, List.map_nil, List.replicate, List.cons_append, List.nil_append]
  cases sp with
  | nil =>
    have e : asgT [] = [45] := rfl
    rw [e]
    rw [seq_ret (m := .loc S.length) (S1 := S ++ [.dK []]) (by
      simp only [sIf_eq, xT_eq, eMk_eq, aCons_eq, aNil_eq, eVar_eq, List.getElem?_cons_zero, Rz.bind_ok, callP1, emptyMark_yes, liftP_ok, tru_bl, Rz.thn_ok, sRet_eq, eNewK_eq])]
    rfl
  | cons x sp =>
    obtain ⟨hn, hx⟩ := hf x (by simp)
    have e0 : asgT (x :: sp) = joinT [32] ((x :: sp).map itT) := if_neg (by simp)
    obtain ⟨c, u, ec⟩ : ∃ c u, x.1 = c :: u := by
      cases q1 : x.1 with
      | nil => exact absurd q1 hn.ne
      | cons c u => exact ⟨c, u, rfl⟩
    have hc := let_le c (hn.let_ c (by rw [ec]; simp))
    have eh : asgT (x :: sp) = c :: (u ++ 61 :: digs x.2 ++ (if sp.map itT = [] then [] else [32] ++ joinT [32] (sp.map itT))) := by
      rw [e0, List.map_cons, joinT_cons, itT, ec]; simp
    have em := emptyMark_no (t := u ++ 61 :: digs x.2 ++ (if sp.map itT = [] then [] else [32] ++ joinT [32] (sp.map itT))) hc.2.1 hc.2.2.1 (by rw [← eh]; exact ho) (by rw [← eh]; exact ht)
    rw [← eh] at em
    have hlt : ([] : Tx) < x.1 := by rw [ec]; exact List.nil_lt_cons _ _
    generalize ej : asgT (x :: sp) = t at *
    rw [seq_nx (ρ1 := [some (.val (.str t)), some (.val (.int q)), none, none, none]) (S1 := S) (by
      simp only [sIf_eq, xT_eq, eMk_eq, aCons_eq, aNil_eq, eVar_eq, List.getElem?_cons_zero, Rz.bind_ok, callP1, em, liftP_ok, tru_bl, Rz.thn_ok, sNil_eq])]
    rw [seq_nx (ρ1 := [some (.val (.str t)), some (.val (.int q)), some (.loc S.length), none, none]) (S1 := S ++ [.dK []]) (by rfl)]
    rw [seq_nx (ρ1 := [some (.val (.str t)), some (.val (.int q)), some (.loc S.length), some (.val (.str [])), none]) (S1 := S ++ [.dK []]) (by rfl)]
    rw [seq_nx (ρ1 := [some (.val (.str t)), some (.val (.int q)), some (.loc S.length), some (.val (.str [])), some (.val (.int (0 : Nat)))]) (S1 := S ++ [.dK []]) (by rfl)]
    have e := parseA_loop (q := q) (S0 := S) ht hq sp [] x [] 0 100000 hf (by simpa using ha) hlt (by rw [List.drop_zero, e0]) (by simp at hl; omega) (by simp at hl ⊢; omega)
    exact (congrArg (fun z : RS => z.fin) e).trans rfl
end TheText

namespace TheText
open PySem L2 MK
def valP (ps : List Pr) (x : Tx) : Nat := ((ps.find? fun p => decide (p.1 = x)).map (·.2)).getD 0
def names (ps : List Pr) : List Tx := ps.map (·.1)
def srt (ps : List Pr) : List Pr := (sortT (names ps)).map fun x => (x, valP ps x)
theorem valP_at : ∀ {ps : List Pr}, (names ps).Nodup → ∀ p ∈ ps, valP ps p.1 = p.2 ∧ valM (ps.map entM) (.inr p.1) = some (.val (.int p.2))
  | [], _, p, h => by simp at h
  | a :: ps, hn, p, h => by
    have hn' : a.1 ∉ names ps ∧ (names ps).Nodup := by simpa [names] using hn
    rw [List.map_cons, valM_cons]
    rcases List.mem_cons.mp h with rfl | h
    · refine ⟨by simp [valP, List.find?_cons], ?_⟩
      rw [if_pos (show (entM p).1 = Sum.inr p.1 from rfl)]; rfl
    · have ne : ¬ a.1 = p.1 := fun e => hn'.1 (by rw [e]; exact List.mem_map.mpr ⟨p, h, rfl⟩)
      obtain ⟨h1, h2⟩ := valP_at hn'.2 p h
      refine ⟨?_, ?_⟩
      · rw [← h1]; simp [valP, List.find?_cons, ne]
      · rw [if_neg (show ¬ (entM a).1 = Sum.inr p.1 from fun e => ne (Sum.inr.inj e))]; exact h2
theorem map_names {ps : List Pr} (hn : (names ps).Nodup) : (names ps).map (fun x => (x, valP ps x)) = ps := by
  unfold names
  rw [List.map_map]
  have : ∀ p ∈ ps, ((fun x => (x, valP ps x)) ∘ (·.1)) p = p := fun p hp => Prod.ext rfl (valP_at hn p hp).1
  rw [List.map_congr_left this, List.map_id']
theorem srt_perm {ps : List Pr} (hn : (names ps).Nodup) : (srt ps).Perm ps := by
  have := (sortT_perm (names ps)).map (fun x => (x, valP ps x))
  rwa [map_names hn] at this
theorem srt_asc {ps : List Pr} (hn : (names ps).Nodup) : Asc (srt ps) := by
  unfold Asc srt
  rw [List.pairwise_map]
  have h1 := sortT_sorted (names ps)
  have h2 : (sortT (names ps)).Nodup := (sortT_perm (names ps)).nodup_iff.mpr hn
  have h3 := h1.and h2
  refine h3.imp fun {a b} h => ?_
  have h1 : ¬ b < a := by simpa [leT] using h.1
  rcases ltTx_tri a b with q | q | q
  · exact q
  · exact absurd q h.2
  · exact absurd q h1
theorem srt_fine {q : Nat} {ps : List Pr} (hn : (names ps).Nodup) (hf : Fine q ps) : Fine q (srt ps) := fun p hp => hf p ((srt_perm hn).mem_iff.mp hp)
theorem srt_len (ps : List Pr) (hn : (names ps).Nodup) : (srt ps).length = ps.length := (srt_perm hn).length_eq
theorem keys_ent (ps : List Pr) : keysM (ps.map entM) = (names ps).map fun x => Mv.val (.str x) := by
  simp [keysM, entM, names, keyD]
theorem tru_str (S : Sto) (x : Tx) (h : x ≠ []) (hl : x.length ≤ 16777216) : tru S (.val (.str x)) = some true := by
  show (if x.length ≤ sizeLine then some (x.length != 0) else none) = _
  rw [line_is, if_pos hl]
  cases x with
  | nil => exact absurd rfl h
  | cons _ _ => rfl
theorem mkLst_strs (xs : List Tx) (S : Sto) (h : xs.length ≤ 16777216) : mkLst (xs.map fun x => Mv.val (.str x)) S = .ok (.val (.lst (xs.map .str))) S := by
  have : (xs.map fun x => Mv.val (.str x)) = (xs.map Dv.str).map .val := by simp
  rw [this]
  unfold mkLst
  rw [vals_map]
  simp only [List.length_map]
  rw [if_pos (by rw [line_is]; exact h)]
section
variable {S : Sto} {n : Nat} {ps : List Pr} {q : Nat}
theorem sorted_keys (h : S[n]? = some (.dK (ps.map entM))) (h64 : ps.length < 64) : fSortS mkLst [.loc n] S = .ok (.val (.lst ((sortT (names ps)).map .str))) S := by
  have e1 : seqOf S (.loc n) = none := by unfold seqOf; simp [h]
  have e3 : (sortT (names ps)).length = ps.length := by rw [(sortT_perm _).length_eq]; simp [names]
  simp only [fSortS, e1, dicOf_loc h, keys_ent, strsM_map]
  rw [if_pos (by simpa [names] using h64), mkLst_strs _ _ (by omega)]
theorem sorted_list (h64 : ps.length < 64) : fSortS mkLst [.val (.lst ((names ps).map .str))] S = .ok (.val (.lst ((sortT (names ps)).map .str))) S := by
  have e3 : (sortT (names ps)).length = ps.length := by rw [(sortT_perm _).length_eq]; simp [names]
  have e4 : ((names ps).map Dv.str).map Mv.val = (names ps).map fun x => Mv.val (.str x) := by simp
  simp only [fSortS, seqOf_lst, e4, strsM_map]
  rw [if_pos (by simpa [names] using h64), mkLst_strs _ _ (by omega)]
theorem list_keys (h : S[n]? = some (.dK (ps.map entM))) (hl : ps.length ≤ 1000) : fListD mkLst [.loc n] S = .ok (.val (.lst ((names ps).map .str))) S := by
  simp only [fListD, dicOf_loc h, keys_ent]
  rw [mkLst_strs _ _ (by simp [names]; omega)]
theorem get_at (h : S[n]? = some (.dK (ps.map entM))) (hn : (names ps).Nodup) {x : Tx} (hx : x ∈ sortT (names ps)) : ∃ v, (x, v) ∈ ps ∧ valP ps x = v ∧ fDGet (.loc n) (.val (.str x)) S = .ok (.val (.int v)) S := by
  have hx := (sortT_perm _).mem_iff.mp hx
  obtain ⟨p, hp, rfl⟩ := List.mem_map.mp hx
  obtain ⟨h1, h2⟩ := valP_at hn p hp
  exact ⟨p.2, hp, h1, fDGet_loc h rfl h2⟩
theorem log_nat {v : Nat} (h : v < 1000) : ((v : Int)).natAbs.log2 < 1920 := log_small (by omega) (by omega)
theorem formatA_ok (h : S[n]? = some (.dK (ps.map entM))) (hn : (names ps).Nodup) (hf : Fine q ps) (hq : q ≤ 1000) (h64 : ps.length < 64) : G_format_assignment [.loc n] S = .ok (.val (.str (asgT (srt ps)))) S := by
  have hs := srt_fine hn hf
  have hl : (srt ps).length ≤ 1000 := by rw [srt_len ps hn]; omega
  have e3 : (sortT (names ps)).length = ps.length := by rw [(sortT_perm _).length_eq]; simp [names]
  have lc := lc_map (i := 1) (te := jsX [eUn fFmt (eVar 1), eC (.str [61]), eUn fFmt (eBin fDGet (eVar 0) (eVar 1))] []) (ρ := [some (.loc n), none]) (S := S) (g := fun x : Tx => .val (.str x)) (f := fun x => .val (.str (itT (x, valP ps x)))) (sortT (names ps)) [] (by
    intro x hx
    obtain ⟨v, hv, e1, e2⟩ := get_at h hn hx
    obtain ⟨g1, g2⟩ := hf _ hv
    have l1 := g1.len
    have l2 := digs_len v
    simp only [List.set_cons_succ, List.set_cons_zero, jsX_cons, jsX_nil, eUn_eq, eBin_eq, eVar_eq, eC_eq, List.getElem?_cons_zero, List.getElem?_cons_succ, Rz.bind_ok, fFmt_str S (x := x) (by simp at l1; omega), line_is, List.length_nil, List.nil_append, Nat.zero_add]
    rw [if_pos (by simp at l1; omega), if_pos (by simp at l1 ⊢; omega)]
    simp only [e2, Rz.bind_ok, fFmt_int S (log_nat (show v < 1000 by omega)), dec_nat (show v < 1000 by omega)]
    rw [if_pos (by simp at l1 ⊢; omega), e1]
    simp [itT]) (by rw [e3]; simp; omega)
  rw [List.nil_append] at lc
  have ej : (sortT (names ps)).map (fun x => Mv.val (.str (itT (x, valP ps x)))) = (((srt ps).map itT).map Dv.str).map .val := by
    unfold srt; simp
  rw [ej] at lc
  have ei : ((sortT (names ps)).map Dv.str).map Mv.val = (sortT (names ps)).map fun x => Mv.val (.str x) := by simp
  simp only [G_format_assignment, fnS, g_format_assignment, List.length_cons, List.length_nil, if_true, List.map_cons, List.map_nil, List.replicate, List.cons_append, List.nil_append, sRet_eq, eOr_eq, eBm_eq, eC_eq, Rz.bind_ok, show ∀ S x, isStr S (.val (.str x)) = true from fun _ _ => rfl, aCons_eq, aNil_eq, eLc_eq, iAny_eq, eMk_eq, eVar_eq, List.getElem?_cons_zero, Tg.ix, wipeM, list_keys h (by omega), sorted_list h64, List.set_cons_succ, List.set_cons_zero, ei, lc]
  rw [finL_ok' (by rw [List.length_map, List.length_map]; omega)]
  simp only [Rz.bind_ok]
  rw [fJoin_ok (it_sum q hq _ hl hs)]
  simp only [Rz.bind_ok]
  cases hsp : srt ps with
  | nil =>
    rfl
  | cons x sp =>
    have hne : joinT [32] ((x :: sp).map itT) ≠ [] := by
      rw [List.map_cons, joinT_cons]
      intro e
      have := congrArg List.length e
      simp [itT] at this
    have hle := Nat.le_trans (join_len ((x :: sp).map itT) [32]) (by rw [← hsp]; exact it_sum q hq _ hl hs)
    simp only [tru_str _ _ hne hle, Rz.thn_ok, RS.fin_ret]
    rw [show asgT (x :: sp) = joinT [32] ((x :: sp).map itT) from if_neg (by simp)]
end
end TheText

namespace MK
open PySem L2
/-- a text of plain signs, no longer than n -/
def Fits (z : Str) (n : Nat) : Prop := okT z.cps.toList = true ∧ z.length ≤ n
theorem len_cps (z : Str) : z.length = z.cps.toList.length := by
  conv => lhs; rw [← sT_of z]
  rw [sT_length]
theorem cps_app (a b : Str) : (a ++ b).cps.toList = a.cps.toList ++ b.cps.toList := by
  conv => lhs; rw [← sT_of a, ← sT_of b, sT_append, sT_cps]
theorem Fits.app {a b : Str} {m n : Nat} (h : Fits a m) (g : Fits b n) : Fits (a ++ b) (m + n) := by
  refine ⟨?_, ?_⟩
  · rw [cps_app]; exact okT_app h.1 g.1
  · have h2 := h.2
    have g2 := g.2
    rw [len_cps] at *
    rw [cps_app, List.length_append]
    omega
theorem Fits.mono {a : Str} {m n : Nat} (h : Fits a m) (hn : m ≤ n) : Fits a n := ⟨h.1, Nat.le_trans h.2 hn⟩
theorem Fits.sT {x : Tx} {n : Nat} (h : okT x = true) (hl : x.length ≤ n) : Fits (sT x) n := ⟨by rw [sT_cps]; exact h, by rw [sT_length]; exact hl⟩
theorem fits_lit1 : Fits ("(" : Str) 1 := by rw [show ("(" : Str) = MK.sT [40] by decide +kernel]; exact Fits.sT (by decide) (by decide)
theorem fits_lit2 : Fits (", " : Str) 2 := by rw [show (", " : Str) = MK.sT [44, 32] by decide +kernel]; exact Fits.sT (by decide) (by decide)
theorem fits_lit3 : Fits (((")" : String)) : Str) 2 := by rw [show (((")" : String)) : Str) = MK.sT [41] by decide +kernel]; exact Fits.sT (by decide) (by decide)
theorem fits_lit4 : Fits (((",)" : String)) : Str) 2 := by rw [show (((",)" : String)) : Str) = MK.sT [44, 41] by decide +kernel]; exact Fits.sT (by decide) (by decide)
theorem fits_lit5 : Fits ("[" : Str) 1 := by rw [show ("[" : Str) = MK.sT [91] by decide +kernel]; exact Fits.sT (by decide) (by decide)
theorem fits_lit6 : Fits ("]" : Str) 1 := by rw [show ("]" : Str) = MK.sT [93] by decide +kernel]; exact Fits.sT (by decide) (by decide)
theorem fits_lit7 : Fits ("{" : Str) 1 := by rw [show ("{" : Str) = MK.sT [123] by decide +kernel]; exact Fits.sT (by decide) (by decide)
theorem fits_lit8 : Fits ("}" : Str) 1 := by rw [show ("}" : Str) = MK.sT [125] by decide +kernel]; exact Fits.sT (by decide) (by decide)
theorem fits_lit9 : Fits (": " : Str) 2 := by rw [show (": " : Str) = MK.sT [58, 32] by decide +kernel]; exact Fits.sT (by decide) (by decide)
theorem fits_lit0 : Fits ("" : Str) 0 := by rw [show ("" : Str) = MK.sT [] by decide +kernel]; exact Fits.sT (by decide) (by decide)
theorem fits_join {c : Nat} : ∀ {ts : List Str}, (∀ t ∈ ts, Fits t c) → Fits (Str.join ", " ts) (ts.length * (c + 2))
  | [], _ => by
    show Fits Str.empty _
    exact ⟨by decide, by simp [Str.empty, Str.length]⟩
  | [x], h => (h x (by simp)).mono (by simp)
  | x :: y :: r, h => by
    have ih := fits_join (ts := y :: r) fun t ht => h t (by simp at ht ⊢; exact .inr ht)
    show Fits (x ++ ", " ++ Str.join ", " (y :: r)) _
    refine (((h x (by simp)).app fits_lit2).app ih).mono ?_
    simp only [List.length_cons, Nat.add_mul, Nat.one_mul]
    omega
theorem fits_tuple {c : Nat} {ts : List Str} (h : ∀ t ∈ ts, Fits t c) : Fits (tupleText ts) (3 + ts.length * (c + 2)) := by
  unfold tupleText
  refine ((fits_lit1.app (fits_join h)).app (n := 2) ?_).mono (by omega)
  by_cases h1 : (ts.length == 1) = true
  · rw [if_pos h1]; exact fits_lit4
  · rw [if_neg h1]; exact fits_lit3
theorem fits_from {c : Nat} : ∀ {ts : List Str} {k : Nat} {acc : Str} {m : Nat}, Fits acc m → (∀ t ∈ ts, Fits t c) → Fits (textFrom k acc ts) (m + ts.length * (c + 2))
  | [], k, acc, m, ha, _ => ha.mono (by simp)
  | t :: ts, k, acc, m, ha, h => by
    show Fits (textFrom (k + 1) (acc ++ (if k > 0 then ", " else "" : String) ++ t) ts) _
    have hm : Fits (((if k > 0 then ", " else "" : String)) : Str) 2 := by
      split
      · exact fits_lit2
      · exact fits_lit0.mono (by omega)
    refine (fits_from ((ha.app hm).app (h t (by simp))) fun z hz => h z (by simp [hz])).mono ?_
    simp only [List.length_cons, Nat.add_mul, Nat.one_mul]
    omega
theorem fits_list {c : Nat} {ts : List Str} (h : ∀ t ∈ ts, Fits t c) : Fits (listText ts) (2 + ts.length * (c + 2)) := by
  unfold listText
  exact ((fits_from fits_lit5 h).app fits_lit6).mono (by omega)
theorem fits_dict {c : Nat} {ts : List Str} (h : ∀ t ∈ ts, Fits t c) : Fits (dictText ts) (2 + ts.length * (c + 2)) := by
  unfold dictText
  exact ((fits_lit7.app (fits_join h)).app fits_lit8).mono (by omega)
theorem fits_nat {n : Nat} (h : n < 1000) : Fits (toString (n : Int)) 3 := by
  have : ((toString (n : Int) : String) : Str) = MK.sT (dec (n : Int)) := (sT_dec _).symm
  show Fits ((toString (n : Int) : String) : Str) 3
  rw [this, dec_digs (by omega) (by omega)]
  exact Fits.sT (ok_digs ⟨n, h⟩) (digs_len _)
theorem char_let : ∀ c ∈ tLet, PySem.Builtin.Str.reprChar 39 c = [c] := by decide +kernel
theorem fold_let : ∀ (x : Tx) (acc : Array Nat), (∀ c ∈ x, c ∈ tLet) → x.foldl (fun out c => out ++ (PySem.Builtin.Str.reprChar 39 c).toArray) acc = acc ++ x.toArray
  | [], acc, _ => by simp
  | c :: x, acc, h => by
    rw [List.foldl_cons, char_let c (h c (by simp)), fold_let x _ fun d hd => h d (by simp [hd])]
    simp
theorem repr_word {x : Tx} (h : ∀ c ∈ x, c ∈ tLet) : reprText (MK.sT x) = MK.sT (39 :: (x ++ [39])) := by
  have hq : reprQuote (MK.sT x) = 39 := by
    unfold reprQuote
    rw [if_neg]
    have : (MK.sT x).cps.contains 39 = false := by
      unfold MK.sT
      rw [Bool.eq_false_iff]
      intro hc
      have hm : 39 ∈ x := by simpa using hc
      exact absurd (h 39 hm) (by decide)
    rw [this]; simp
  unfold reprText
  rw [hq]
  unfold MK.sT
  simp only [List.foldl_toArray, fold_let x _ h, Array.foldl_toList]
  congr 1
  simp
theorem fits_word {x : Tx} (h : ∀ c ∈ x, c ∈ tLet) (hl : x.length ≤ 6) : Fits (reprText (MK.sT x)) 8 := by
  rw [repr_word h]
  refine Fits.sT (okT_cons (by decide) (okT_app (okA fun c hc => ?_) (by decide))) (by simp; omega)
  have : ∀ c ∈ tLet, c < 1114112 := by decide
  exact this c (h c hc)
end MK

namespace MK
open PySem L2
theorem reprX_of {m : Mv} {S : Sto} {d : Dv} {p : PyData} {n : Nat} (h1 : rfy 8 S m = some d) (h2 : toPyX d = some p) (h3 : rooted p = true) (h4 : p.showable = true) (h5 : p.hasDict = false ∨ noL d = true) (h6 : p.depth ≤ 60) (h7 : Fits p.shown n) (hn : n ≤ 16777216) : fReprX [m] S = .ok (.val (.str p.shown.cps.toList)) S := by
  simp only [fReprX, h1, h2]
  rw [if_pos]
  have h8 := h7.2
  simp only [h3, h4, Bool.true_and, Bool.and_eq_true, decide_eq_true_eq, line_is]
  refine ⟨⟨?_, h6⟩, by omega⟩
  rcases h5 with h5 | h5
  · rw [h5]; rfl
  · rw [h5]; simp
end MK
namespace TheText
open PySem L2 MK
theorem xs_ints : ∀ ns : List Nat, toPyXs (ns.map fun n => Dv.int (n : Nat)) = some (ns.map fun n => PyData.int (n : Nat))
  | [] => rfl
  | n :: ns => by simp [toPyXs, toPyX, xs_ints ns]
theorem show_ints : ∀ ns : List Nat, (∀ n ∈ ns, n < 1000) → PyData.showableAll (ns.map fun n => PyData.int (n : Nat)) = true
  | [], _ => rfl
  | n :: ns, h => by
    have h0 : n < 1000 := h n (by simp)
    simp only [List.map_cons, PyData.showableAll, PyData.showable, decide_eq_true (log_nat h0), show_ints ns fun m hm => h m (by simp [hm])]; rfl
theorem dict_ints : ∀ ns : List Nat, PyData.hasDictAll (ns.map fun n => PyData.int (n : Nat)) = false
  | [] => rfl
  | n :: ns => by simp only [List.map_cons, PyData.hasDictAll, PyData.hasDict, dict_ints ns]; rfl
theorem dep_ints : ∀ ns : List Nat, PyData.depthAll (ns.map fun n => PyData.int (n : Nat)) = 0
  | [] => rfl
  | n :: ns => by simp only [List.map_cons, PyData.depthAll, PyData.depth, dep_ints ns]; rfl
theorem shown_ints : ∀ ns : List Nat, PyData.shownAll (ns.map fun n => PyData.int (n : Nat)) = ns.map fun n : Nat => ((toString ((n : Nat) : Int) : String) : Str)
  | [] => rfl
  | n :: ns => by simp only [List.map_cons, PyData.shownAll, shown_ints ns]; rfl
theorem repr_ns (ns : List Nat) (hl : ns.length ≤ 1000) (hn : ∀ n ∈ ns, n < 1000) : ∃ z, okT z = true ∧ ∀ S, fReprX [.val (.tup (ns.map fun n => .int (n : Nat)))] S = .ok (.val (.str z)) S := by
  have f : Fits (PyData.tuple (ns.map fun n => PyData.int (n : Nat))).shown (3 + ns.length * 5) := by
    show Fits (tupleText (PyData.shownAll _)) _
    rw [shown_ints]
    refine (fits_tuple (c := 3) fun t ht => ?_).mono (by simp)
    obtain ⟨n, hm, rfl⟩ := List.mem_map.mp ht
    exact fits_nat (hn n hm)
  refine ⟨_, f.1, fun S => reprX_of (d := .tup (ns.map fun n => .int (n : Nat))) (p := .tuple (ns.map fun n => PyData.int (n : Nat))) rfl ?_ rfl ?_ (.inl ?_) ?_ f (by omega)⟩
  · show (toPyXs _).map _ = _
    rw [xs_ints]; rfl
  · simp only [PyData.showable, show_ints ns hn]
  · simp only [PyData.hasDict, dict_ints ns]
  · simp only [PyData.depth, dep_ints ns]; omega
theorem shaped_ns (ns : List Nat) : eqD (.tup (ns.map fun n => .int (n : Nat))) (.tup (ns.map fun n => .int (n : Nat))) = some true := by
  have h1 : ∀ ns : List Nat, toPys (ns.map fun n => Dv.int (n : Nat)) = some (ns.map fun n => PyData.int (n : Nat)) := by
    intro ns
    induction ns with
    | nil => rfl
    | cons n ns ih => simp [toPys, toPy, ih]
  have h2 : ∀ ns : List Nat, PyData.canLayAll0 (ns.map fun n => PyData.int (n : Nat)) = true := by
    intro ns
    induction ns with
    | nil => rfl
    | cons n ns ih => simp [PyData.canLayAll0, PyData.canLay0, ih]
  have h3 : ∀ ns : List Nat, PyData.eqvAll (ns.map fun n => PyData.int (n : Nat)) (ns.map fun n => PyData.int (n : Nat)) = true := by
    intro ns
    induction ns with
    | nil => rfl
    | cons n ns ih => simp [PyData.eqvAll, PyData.eqv, ih]
  unfold eqD
  simp only [toPy, h1, Option.map_some, Option.bind_some, SeqAt.shaped, PyData.canLay0, h2, PyData.depth, dep_ints, PyData.eqv, h3]
  rfl
theorem ne_ns (ns : List Nat) (S : Sto) : fNe (.val (.tup (ns.map fun n => .int (n : Nat)))) (.val (.tup (ns.map fun n => .int (n : Nat)))) S = .ok (.val (.bl false)) S := by
  show (match eqD _ _ with | some b => Rz.ok (Mv.val (.bl (b != true))) S | none => Rz.stuck) = _
  rw [shaped_ns]; rfl
theorem ne_nil_ns (ns : List Nat) (S : Sto) : fNe (.val (.tup (ns.map fun n => .int (n : Nat)))) (.val (.tup [])) S = .ok (.val (.bl (!ns.isEmpty))) S := by
  have h1 : ∀ ns : List Nat, toPys (ns.map fun n => Dv.int (n : Nat)) = some (ns.map fun n => PyData.int (n : Nat)) := by
    intro ns
    induction ns with
    | nil => rfl
    | cons n ns ih => simp [toPys, toPy, ih]
  have h2 : ∀ ns : List Nat, PyData.canLayAll0 (ns.map fun n => PyData.int (n : Nat)) = true := by
    intro ns
    induction ns with
    | nil => rfl
    | cons n ns ih => simp [PyData.canLayAll0, PyData.canLay0, ih]
  have : eqD (.tup (ns.map fun n => .int (n : Nat))) (.tup []) = some ns.isEmpty := by
    unfold eqD
    simp only [toPy, h1, toPys, Option.map_some, Option.bind_some, SeqAt.shaped, PyData.canLay0, h2, PyData.canLayAll0, PyData.depth, dep_ints, PyData.depthAll, PyData.eqv]
    cases ns <;> rfl
  show (match eqD _ _ with | some b => Rz.ok (Mv.val (.bl (b != true))) S | none => Rz.stuck) = _
  rw [this]
  cases ns <;> rfl
/-! ### the dict and its items, shown -/
def entD (p : Pr) : Ky × Dv := (.inr p.1, .int p.2)
def entP (p : Pr) : PyData × PyData := (.str (MK.sT p.1), .int p.2)
theorem rfy_dict {S : Sto} {n : Nat} {ps : List Pr} (h : S[n]? = some (.dK (ps.map entM))) : rfy 8 S (.loc n) = some (.dK (ps.map entD)) := by
  unfold rfy
  rw [h]
  show (((ps.map entM).mapM fun p => (rfy 7 S p.2).map fun d => (p.1, d)).map Dv.dK) = _
  have : ∀ ps : List Pr, ((ps.map entM).mapM fun p => (rfy 7 S p.2).map fun d => (p.1, d)) = some (ps.map entD) := by
    intro ps
    induction ps with
    | nil => rfl
    | cons p ps ih => rw [List.map_cons, List.mapM_cons, ih]; rfl
  rw [this]; rfl
theorem repr_dict {q : Nat} (hq : q ≤ 1000) (ps : List Pr) (hl : ps.length ≤ 1000) (hf : Fine q ps) : ∃ z, okT z = true ∧ ∀ (S : Sto) (n : Nat), S[n]? = some (.dK (ps.map entM)) → fReprX [.loc n] S = .ok (.val (.str z)) S := by
  have hk : toPyXk (ps.map entD) = some (ps.map entP) := by
    clear hl hf
    induction ps with
    | nil => rfl
    | cons p ps ih => simp [toPyXk, toPyX, ih, entD, entP, keyPy]
  have hs : PyData.showableKv (ps.map entP) = true := by
    clear hl hk
    induction ps with
    | nil => rfl
    | cons p ps ih =>
      have := (hf p (by simp)).2
      simp only [List.map_cons, entP, PyData.showableKv, PyData.showable, decide_eq_true (log_nat (show p.2 < 1000 by omega)), Bool.true_and]
      exact ih fun z hz => hf z (by simp [hz])
  have hd : PyData.depthKv (ps.map entP) = 0 := by
    clear hl hk hs hf
    induction ps with
    | nil => rfl
    | cons p ps ih => simp only [List.map_cons, entP, PyData.depthKv, PyData.depth, ih]; rfl
  have hw : PyData.shownKv (ps.map entP) = ps.map fun p => reprText (MK.sT p.1) ++ (": " : Str) ++ ((toString (p.2 : Int) : String) : Str) := by
    clear hl hk hs hf hd
    induction ps with
    | nil => rfl
    | cons p ps ih => simp only [List.map_cons, entP, PyData.shownKv, PyData.shown, ih]
  have hno : noL (.dK (ps.map entD)) = true := by
    show noLk (ps.map entD) = true
    clear hl hk hs hf hd hw
    induction ps with
    | nil => rfl
    | cons p ps ih => simp only [List.map_cons, entD, noLk, noL, Bool.true_and]; exact ih
  have f : Fits (PyData.dict (ps.map entP)).shown (2 + ps.length * 15) := by
    show Fits (dictText (PyData.shownKv _)) _
    rw [hw]
    refine (fits_dict (c := 13) fun t ht => ?_).mono (by simp)
    obtain ⟨p, hp, rfl⟩ := List.mem_map.mp ht
    obtain ⟨h1, h2⟩ := hf p hp
    exact ((fits_word h1.let_ h1.len).app fits_lit9).app (fits_nat (by omega))
  refine ⟨_, f.1, fun S n h => reprX_of (rfy_dict h) (p := .dict (ps.map entP)) ?_ rfl ?_ (.inr hno) ?_ f (by omega)⟩
  · show (toPyXk _).map _ = _
    rw [hk]; rfl
  · simp only [PyData.showable, hs]
  · simp only [PyData.depth, hd]; omega
def siP (p : Pr) : Dv := .tup [.str p.1, .int p.2]
def siY (p : Pr) : PyData := .tuple [.str (MK.sT p.1), .int p.2]
theorem repr_items {q : Nat} (hq : q ≤ 1000) (ps : List Pr) (hl : ps.length ≤ 1000) (hf : Fine q ps) : ∃ z, okT z = true ∧ ∀ S, fReprX [.val (.lst (ps.map siP))] S = .ok (.val (.str z)) S := by
  have hk : toPyXs (ps.map siP) = some (ps.map siY) := by
    clear hl hf
    induction ps with
    | nil => rfl
    | cons p ps ih => simp [toPyXs, toPyX, ih, siP, siY]
  have hs : PyData.showableAll (ps.map siY) = true := by
    clear hl hk
    induction ps with
    | nil => rfl
    | cons p ps ih =>
      have := (hf p (by simp)).2
      simp only [List.map_cons, siY, PyData.showableAll, PyData.showable, decide_eq_true (log_nat (show p.2 < 1000 by omega)), Bool.true_and]
      exact ih fun z hz => hf z (by simp [hz])
  have hh : PyData.hasDictAll (ps.map siY) = false := by
    clear hl hk hs hf
    induction ps with
    | nil => rfl
    | cons p ps ih => simp only [List.map_cons, siY, PyData.hasDictAll, PyData.hasDict, Bool.false_or, Bool.or_false]; exact ih
  have hd : PyData.depthAll (ps.map siY) ≤ 1 := by
    clear hl hk hs hf hh
    induction ps with
    | nil => exact Nat.zero_le _
    | cons p ps ih =>
      simp only [List.map_cons, PyData.depthAll]
      have : (siY p).depth = 1 := by simp only [siY, PyData.depth, PyData.depthAll]; rfl
      rw [this]; omega
  have hw : PyData.shownAll (ps.map siY) = ps.map fun p => tupleText [reprText (MK.sT p.1), ((toString (p.2 : Int) : String) : Str)] := by
    clear hl hk hs hf hd hh
    induction ps with
    | nil => rfl
    | cons p ps ih => simp only [List.map_cons, PyData.shownAll, ih]; rfl
  have f : Fits (PyData.list (ps.map siY)).shown (2 + ps.length * 25) := by
    show Fits (listText (PyData.shownAll _)) _
    rw [hw]
    refine (fits_list (c := 23) fun t ht => ?_).mono (by simp)
    obtain ⟨p, hp, rfl⟩ := List.mem_map.mp ht
    obtain ⟨h1, h2⟩ := hf p hp
    refine (fits_tuple (c := 8) fun t ht => ?_).mono (by simp)
    rcases List.mem_cons.mp ht with rfl | ht
    · exact fits_word h1.let_ h1.len
    · rw [List.mem_singleton.mp ht]; exact (fits_nat (by omega)).mono (by omega)
  refine ⟨_, f.1, fun S => reprX_of (d := .lst (ps.map siP)) (p := .list (ps.map siY)) rfl ?_ rfl ?_ (.inl ?_) ?_ f (by omega)⟩
  · show (toPyXs _).map _ = _
    rw [hk]; rfl
  · simp only [PyData.showable, hs]
  · simp only [PyData.hasDict, hh]
  · simp only [PyData.depth]; omega
theorem list_items {S : Sto} {n : Nat} {ps : List Pr} {ρ : List (Option Mv)} {f : XE} (hf : f ρ S = .ok (.loc n) S) (h : S[n]? = some (.dK (ps.map entM))) : eListItems f ρ S = .ok (.val (.lst (ps.map siP))) S := by
  have : dvK (ps.map entM) = some (ps.map fun p => (.inr p.1, .int p.2)) := by
    clear h
    induction ps with
    | nil => rfl
    | cons p ps ih => simp [dvK, entM, ih] <;> simpa [entM] using ih
  unfold eListItems
  rw [hf, Rz.bind_ok]
  simp only [h, this]
  simp [itemM, siP, keyD]
theorem sort_items {S : Sto} {n : Nat} {ps : List Pr} {ρ : List (Option Mv)} {f : XE} (hn : (names ps).Nodup) (hf : f ρ S = .ok (.loc n) S) (h : S[n]? = some (.dK (ps.map entM))) : eSortItems f ρ S = .ok (.val (.lst ((srt ps).map siP))) S := by
  have e1 : siM (ps.map entM) = some (ps.map fun p => (p.1, (p.2 : Int))) := by
    clear h hn
    induction ps with
    | nil => rfl
    | cons p ps ih => simp [siM, entM, ih] <;> simpa [entM] using ih
  have e2 : sortI (ps.map fun p => (p.1, (p.2 : Int))) = (srt ps).map fun p => (p.1, (p.2 : Int)) := by
    refine (sortI_uniq ((srt_perm hn).map _) ?_).symm
    rw [List.pairwise_map]
    refine (srt_asc hn).imp fun {a b} h => ?_
    rw [leSI_iff]
    exact .inl h
  unfold eSortItems
  rw [hf, Rz.bind_ok]
  have hd : isDic S (.loc n) = true := by unfold isDic; simp [h]
  rw [if_pos hd, dicOf_loc h]
  simp only [e1, e2]
  simp [siD, siP]
end TheText

namespace TheText
open PySem L2 MK
theorem lc_state {β : Type} (P : β → Prop) (f : β → Mv) {i : Nat} {te : XE} {ρ : List (Option Mv)} (h : ∀ m S, PenAt S 0 → ∃ d S', P d ∧ Pn 0 S S' ∧ te (ρ.set i (some m)) S = .ok (f d) S') : ∀ (ms acc : List Mv) (S : Sto), PenAt S 0 → acc.length + ms.length ≤ 16777216 →
    ∃ (ds : List β) (S' : Sto), (∀ d ∈ ds, P d) ∧ ds.length = ms.length ∧ Pn 0 S S' ∧ lcS always (.one i) ρ xYes te ms acc S = .ok (acc ++ ds.map f) S'
  | [], acc, S, hp, _ => ⟨[], S, by simp, rfl, .refl hp, by rw [lcS_nil]; simp⟩
  | m :: ms, acc, S, hp, hl => by
    obtain ⟨d, S1, h1, h2, h3⟩ := h m S hp
    rw [List.length_cons] at hl
    obtain ⟨ds, S2, g1, g2, g3, g4⟩ := lc_state P f h ms (acc ++ [f d]) S1 h2.pen (by simp; omega)
    refine ⟨d :: ds, S2, fun x hx => ?_, by simp [g2], h2.trans g3, ?_⟩
    · rcases List.mem_cons.mp hx with rfl | hx
      · exact h1
      · exact g1 x hx
    · rw [lcS_cons]
      simp only [tgSet, xYes_eq, Rz.nox_ok, Rz.bind_ok, h3]
      rw [line_is, if_pos (by omega), g4]
      simp
theorem tupOf_ds (ds : List Dv) (S : Sto) : fTupOf [.val (.lst ds)] S = .ok (.val (.tup ds)) S := by
  simp only [fTupOf, seqOf_lst, vals_map]
theorem residues_ok {S : Sto} (hp : PenAt S 0) {q : Nat} (h0 : 2 ≤ q) (h1 : q ≤ 1000) {many : Nat} (hm : many ≤ 1000) : ∃ (ns : List Nat) (S' : Sto), (∀ n ∈ ns, n < q) ∧ ns.length = many ∧ Pn 0 S S' ∧ G_law_residues [.loc 0, .val (.int q), .val (.int many)] S = .ok (.val (.tup (ns.map fun n => .int (n : Nat)))) S' := by
  obtain ⟨ns, S', g1, g2, g3, g4⟩ := lc_state (fun n : Nat => n < q) (fun n => .val (.int (n : Nat))) (i := 3) (te := eMk G_law_draw (aCons (eVar 0) (aCons (eVar 1) aNil))) (ρ := [some (.loc 0), some (.val (.int q)), some (.val (.int many)), none]) (by
    intro m S hp
    obtain ⟨d, S1, d0, d1, hn, e⟩ := draw hp (q : Int) (by omega) (by omega)
    obtain ⟨d, rfl⟩ : ∃ k : Nat, d = (k : Int) := ⟨d.toNat, by omega⟩
    exact ⟨d, S1, by omega, hn, by simp only [eMk_eq, aCons_eq, aNil_eq, eVar_eq, List.set_cons_succ, List.set_cons_zero, List.getElem?_cons_zero, List.getElem?_cons_succ, Rz.bind_ok, e]⟩) (rangeL 0 many) [] S hp (by rw [rangeL_len]; simp; omega)
  rw [rangeL_len] at g2
  refine ⟨ns, S', g1, g2, g3, ?_⟩
  have hr : iRng1 (aCons (eVar 2) aNil) [some (.loc 0), some (.val (.int q)), some (.val (.int many)), none] S = .ok (rangeL 0 many, always) S := rngN (by rfl) (by omega)
  have em : ([] : List Mv) ++ ns.map (fun n => Mv.val (.int (n : Nat))) = (ns.map fun n => Dv.int (n : Nat)).map .val := by simp
  rw [em] at g4
  simp only [G_law_residues, fnS, g_law_residues, List.length_cons, List.length_nil, if_true, List.map_cons, List.map_nil, List.replicate, List.cons_append, List.nil_append, sRet_eq, eMk_eq, aCons_eq, aNil_eq, eLc_eq, hr, Rz.bind_ok, Tg.ix, wipeM, List.set_cons_succ, List.set_cons_zero, g4]
  rw [finL_ok' (by rw [List.length_map]; omega)]
  simp only [Rz.bind_ok, tupOf_ds, Rz.thn_ok, RS.fin_ret]
theorem join_nil : ∀ cs : Tx, joinT [] (cs.map fun c => [c]) = cs
  | [] => rfl
  | c :: cs => by rw [List.map_cons, joinT_cons, join_nil cs]; cases cs <;> simp
theorem variable_ok {S : Sto} (hp : PenAt S 0) : ∃ x S', Nm x ∧ Pn 0 S S' ∧ G_law_variable [.loc 0] S = .ok (.val (.str x)) S' := by
  obtain ⟨b, S1, b0, b1, n1, e1⟩ := draw hp 2 (by decide) (by decide)
  have hz : ∃ z : Tx, (∀ c ∈ z, c ∈ tLet) ∧ 0 < z.length ∧ z.length ≤ 26 ∧ atI [Mv.val (.str [97, 98, 122]), .val (.str [97, 98, 99, 100, 101, 102, 103, 104, 105, 106, 107, 108, 109, 110, 111, 112, 113, 114, 115, 116, 117, 118, 119, 120, 121, 122])] b = some (.val (.str z)) := by
    have : b = 0 ∨ b = 1 := by omega
    rcases this with rfl | rfl
    · exact ⟨_, by decide, by decide, by decide, rfl⟩
    · exact ⟨_, by decide, by decide, by decide, rfl⟩
  obtain ⟨z, z1, z2, z3, hz⟩ := hz
  obtain ⟨k, S2, k0, k1, n2, e2⟩ := draw n1.pen 6 (by decide) (by decide)
  obtain ⟨k, rfl⟩ : ∃ j : Nat, k = (j : Int) := ⟨k.toNat, by omega⟩
  obtain ⟨cs, S', g1, g2, g3, g4⟩ := lc_state (fun c : Nat => c ∈ tLet) (fun c => .val (.str [c])) (i := 2) (te := (eBin fIx (eVar 1) ((eMk G_law_draw (aCons (eVar 0) (aCons ((eMk fLen (aCons (eVar 1) (aNil)))) (aNil))))))) (ρ := [some (.loc 0), some (.val (.str z)), none]) (by
    intro m S hp
    obtain ⟨d, S1, d0, d1, hn, e⟩ := draw hp (z.length : Int) (by omega) (by omega)
    obtain ⟨d, rfl⟩ : ∃ k : Nat, d = (k : Int) := ⟨d.toNat, by omega⟩
    have hd : d < z.length := by omega
    refine ⟨z[d], S1, z1 _ (List.getElem_mem _), hn, ?_⟩
    simp only [eBin_eq, eMk_eq, aCons_eq, aNil_eq, eVar_eq, List.set_cons_succ, List.set_cons_zero, List.getElem?_cons_zero, List.getElem?_cons_succ, Rz.bind_ok, fLen_str, line_is, if_pos (show z.length ≤ 16777216 by omega), e, fIx_str, atI_n, List.getElem?_eq_getElem hd]) (rangeL 0 (1 + k)) [] S2 n2.pen (by rw [rangeL_len]; simp; omega)
  rw [rangeL_len] at g2
  refine ⟨cs, S', ⟨fun e => by rw [e] at g2; simp only [List.length_nil] at g2; omega, by omega, g1⟩, (n1.trans n2).trans g3, ?_⟩
  have hr : iRng1 (aCons ((eBin fAdd (eC (.int 1)) ((eMk G_law_draw (aCons (eVar 0) (aCons (eC (.int 6)) (aNil))))))) aNil) [some (.loc 0), some (.val (.str z)), none] S1 = .ok (rangeL 0 (1 + k), always) S2 := rngN (by
    simp only [aCons_eq, aNil_eq, eBin_eq, eC_eq, eMk_eq, eVar_eq, List.getElem?_cons_zero, Rz.bind_ok, e2, fAdd_int]
    rfl) (by omega)
  have em : ([] : List Mv) ++ cs.map (fun c => Mv.val (.str [c])) = ((cs.map fun c => [c]).map Dv.str).map .val := by simp
  rw [em] at g4
  have hs : ((cs.map fun c => ([c] : Tx)).map (fun x : Tx => x.length)).sum + (cs.map fun c => ([c] : Tx)).length * ([] : Tx).length ≤ 16777216 := by
    have := sum_le (fun x : Tx => x.length) 1 (cs.map fun c => ([c] : Tx)) (by
      intro x hx
      obtain ⟨c, _, rfl⟩ := List.mem_map.mp hx
      simp)
    simp only [List.length_map, List.length_nil] at *
    omega
  simp only [G_law_variable, fnS, g_law_variable, List.length_cons, List.length_nil, if_true, List.map_cons, List.map_nil, List.replicate, List.cons_append, List.nil_append]
  rw [seq_nx (ρ1 := [some (.loc 0), some (.val (.str z)), none]) (S1 := S1) (by
    simp [e1, mkLst, line_is, hz])]
  simp only [sRet_eq, eBm_eq, eC_eq, Rz.bind_ok, show ∀ S x, isStr S (.val (.str x)) = true from fun _ _ => rfl, if_true, aCons_eq, aNil_eq, eLc_eq, hr, Tg.ix, wipeM, List.set_cons_succ, List.set_cons_zero, g4]
  rw [finL_ok' (by rw [List.length_map, List.length_map]; omega)]
  simp only [Rz.bind_ok]
  rw [fJoin_ok hs, join_nil]
  rfl
/-! ### the values -/
def putP (ps : List Pr) (x : Pr) : List Pr := if x.1 ∈ names ps then ps.map (fun p => if p.1 = x.1 then x else p) else ps ++ [x]
theorem putP_ok (ps : List Pr) (x : Pr) : putKM (ps.map entM) (.inr x.1) (.val (.int x.2)) = (putP ps x).map entM := by
  unfold putP
  by_cases h : x.1 ∈ names ps
  · rw [if_pos h]
    unfold putKM
    rw [if_pos]
    · rw [List.map_map, List.map_map]
      refine List.map_congr_left fun p _ => ?_
      show (if (entM p).1 = Sum.inr x.1 then ((entM p).1, _) else entM p) = entM (if p.1 = x.1 then x else p)
      by_cases e : p.1 = x.1
      · rw [if_pos e, if_pos (show (entM p).1 = Sum.inr x.1 from congrArg Sum.inr e)]
        show (Sum.inr p.1, _) = (Sum.inr x.1, _)
        rw [e]
      · rw [if_neg e, if_neg (show ¬ (entM p).1 = Sum.inr x.1 from fun z => e (Sum.inr.inj z))]
    · obtain ⟨p, hp, e⟩ := List.mem_map.mp h
      rw [List.any_eq_true]
      exact ⟨entM p, List.mem_map.mpr ⟨p, hp, rfl⟩, decide_eq_true (congrArg Sum.inr e)⟩
  · rw [if_neg h]
    exact put_new fun p hp e => h (List.mem_map.mpr ⟨p, hp, e⟩)
theorem putP_names (ps : List Pr) (x : Pr) (hn : (names ps).Nodup) : (names (putP ps x)).Nodup := by
  unfold putP
  by_cases h : x.1 ∈ names ps
  · rw [if_pos h]
    have : names (ps.map fun p => if p.1 = x.1 then x else p) = names ps := by
      unfold names
      rw [List.map_map]
      refine List.map_congr_left fun p _ => ?_
      show (if p.1 = x.1 then x else p).1 = p.1
      by_cases e : p.1 = x.1
      · rw [if_pos e, e]
      · rw [if_neg e]
    rw [this]; exact hn
  · rw [if_neg h]
    unfold names at *
    rw [List.map_append, List.nodup_append]
    refine ⟨hn, by simp, fun a ha b hb e => ?_⟩
    simp at hb
    rw [e, hb] at ha
    exact h ha
theorem putP_fine {q : Nat} {ps : List Pr} {x : Pr} (hf : Fine q ps) (hx : Nm x.1 ∧ x.2 < q) : Fine q (putP ps x) := by
  intro p hp
  unfold putP at hp
  split at hp
  · obtain ⟨p', hp', e⟩ := List.mem_map.mp hp
    split at e
    · rw [← e]; exact hx
    · rw [← e]; exact hf p' hp'
  · rcases List.mem_append.mp hp with h | h
    · exact hf p h
    · rw [List.mem_singleton.mp h]; exact hx
theorem putP_len (ps : List Pr) (x : Pr) : (putP ps x).length ≤ ps.length + 1 := by
  unfold putP
  split
  · simp
  · simp
end TheText

namespace TheText
open PySem L2 MK
def iP (ps : List Pr) : List (Ky × Int) := ps.map fun p => (.inr p.1, (p.2 : Int))
theorem ints_ent : ∀ ps : List Pr, intsM (ps.map entM) = some (iP ps)
  | [] => rfl
  | p :: ps => by
    have := ints_ent ps
    simp only [List.map_cons, entM, intsM, iP] at this ⊢
    rw [this]; rfl
theorem eqKI_nil (ps : List Pr) : eqKI (iP ps) [] = ps.isEmpty := by
  cases ps with
  | nil => rfl
  | cons p ps => simp [eqKI, iP]
theorem valI_at : ∀ {ps : List Pr}, (names ps).Nodup → ∀ p ∈ ps, valI (iP ps) (.inr p.1) = some (p.2 : Int)
  | [], _, p, h => by simp at h
  | a :: ps, hn, p, h => by
    have hn' : a.1 ∉ names ps ∧ (names ps).Nodup := by simpa [names] using hn
    rcases List.mem_cons.mp h with rfl | h
    · simp [valI, iP, List.find?_cons]
    · have ne : ¬ a.1 = p.1 := fun e => hn'.1 (by rw [e]; exact List.mem_map.mpr ⟨p, h, rfl⟩)
      rw [← valI_at hn'.2 p h]
      simp [valI, iP, List.find?_cons, ne]
theorem eqKI_srt {ps : List Pr} (hn : (names ps).Nodup) : eqKI (iP (srt ps)) (iP ps) = true := by
  unfold eqKI
  rw [Bool.and_eq_true, beq_iff_eq, List.all_eq_true]
  refine ⟨by simp [iP, srt_len ps hn], fun x hx => ?_⟩
  obtain ⟨p, hp, rfl⟩ := List.mem_map.mp hx
  rw [beq_iff_eq]
  exact valI_at hn p ((srt_perm hn).mem_iff.mp hp)
theorem eqI_at {S : Sto} {n m : Nat} {ps qs : List Pr} (h : S[n]? = some (.dK (ps.map entM))) (g : S[m]? = some (.dK (qs.map entM))) (neg : Bool) : fEqI neg (.loc n) (.loc m) S = .ok (.val (.bl (eqKI (iP ps) (iP qs) != neg))) S := by
  simp only [fEqI, dicOf_loc h, dicOf_loc g, ints_ent]
theorem srt_self {ps : List Pr} (h : Asc ps) (hn : (names ps).Nodup) : srt ps = ps := by
  have : sortT (names ps) = names ps := sortT_self (by
    unfold names
    rw [List.pairwise_map]
    refine List.Pairwise.imp (fun {a b} h => ?_) h
    have : ¬ b.1 < a.1 := ltTx_asym h
    simp [leT, this])
  unfold srt
  rw [this, map_names hn]
/-! ### the fixed text -/
def e26 : List Pr := tLet.map fun c => ([c], 1)
theorem e26_fine : Fine 2 e26 := by
  intro p hp
  obtain ⟨c, hc, rfl⟩ := List.mem_map.mp hp
  exact ⟨⟨by simp, by simp, fun d hd => by rw [List.mem_singleton.mp hd]; exact hc⟩, (by show 1 < 2; decide)⟩
theorem e26_asc : Asc e26 := by unfold Asc e26; decide
theorem e26_nd : (names e26).Nodup := by decide
theorem every_ok {ρ : List (Option Mv)} {S : Sto} (hl : 3 < ρ.length) : (eBm fJoin isStr (eC (.str [32])) (aCons ((eLc finL (iAny (eC (.str [97, 98, 99, 100, 101, 102, 103, 104, 105, 106, 107, 108, 109, 110, 111, 112, 113, 114, 115, 116, 117, 118, 119, 120, 121, 122]))) (.one 3) (xYes) ((eBin fAdd (eVar 3) (eC (.str [61, 49])))))) (aNil))) ρ S = .ok (.val (.str (asgT e26))) S := by
  have lc := lc_map (i := 3) (te := eBin fAdd (eVar 3) (eC (.str [61, 49]))) (ρ := ρ.set 3 none) (S := S) (g := fun c : Nat => .val (.str [c])) (f := fun c => .val (.str (itT ([c], 1)))) tLet [] (by
    intro c _
    simp only [eBin_eq, eVar_eq, eC_eq, List.getElem?_set_self (show 3 < (ρ.set 3 none).length by simpa using hl), Rz.bind_ok, fAdd_str, line_is, List.length_cons, List.length_nil]
    rfl) (by decide)
  have em : ([] : List Mv) ++ tLet.map (fun c => Mv.val (.str (itT ([c], 1)))) = ((e26.map itT).map Dv.str).map .val := by simp [e26]
  rw [em] at lc
  simp only [eBm_eq, eC_eq, Rz.bind_ok, show ∀ S x, isStr S (.val (.str x)) = true from fun _ _ => rfl, if_true, aCons_eq, aNil_eq, eLc_eq, iAny_eq, Tg.ix, wipeM]
  rw [show ([97, 98, 99, 100, 101, 102, 103, 104, 105, 106, 107, 108, 109, 110, 111, 112, 113, 114, 115, 116, 117, 118, 119, 120, 121, 122] : Tx) = tLet from rfl, lc, Rz.bind_ok, finL_ok' (by decide)]
  simp only [Rz.bind_ok]
  rw [fJoin_ok (it_sum 2 (by decide) e26 (by decide) e26_fine)]
  rfl
/-! ### the texts of the law -/
theorem line_ok {a b c d e f h j k l m n o : Option Mv} {ns : List Nat} {S : Sto} (hl : ns.length ≤ 1000) (hn : ∀ n ∈ ns, n < 1000) : (eIf ((xB ((eBin fNe (eVar 6) ((eMk mkTup (aNil))))))) ((eBm fJoin isStr (eC (.str [32])) (aCons ((eLc finL (iAny (eVar 6)) (.one 8) (xYes) ((eMk fStr (aCons (eVar 8) (aNil)))))) (aNil)))) (eC (.str [45]))) [a, b, c, d, e, f, some (.val (.tup (ns.map fun n => .int (n : Nat)))), h, none, j, k, l, m, n, o] S = .ok (.val (.str (resT ns))) S := by
  simp only [eIf_eq, xB_eq, eBin_eq, eMk_eq, aNil_eq, eVar_eq, List.getElem?_cons_zero, List.getElem?_cons_succ, Rz.bind_ok, show ∀ S, mkTup [] S = .ok (.val (.tup [])) S from fun _ => rfl, ne_nil_ns]
  unfold resT
  cases ns with
  | nil => rfl
  | cons n0 ns =>
    rw [if_neg (by simp)]
    simp only [List.isEmpty_cons, Bool.not_false, eBm_eq, eC_eq, Rz.bind_ok, show ∀ S x, isStr S (.val (.str x)) = true from fun _ _ => rfl, if_true, aCons_eq, aNil_eq, eLc_eq, iAny_eq, eVar_eq, List.getElem?_cons_zero, List.getElem?_cons_succ, Tg.ix, wipeM]
    rw [lc_res (n0 :: ns) hl hn (by simp)]
    rw [Rz.bind_ok, finL_ok' (by rw [List.length_map, List.length_map]; omega)]
    simp only [Rz.bind_ok]
    rw [fJoin_ok (res_sum _ hl)]
theorem page_ok {a b c d e f g h i k l m o : Option Mv} {ps : List Pr} {q n : Nat} {S : Sto} (hS : S[n]? = some (.dK (ps.map entM))) (hn : (names ps).Nodup) (hf : Fine q ps) (hq : q ≤ 1000) (h64 : ps.length < 64) : (eIf ((xB ((eBin (fEqI true) (eVar 9) (eNewK))))) ((eBm fJoin isStr (eC (.str [32])) (aCons ((eLc finL (iAny ((eMk (fSortS mkLst) (aCons (eVar 9) (aNil))))) (.one 13) (xYes) ((eBin fAdd ((eBin fAdd (eVar 13) (eC (.str [61])))) ((eMk fStr (aCons ((eBin fDGet (eVar 9) (eVar 13))) (aNil)))))))) (aNil)))) (eC (.str [45]))) [a, b, c, d, e, f, g, h, i, some (.loc n), k, l, m, none, o] S = .ok (.val (.str (asgT (srt ps)))) (S ++ [.dK []]) := by
  have hlt : n < S.length := by
    rcases Nat.lt_or_ge n S.length with q | q
    · exact q
    · rw [List.getElem?_eq_none q] at hS; cases hS
  have hS2 : (S ++ [.dK []])[n]? = some (.dK (ps.map entM)) := by rw [List.getElem?_append_left hlt]; exact hS
  have hE : (S ++ [.dK []])[S.length]? = some (.dK (([] : List Pr).map entM)) := by simp
  have hs := srt_fine hn hf
  have hl : (srt ps).length ≤ 1000 := by rw [srt_len ps hn]; omega
  have e3 : (sortT (names ps)).length = ps.length := by rw [(sortT_perm _).length_eq]; simp [names]
  simp only [eIf_eq, xB_eq, eBin_eq, eNewK_eq, eVar_eq, List.getElem?_cons_zero, List.getElem?_cons_succ, Rz.bind_ok, eqI_at hS2 hE]
  rw [show iP ([] : List Pr) = [] from rfl, eqKI_nil]
  unfold asgT
  by_cases hps : ps = []
  · subst hps
    have : srt [] = [] := (srt_perm (ps := []) (by simp [names])).eq_nil
    rw [this]; rfl
  · have hne : ps.isEmpty = false := by cases ps with
      | nil => exact absurd rfl hps
      | cons _ _ => rfl
    have hsn : srt ps ≠ [] := fun e => hps (by have := srt_len ps hn; rw [e] at this; simpa using this.symm)
    rw [hne, if_neg hsn]
    have lc := lc_map (i := 13) (te := (eBin fAdd ((eBin fAdd (eVar 13) (eC (.str [61])))) ((eMk fStr (aCons ((eBin fDGet (eVar 9) (eVar 13))) (aNil)))))) (ρ := [a, b, c, d, e, f, g, h, i, some (.loc n), k, l, m, none, o]) (S := S ++ [.dK []]) (g := fun x : Tx => .val (.str x)) (f := fun x => .val (.str (itT (x, valP ps x)))) (sortT (names ps)) [] (by
      intro x hx
      obtain ⟨v, hv, e1, e2⟩ := get_at hS2 hn hx
      obtain ⟨g1, g2⟩ := hf _ hv
      have l1 := g1.len
      have l2 := digs_len v
      have c1 : x.length + ([61] : Tx).length ≤ 16777216 := by simp at l1 ⊢; omega
      have c2 : (x ++ [61]).length + (digs v).length ≤ 16777216 := by simp at l1 ⊢; omega
      simp only [List.set_cons_succ, List.set_cons_zero, eBin_eq, eMk_eq, aCons_eq, aNil_eq, eVar_eq, eC_eq, List.getElem?_cons_zero, List.getElem?_cons_succ, Rz.bind_ok, fAdd_str, line_is, if_pos c1, e2, fStr_int (log_nat (show v < 1000 by omega)), dec_nat (show v < 1000 by omega), if_pos c2, e1]
      simp [itT]) (by rw [e3]; simp; omega)
    rw [List.nil_append] at lc
    have ej : (sortT (names ps)).map (fun x => Mv.val (.str (itT (x, valP ps x)))) = (((srt ps).map itT).map Dv.str).map .val := by
      unfold srt; simp
    rw [ej] at lc
    have ei : ((sortT (names ps)).map Dv.str).map Mv.val = (sortT (names ps)).map fun x => Mv.val (.str x) := by simp
    simp only [show (false != true) = true from rfl, eBm_eq, eC_eq, Rz.bind_ok, show ∀ S x, isStr S (.val (.str x)) = true from fun _ _ => rfl, if_true, aCons_eq, aNil_eq, eLc_eq, iAny_eq, eMk_eq, eVar_eq, List.getElem?_cons_zero, List.getElem?_cons_succ, Tg.ix, wipeM, List.set_cons_succ, List.set_cons_zero, sorted_keys hS2 h64, ei, lc]
    rw [finL_ok' (by rw [List.length_map, List.length_map]; omega)]
    simp only [Rz.bind_ok]
    rw [fJoin_ok (it_sum q hq _ hl hs)]
end TheText

namespace TheText
open PySem L2 MK
/-- within the loop that draws the values -/
def IV (sc ev v3 v4 v6 v7 v8 v11 v12 v13 v14 : Option Mv) (q n9 : Nat) (n : Nat) (ρ : List (Option Mv)) (S : Sto) : Prop :=
  ∃ (ps : List Pr) (t : Option Mv), ρ = [sc, some (.loc 0), ev, v3, v4, some (.val (.int q)), v6, v7, v8, some (.loc n9), t, v11, v12, v13, v14] ∧ PenAt S 0 ∧ S[n9]? = some (.dK (ps.map entM)) ∧ (names ps).Nodup ∧ Fine q ps ∧ ps.length ≤ n
theorem vals_step {sc ev v3 v4 v6 v7 v8 v11 v12 v13 v14 : Option Mv} {q n9 n : Nat} (h0 : 2 ≤ q) (h1 : q ≤ 1000) (h9 : n9 ≠ 0) (hn : n < 1000) (m : Mv) (ρ : List (Option Mv)) (S : Sto) (h : IV sc ev v3 v4 v6 v7 v8 v11 v12 v13 v14 q n9 n ρ S) :
    ∃ ρ' S', ((tgName 10 m ρ S).only.seq fun ρ1 S1 => fb_law1 ρ1 S1) = .nx ρ' S' ∧ IV sc ev v3 v4 v6 v7 v8 v11 v12 v13 v14 q n9 (n + 1) ρ' S' := by
  obtain ⟨ps, t, rfl, hp, hs, hnd, hf, hl⟩ := h
  obtain ⟨d, S1, d0, d1, n1, e1⟩ := draw hp (q : Int) (by omega) (by omega)
  obtain ⟨d, rfl⟩ : ∃ k : Nat, d = (k : Int) := ⟨d.toNat, by omega⟩
  obtain ⟨x, S2, hx, n2, e2⟩ := variable_ok n1.pen
  have hs2 : S2[n9]? = some (.dK (ps.map entM)) := by rw [n2.oth n9 h9, n1.oth n9 h9, hs]
  have eset : fSetD (.loc n9) (.val (.str x)) (.val (.int d)) S2 = .ok () (S2.set n9 (.dK ((putP ps (x, d)).map entM))) := by
    rw [fSetD_loc hs2 (k := .inr x) rfl (by rw [List.length_map]; omega)]
    have := putP_ok ps (x, d)
    rw [← this]
  refine ⟨[sc, some (.loc 0), ev, v3, v4, some (.val (.int q)), v6, v7, v8, some (.loc n9), some m, v11, v12, v13, v14], S2.set n9 (.dK ((putP ps (x, d)).map entM)), ?_, putP ps (x, d), some m, rfl, ?_, lset hs2, putP_names _ _ hnd, putP_fine hf ⟨hx, by show d < q; omega⟩, by have := putP_len ps (x, d); omega⟩
  · simp only [tgName_eq, RS.only_nx, RS.seq_nx, List.set_cons_succ, List.set_cons_zero, sAsg_eq, eMk_eq, aCons_eq, aNil_eq, eVar_eq, List.getElem?_cons_zero, List.getElem?_cons_succ, Rz.bind_ok, e1, Rz.thn_ok, tgSub_eq, e2, eset]
  · obtain ⟨o, h, ho⟩ := n2.pen
    exact ⟨o, by rw [List.getElem?_set_ne h9]; exact h, ho⟩
/-- between two turns -/
def Inv (sc ev v3 : Option Mv) (ρ : List (Option Mv)) (S : Sto) : Prop := ∃ v4 v5 v6 v7 v9 v10 v11 v12 v14 : Option Mv, ρ = [sc, some (.loc 0), ev, v3, v4, v5, v6, v7, none, v9, v10, v11, v12, none, v14] ∧ PenAt S 0
theorem many_ok {S : Sto} (hp : PenAt S 0) {ρ : List (Option Mv)} (h1 : ρ[1]? = some (some (.loc 0))) : ∃ (many : Nat) (S' : Sto), many ≤ 200 ∧ Pn 0 S S' ∧ ((eBin fIx ((eMk mkLst (aCons (eC (.int 0)) (aCons (eC (.int 1)) (aCons ((eMk G_law_draw (aCons (eVar 1) (aCons (eC (.int 9)) (aNil))))) (aCons (eC (.int 200)) (aNil))))))) ((eMk G_law_draw (aCons (eVar 1) (aCons (eC (.int 4)) (aNil))))))) ρ S = .ok (.val (.int many)) S' := by
  obtain ⟨a, S1, a0, a1, n1, e1⟩ := draw hp 9 (by decide) (by decide)
  obtain ⟨b, S2, b0, b1, n2, e2⟩ := draw n1.pen 4 (by decide) (by decide)
  have hq : ∃ many : Nat, many ≤ 200 ∧ atI [Mv.val (.int 0), .val (.int 1), .val (.int a), .val (.int 200)] b = some (.val (.int many)) := by
    have : b = 0 ∨ b = 1 ∨ b = 2 ∨ b = 3 := by omega
    rcases this with rfl | rfl | rfl | rfl
    · exact ⟨0, by omega, rfl⟩
    · exact ⟨1, by omega, rfl⟩
    · exact ⟨a.toNat, by omega, by rw [Int.toNat_of_nonneg a0]; rfl⟩
    · exact ⟨200, by omega, rfl⟩
  obtain ⟨many, hm, hq⟩ := hq
  refine ⟨many, S2, hm, n1.trans n2, ?_⟩
  simp [h1, e1, e2, mkLst, line_is, hq]
theorem app_at {S : Sto} {n : Nat} {o o' : Ob} (h : S[n]? = some o) : (S ++ [o'])[n]? = some o := by
  have : n < S.length := by
    rcases Nat.lt_or_ge n S.length with q | q
    · exact q
    · rw [List.getElem?_eq_none q] at h; cases h
  rw [List.getElem?_append_left this]; exact h
theorem pen_app {S : Sto} {o' : Ob} (h : PenAt S 0) : PenAt (S ++ [o']) 0 := by
  obtain ⟨o, h, ho⟩ := h
  exact ⟨o, app_at h, ho⟩
theorem at_lt {S : Sto} {n : Nat} {o : Ob} (h : S[n]? = some o) : n < S.length := by
  rcases Nat.lt_or_ge n S.length with q | q
  · exact q
  · rw [List.getElem?_eq_none q] at h; cases h
theorem numbers_ok {X : XE} {F : SFn} {S1 S2 S3 : Sto} {a b c d e f g h i k l m n : Option Mv} {w x y r : Mv} (hX : X [a, some w, b, c, d, some x, e, f, g, h, i, k, l, m, n] S1 = .ok y S2) (hF : F [w, x, y] S2 = .ok r S3) :
    sSet 6 (eMk F (aCons (eVar 1) (aCons (eVar 5) (aCons X aNil)))) [a, some w, b, c, d, some x, e, f, g, h, i, k, l, m, n] S1 = .nx [a, some w, b, c, d, some x, some r, f, g, h, i, k, l, m, n] S3 := by
  simp only [sSet_eq, eMk_eq, aCons_eq, aNil_eq, eVar_eq, List.getElem?_cons_zero, List.getElem?_cons_succ, Rz.bind_ok, hX, hF, Rz.thn_ok, List.set_cons_succ, List.set_cons_zero]
theorem turn_ok {sc ev v3 : Option Mv} {m : Mv} {ρ : List (Option Mv)} {S : Sto} (hi : Inv sc ev v3 ρ S) : ∃ ρ' S', ((tgName 4 m ρ S).only.seq fun ρ1 S1 => fb_law ρ1 S1) = .nx ρ' S' ∧ Inv sc ev v3 ρ' S' := by
  obtain ⟨v4, v5, v6, v7, v9, v10, v11, v12, v14, rfl, hp⟩ := hi
  simp only [tgName_eq, RS.only_nx, RS.seq_nx, List.set_cons_succ, List.set_cons_zero]
  obtain ⟨q, S1, q2, q3, n1, e1⟩ := modulus_ok hp
  obtain ⟨q, rfl⟩ : ∃ k : Nat, q = (k : Int) := ⟨q.toNat, by omega⟩
  obtain ⟨many, S2, hm, n2, e2⟩ := many_ok n1.pen (ρ := [sc, some (.loc 0), ev, v3, some m, some (.val (.int q)), v6, v7, none, v9, v10, v11, v12, none, v14]) rfl
  obtain ⟨ns, S3, hns, hlen, n3, e3⟩ := residues_ok n2.pen (q := q) (by omega) (by omega) (many := many) (by omega)
  have hns' : ∀ n ∈ ns, n < 1000 := fun n h => by have := hns n h; omega
  have hp3 := n3.pen
  obtain ⟨zr, ozr, ezr⟩ := repr_ns ns (by omega) hns'
  have ork : okT (resT ns) = true := by
    unfold resT
    split
    · decide
    · exact ok_join (by decide) fun x hx => by
        obtain ⟨n, hn, rfl⟩ := List.mem_map.mp hx
        exact ok_dig' (hns' n hn)
  have efr := formatR_ok ns (by omega) hns'
  have epr := parseR_ok (q := q) (by omega) ns (by omega) hns
  -- the values
  obtain ⟨k, S5, k0, k1, n5, e5⟩ := draw (pen_app (o' := .dK []) hp3) 7 (by decide) (by decide)
  obtain ⟨k, rfl⟩ : ∃ j : Nat, k = (j : Int) := ⟨k.toNat, by omega⟩
  have h30 : S3.length ≠ 0 := by
    obtain ⟨o, h, _⟩ := hp3
    have := at_lt h
    omega
  obtain ⟨ρ6, S6, e6, ps, t, rfl, hp6, hs6, hnd, hf, hl⟩ := forS_cntB (t := tgName 10) (g := fb_law1) 7 (IV sc ev v3 (some m) (some (.val (.tup (ns.map fun n => .int (n : Nat))))) (some (.val (.str (resT ns)))) none v11 v12 none v14 q S3.length) (rangeL 0 k) 0 (by rw [rangeL_len]; omega) (by
    intro n hn m' _ ρ S h
    exact vals_step (by omega) (by omega) h30 (by omega) m' ρ S h) [sc, some (.loc 0), ev, v3, some m, some (.val (.int q)), some (.val (.tup (ns.map fun n => .int (n : Nat)))), some (.val (.str (resT ns))), none, some (.loc S3.length), v10, v11, v12, none, v14] S5 ⟨[], v10, rfl, n5.pen, by rw [n5.oth _ h30]; simp, by simp [names], by intro p hp; simp at hp, by simp⟩
  rw [rangeL_len] at hl
  have h64 : ps.length < 64 := by omega
  obtain ⟨zd, ozd, ezd⟩ := repr_dict (q := q) (by omega) ps (by omega) hf
  have hsf := srt_fine hnd hf
  have hsa := srt_asc hnd
  have hsl : (srt ps).length ≤ 1000 := by rw [srt_len ps hnd]; omega
  obtain ⟨oas, _⟩ := asg_facts (q := q) (by omega) hsl hsf
  obtain ⟨zi, ozi, ezi⟩ := repr_items (q := q) (by omega) (srt ps) hsl hsf
  have hs7 : (S6 ++ [.dK []])[S3.length]? = some (.dK (ps.map entM)) := app_at hs6
  have efa := formatA_ok (S := S6 ++ [.dK []]) hs7 hnd hf (by omega) h64
  have epa := parseA_ok (q := q) (by omega) (srt ps) hsl hsf hsa
  obtain ⟨S7, eS7⟩ : ∃ S7, S7 = S6 ++ [Ob.dK []] := ⟨_, rfl⟩
  obtain ⟨S8, eS8⟩ : ∃ S8, S8 = S7 ++ [Ob.dK ((srt ps).map entM)] := ⟨_, rfl⟩
  rw [← eS7] at hs7 efa
  have hs8 : S8[S3.length]? = some (.dK (ps.map entM)) := by rw [eS8]; exact app_at hs7
  have hi8 : S8[S7.length]? = some (.dK ((srt ps).map entM)) := by rw [eS8]; simp
  have hne : S3.length ≠ S7.length := by
    have := at_lt hs7
    omega
  obtain ⟨S9, eS9⟩ : ∃ S9, S9 = S8.set S7.length (.dK (putKM ((srt ps).map entM) (.inr [101, 120, 116, 114, 97]) (.val (.int 0)))) := ⟨_, rfl⟩
  have hs9 : S9[S3.length]? = some (.dK (ps.map entM)) := by rw [eS9, List.getElem?_set_ne (Ne.symm hne)]; exact hs8
  have eset : fSetD (.loc S7.length) (.val (.str [101, 120, 116, 114, 97])) (.val (.int 0)) S8 = .ok () S9 := by
    rw [fSetD_loc hi8 (k := .inr [101, 120, 116, 114, 97]) rfl (by rw [List.length_map]; omega), ← eS9]
  have hsA : (S9 ++ [Ob.dK ((srt ps).map entM)])[S3.length]? = some (.dK (ps.map entM)) := app_at hs9
  have hiA : (S9 ++ [Ob.dK ((srt ps).map entM)])[S9.length]? = some (.dK ((srt ps).map entM)) := by simp
  have hpA : PenAt (S9 ++ [Ob.dK ((srt ps).map entM)]) 0 := by
    refine pen_app ?_
    have h1 := pen_app (o' := .dK ((srt ps).map entM)) (pen_app (o' := .dK []) hp6)
    rw [← eS7, ← eS8] at h1
    obtain ⟨o, h, ho⟩ := h1
    refine ⟨o, ?_, ho⟩
    rw [eS9, List.getElem?_set_ne (by have := at_lt hs7; omega)]; exact h
  refine ⟨[sc, some (.loc 0), ev, v3, some m, some (.val (.int q)), some (.val (.tup (ns.map fun n => .int (n : Nat)))), some (.val (.str (resT ns))), none, some (.loc S3.length), t, some (.val (.str zd)), some (.val (.str (asgT (srt ps)))), none, some (.loc S7.length)], S9 ++ [Ob.dK ((srt ps).map entM)], ?_, _, _, _, _, _, _, _, _, _, rfl, hpA⟩
  simp only [fb_law]
  rw [seq_nx (ρ1 := [sc, some (.loc 0), ev, v3, some m, some (.val (.int q)), v6, v7, none, v9, v10, v11, v12, none, v14]) (S1 := S1) (by
    simp only [sSet_eq, eMk_eq, aCons_eq, aNil_eq, eVar_eq, List.getElem?_cons_zero, List.getElem?_cons_succ, Rz.bind_ok, e1, Rz.thn_ok, List.set_cons_succ, List.set_cons_zero])]
  rw [seq_nx (numbers_ok e2 e3)]
  rw [seq_nx (ρ1 := [sc, some (.loc 0), ev, v3, some m, some (.val (.int q)), some (.val (.tup (ns.map fun n => .int (n : Nat)))), some (.val (.str (resT ns))), none, v9, v10, v11, v12, none, v14]) (S1 := S3) (by
    rw [sSet_eq, line_ok (by omega) hns']; rfl)]
  rw [seq_nx (ρ1 := [sc, some (.loc 0), ev, v3, some m, some (.val (.int q)), some (.val (.tup (ns.map fun n => .int (n : Nat)))), some (.val (.str (resT ns))), none, v9, v10, v11, v12, none, v14]) (S1 := S3) (by
    simp only [sIf_eq, xOr_eq, xB_eq, eBin_eq, eMk_eq, aCons_eq, aNil_eq, eVar_eq, List.getElem?_cons_zero, List.getElem?_cons_succ, Rz.bind_ok, callP1, kwF, pick, List.length_cons, List.length_nil, if_true, efr, liftP_ok, fEqq_str true _ ork ork, beq_self_eq_true, show (true != true) = false from rfl, Rz.thn_ok, sNil_eq])]
  rw [seq_nx (ρ1 := [sc, some (.loc 0), ev, v3, some m, some (.val (.int q)), some (.val (.tup (ns.map fun n => .int (n : Nat)))), some (.val (.str (resT ns))), none, v9, v10, v11, v12, none, v14]) (S1 := S3) (by
    simp only [sIf_eq, xOr_eq, xB_eq, eBin_eq, eMk_eq, aCons_eq, aNil_eq, eVar_eq, List.getElem?_cons_zero, List.getElem?_cons_succ, Rz.bind_ok, callP2, kwF, pick, List.length_cons, List.length_nil, if_true, epr, liftP_ok, ezr, fEqq_str true _ ozr ozr, ne_ns, beq_self_eq_true, show (true != true) = false from rfl, Rz.thn_ok, sNil_eq])]
  rw [seq_nx (ρ1 := [sc, some (.loc 0), ev, v3, some m, some (.val (.int q)), some (.val (.tup (ns.map fun n => .int (n : Nat)))), some (.val (.str (resT ns))), none, some (.loc S3.length), v10, v11, v12, none, v14]) (S1 := S3 ++ [.dK []]) (by
    simp only [sSet_eq, eNewK_eq, Rz.thn_ok, List.set_cons_succ, List.set_cons_zero])]
  rw [seq_nx (ρ1 := [sc, some (.loc 0), ev, v3, some m, some (.val (.int q)), some (.val (.tup (ns.map fun n => .int (n : Nat)))), some (.val (.str (resT ns))), none, some (.loc S3.length), t, v11, v12, none, v14]) (S1 := S6) (by
    rw [sFor_eq, rngN (n := k) (S1 := S5) (by
      simp only [aCons_eq, aNil_eq, eMk_eq, eC_eq, eVar_eq, List.getElem?_cons_zero, List.getElem?_cons_succ, Rz.bind_ok, e5]) (by omega)]
    simp only [Rz.thn_ok]
    exact e6)]
  rw [seq_nx (ρ1 := [sc, some (.loc 0), ev, v3, some m, some (.val (.int q)), some (.val (.tup (ns.map fun n => .int (n : Nat)))), some (.val (.str (resT ns))), none, some (.loc S3.length), t, some (.val (.str zd)), v12, none, v14]) (S1 := S6) (by
    simp only [sSet_eq, eMk_eq, aCons_eq, aNil_eq, eVar_eq, List.getElem?_cons_zero, List.getElem?_cons_succ, Rz.bind_ok, ezd S6 _ hs6, Rz.thn_ok, List.set_cons_succ, List.set_cons_zero])]
  rw [seq_nx (ρ1 := [sc, some (.loc 0), ev, v3, some m, some (.val (.int q)), some (.val (.tup (ns.map fun n => .int (n : Nat)))), some (.val (.str (resT ns))), none, some (.loc S3.length), t, some (.val (.str zd)), some (.val (.str (asgT (srt ps)))), none, v14]) (S1 := S7) (by
    rw [sSet_eq, page_ok hs6 hnd hf (by omega) h64, ← eS7]; rfl)]
  rw [seq_nx (ρ1 := [sc, some (.loc 0), ev, v3, some m, some (.val (.int q)), some (.val (.tup (ns.map fun n => .int (n : Nat)))), some (.val (.str (resT ns))), none, some (.loc S3.length), t, some (.val (.str zd)), some (.val (.str (asgT (srt ps)))), none, v14]) (S1 := S7) (by
    simp only [sIf_eq, xOr_eq, xB_eq, eBin_eq, eMk_eq, aCons_eq, aNil_eq, eVar_eq, List.getElem?_cons_zero, List.getElem?_cons_succ, Rz.bind_ok, kwF, pick, List.length_cons, List.length_nil, if_true, efa, ezd S7 _ hs7, fEqq_str true _ oas oas, fEqq_str true _ ozd ozd, beq_self_eq_true, show (true != true) = false from rfl, Rz.thn_ok, sNil_eq])]
  rw [seq_nx (ρ1 := [sc, some (.loc 0), ev, v3, some m, some (.val (.int q)), some (.val (.tup (ns.map fun n => .int (n : Nat)))), some (.val (.str (resT ns))), none, some (.loc S3.length), t, some (.val (.str zd)), some (.val (.str (asgT (srt ps)))), none, some (.loc S7.length)]) (S1 := S8) (by
    simp only [sSet_eq, eMk_eq, aCons_eq, aNil_eq, eVar_eq, List.getElem?_cons_zero, List.getElem?_cons_succ, Rz.bind_ok, epa S7, ← eS8, Rz.thn_ok, List.set_cons_succ, List.set_cons_zero])]
  rw [seq_nx (ρ1 := [sc, some (.loc 0), ev, v3, some m, some (.val (.int q)), some (.val (.tup (ns.map fun n => .int (n : Nat)))), some (.val (.str (resT ns))), none, some (.loc S3.length), t, some (.val (.str zd)), some (.val (.str (asgT (srt ps)))), none, some (.loc S7.length)]) (S1 := S8) (by
    simp only [sIf_eq, xB_eq, eBin_eq, eMk_eq, aCons_eq, aNil_eq, list_items (f := eVar 14) (ρ := [sc, some (.loc 0), ev, v3, some m, some (.val (.int q)), some (.val (.tup (ns.map fun n => .int (n : Nat)))), some (.val (.str (resT ns))), none, some (.loc S3.length), t, some (.val (.str zd)), some (.val (.str (asgT (srt ps)))), none, some (.loc S7.length)]) rfl hi8, sort_items (f := eVar 9) (ρ := [sc, some (.loc 0), ev, v3, some m, some (.val (.int q)), some (.val (.tup (ns.map fun n => .int (n : Nat)))), some (.val (.str (resT ns))), none, some (.loc S3.length), t, some (.val (.str zd)), some (.val (.str (asgT (srt ps)))), none, some (.loc S7.length)]) hnd rfl hs8, Rz.bind_ok, ezi, fEqq_str true _ ozi ozi, beq_self_eq_true, show (true != true) = false from rfl, Rz.thn_ok, sNil_eq])]
  rw [seq_nx (ρ1 := [sc, some (.loc 0), ev, v3, some m, some (.val (.int q)), some (.val (.tup (ns.map fun n => .int (n : Nat)))), some (.val (.str (resT ns))), none, some (.loc S3.length), t, some (.val (.str zd)), some (.val (.str (asgT (srt ps)))), none, some (.loc S7.length)]) (S1 := S9) (by
    simp only [sAsg_eq, eC_eq, tgSub_eq, eVar_eq, List.getElem?_cons_zero, List.getElem?_cons_succ, Rz.thn_ok, eset, RS.only_nx])]
  simp only [sIf_eq, xB_eq, eBin_eq, eMk_eq, aCons_eq, aNil_eq, eVar_eq, List.getElem?_cons_zero, List.getElem?_cons_succ, Rz.bind_ok, kwF, pick, List.length_cons, List.length_nil, if_true, epa S9, eqI_at hiA hsA, eqKI_srt hnd, show (true != true) = false from rfl, Rz.thn_ok, sNil_eq]
theorem law_ok (zs : List Int) : ∃ S', fnS 1 15 g_law [.val (.lst (zs.map .int))] [] = .ok (.val (.bl true)) S' := by
  obtain ⟨o, ho, ep⟩ := pen_ok zs
  simp only [fnS, g_law, List.length_cons, List.length_nil, if_true, List.map_cons, List.map_nil, List.replicate, List.cons_append, List.nil_append]
  obtain ⟨sc, hsc⟩ : ∃ sc, sc = some (Mv.val (.lst (zs.map .int))) := ⟨_, rfl⟩
  rw [seq_nx (ρ1 := [sc, some (.loc 0), none, none, none, none, none, none, none, none, none, none, none, none, none]) (S1 := [o]) (by
    subst hsc
    simp only [sSet_eq, eMk_eq, aCons_eq, aNil_eq, eVar_eq, List.getElem?_cons_zero, Rz.bind_ok, ep, Rz.thn_ok, List.set_cons_succ, List.set_cons_zero])]
  rw [seq_nx (ρ1 := [sc, some (.loc 0), some (.val (.str (asgT e26))), none, none, none, none, none, none, none, none, none, none, none, none]) (S1 := [o]) (by
    rw [sSet_eq, every_ok (by simp)]; rfl)]
  obtain ⟨oas, _⟩ := asg_facts (q := 2) (by decide) (sp := e26) (by decide) e26_fine
  have e1 := parseA_ok (q := 2) (by decide) e26 (by decide) e26_fine e26_asc [o]
  have e2 := formatA_ok (S := [o] ++ [.dK (e26.map entM)]) (n := [o].length) (ps := e26) (q := 2) (by simp) e26_nd e26_fine (by decide) (by decide)
  rw [srt_self e26_asc e26_nd] at e2
  rw [seq_nx (ρ1 := [sc, some (.loc 0), some (.val (.str (asgT e26))), none, none, none, none, none, none, none, none, none, none, none, none]) (S1 := [o] ++ [.dK (e26.map entM)]) (by
    have e1' : G_parse_assignment [.val (.str (asgT e26)), .val (.int 2)] [o] = .ok (.loc [o].length) ([o] ++ [.dK (e26.map entM)]) := e1
    simp only [sIf_eq, xB_eq, eBin_eq, eMk_eq, aCons_eq, aNil_eq, eC_eq, eVar_eq, List.getElem?_cons_zero, List.getElem?_cons_succ, Rz.bind_ok, e1', e2, fEqq_str true _ oas oas, beq_self_eq_true, show (true != true) = false from rfl, Rz.thn_ok, sNil_eq])]
  obtain ⟨ρ2, S2, e3, v4, v5, v6, v7, v9, v10, v11, v12, v14, rfl, hp2⟩ := forS_inv (t := tgName 4) (g := fb_law) (Inv sc (some (.val (.str (asgT e26)))) none) (rangeL 0 5) (fun m _ ρ S hi => turn_ok hi) [sc, some (.loc 0), some (.val (.str (asgT e26))), none, none, none, none, none, none, none, none, none, none, none, none] ([o] ++ [.dK (e26.map entM)]) ⟨none, none, none, none, none, none, none, none, none, rfl, ⟨o, rfl, ho⟩⟩
  rw [seq_nx (ρ1 := [sc, some (.loc 0), some (.val (.str (asgT e26))), none, v4, v5, v6, v7, none, v9, v10, v11, v12, none, v14]) (S1 := S2) (by
    simp only [sFor_eq, rng5, Rz.thn_ok]; exact e3)]
  exact ⟨S2, rfl⟩
end TheText

section
open PySem PySem.W PyProof.Rows
set_option maxHeartbeats 0 in
theorem PySem.Challenge.cw_maskedlist_k71_residues_and_assignments_holds : PySem.Challenge.rw_maskedlist_k71_residues_and_assignments.Holds :=
  head (by
  k_fill
  refine MK.walk_top (l := PySem.Challenge.rw_maskedlist_k71_residues_and_assignments) (n := 63) (x := "script") (G := MK.fnS 1 15 TheText.g_law) rfl (by decide) rfl (fun w h Y => PySem.W.kIn_of Y) ?F ?law
-- printed by gen.py: the head's facts
  case F =>
    intro w mg fa h KX G hmg
    refine' (have b_int := MK.mk_none (x := "int") KX G ?a; ?nx3); (case a => k_is)
    refine' (have b_len := MK.mk_none (x := "len") KX G ?a; ?nx4); (case a => k_is)
    refine' (have b_list := MK.mk_none (x := "list") KX G ?a; ?nx5); (case a => k_is)
    refine' (have b_range := MK.mk_none (x := "range") KX G ?a; ?nx6); (case a => k_is)
    refine' (have b_repr := MK.mk_none (x := "repr") KX G ?a; ?nx7); (case a => k_is)
    refine' (have b_sorted := MK.mk_none (x := "sorted") KX G ?a; ?nx8); (case a => k_is)
    refine' (have b_str := MK.mk_none (x := "str") KX G ?a; ?nx9); (case a => k_is)
    refine' (have b_tuple := MK.mk_none (x := "tuple") KX G ?a; ?nx10); (case a => k_is)
    refine' (have c_DIGITS := MK.mk_str (x := "DIGITS") (z := [48, 49, 50, 51, 52, 53, 54, 55, 56, 57]) KX G ?a ?e; ?nx11); (case a => k_is); (case e => decide +kernel)
    refine' (have c_LAST_NAME := MK.mk_str (x := "LAST_NAME") (z := [122, 122, 122, 122, 122, 122]) KX G ?a ?e; ?nx12); (case a => k_is); (case e => decide +kernel)
    refine' (have c_LETTERS := MK.mk_str (x := "LETTERS") (z := [97, 98, 99, 100, 101, 102, 103, 104, 105, 106, 107, 108, 109, 110, 111, 112, 113, 114, 115, 116, 117, 118, 119, 120, 121, 122]) KX G ?a ?e; ?nx13); (case a => k_is); (case e => decide +kernel)
    refine' (have c_MAX_LETTERS := MK.mk_int (x := "MAX_LETTERS") (i := 6) KX G ?a; ?nx14); (case a => k_is)
    refine' (have d_format_residues := MK.mk_defkw (x := "format_residues") (st := (TheText.top 7)) (ps := ["residues"]) (ks := ["residues"]) (ix := [0]) KX G ?a ?l ?c ?k ?b ?bk; ?nx15); (case a => k_is); (case l => k_is); (case c => k_is); (case k => k_is); (case b => exact fun _ _ _ _ _ _ us hl => match us, hl with | [_], _ => rfl); (case bk => exact fun _ _ _ _ _ _ us hl => match us, hl with | [_], _ => rfl)
    refine' (have d_format_assignment := MK.mk_defkw (x := "format_assignment") (st := (TheText.top 8)) (ps := ["assignment"]) (ks := ["assignment"]) (ix := [0]) KX G ?a ?l ?c ?k ?b ?bk; ?nx16); (case a => k_is); (case l => k_is); (case c => k_is); (case k => k_is); (case b => exact fun _ _ _ _ _ _ us hl => match us, hl with | [_], _ => rfl); (case bk => exact fun _ _ _ _ _ _ us hl => match us, hl with | [_], _ => rfl)
    refine' (have d_read_residue := MK.mk_def (x := "read_residue") (st := (TheText.top 9)) (ps := ["text", "start", "modulus"]) KX G ?a ?l ?c ?k ?b; ?nx17); (case a => k_is); (case l => k_is); (case c => k_is); (case k => k_is); (case b => exact fun _ _ _ _ _ _ us hl => match us, hl with | [_, _, _], _ => rfl)
    refine' (have d_is_empty_mark := MK.mk_def (x := "is_empty_mark") (st := (TheText.top 10)) (ps := ["text"]) KX G ?a ?l ?c ?k ?b; ?nx18); (case a => k_is); (case l => k_is); (case c => k_is); (case k => k_is); (case b => exact fun _ _ _ _ _ _ us hl => match us, hl with | [_], _ => rfl)
    refine' (have d_parse_residues := MK.mk_defkw (x := "parse_residues") (st := (TheText.top 11)) (ps := ["text", "modulus"]) (ks := ["modulus", "text"]) (ix := [1, 0]) KX G ?a ?l ?c ?k ?b ?bk; ?nx19); (case a => k_is); (case l => k_is); (case c => k_is); (case k => k_is); (case b => exact fun _ _ _ _ _ _ us hl => match us, hl with | [_, _], _ => rfl); (case bk => exact fun _ _ _ _ _ _ us hl => match us, hl with | [_, _], _ => rfl)
    refine' (have d_read_name_after := MK.mk_def (x := "read_name_after") (st := (TheText.top 12)) (ps := ["text", "start", "previous"]) KX G ?a ?l ?c ?k ?b; ?nx20); (case a => k_is); (case l => k_is); (case c => k_is); (case k => k_is); (case b => exact fun _ _ _ _ _ _ us hl => match us, hl with | [_, _, _], _ => rfl)
    refine' (have d_parse_assignment := MK.mk_defkw (x := "parse_assignment") (st := (TheText.top 13)) (ps := ["text", "modulus"]) (ks := ["modulus", "text"]) (ix := [1, 0]) KX G ?a ?l ?c ?k ?b ?bk; ?nx21); (case a => k_is); (case l => k_is); (case c => k_is); (case k => k_is); (case b => exact fun _ _ _ _ _ _ us hl => match us, hl with | [_, _], _ => rfl); (case bk => exact fun _ _ _ _ _ _ us hl => match us, hl with | [_, _], _ => rfl)
    refine' (have d_law_pen := MK.mk_def (x := "_law_pen") (st := (TheText.top 15)) (ps := ["script"]) KX G ?a ?l ?c ?k ?b; ?nx22); (case a => k_is); (case l => k_is); (case c => k_is); (case k => k_is); (case b => exact fun _ _ _ _ _ _ us hl => match us, hl with | [_], _ => rfl)
    refine' (have d_law_fresh := MK.mk_def (x := "_law_fresh") (st := (TheText.top 16)) (ps := ["pen"]) KX G ?a ?l ?c ?k ?b; ?nx23); (case a => k_is); (case l => k_is); (case c => k_is); (case k => k_is); (case b => exact fun _ _ _ _ _ _ us hl => match us, hl with | [_], _ => rfl)
    refine' (have d_law_draw := MK.mk_def (x := "_law_draw") (st := (TheText.top 17)) (ps := ["pen", "many"]) KX G ?a ?l ?c ?k ?b; ?nx24); (case a => k_is); (case l => k_is); (case c => k_is); (case k => k_is); (case b => exact fun _ _ _ _ _ _ us hl => match us, hl with | [_, _], _ => rfl)
    refine' (have d_law_modulus := MK.mk_def (x := "_law_modulus") (st := (TheText.top 18)) (ps := ["pen"]) KX G ?a ?l ?c ?k ?b; ?nx25); (case a => k_is); (case l => k_is); (case c => k_is); (case k => k_is); (case b => exact fun _ _ _ _ _ _ us hl => match us, hl with | [_], _ => rfl)
    refine' (have d_law_residues := MK.mk_def (x := "_law_residues") (st := (TheText.top 19)) (ps := ["pen", "q", "many"]) KX G ?a ?l ?c ?k ?b; ?nx26); (case a => k_is); (case l => k_is); (case c => k_is); (case k => k_is); (case b => exact fun _ _ _ _ _ _ us hl => match us, hl with | [_, _, _], _ => rfl)
    refine' (have d_law_variable := MK.mk_def (x := "_law_variable") (st := (TheText.top 20)) (ps := ["pen"]) KX G ?a ?l ?c ?k ?b; ?nx27); (case a => k_is); (case l => k_is); (case c => k_is); (case k => k_is); (case b => exact fun _ _ _ _ _ _ us hl => match us, hl with | [_], _ => rfl)
    refine' (have law_at := MK.mk_law (x := "law") (st := (TheText.top 21)) (arg := "script") KX G hmg ?a ?l ?c ?k ?b; ?nx28); (case a => k_is); (case l => k_is); (case c => k_is); (case k => k_is); (case b => exact fun _ _ _ _ _ _ _ => rfl)
    obtain ⟨fd, Fl, hbind⟩ := law_at
    exact ⟨fd, hbind, fun base _ _ => TheText.all_ok Fl ⟨b_int, b_len, b_list, b_range, b_repr, b_sorted, b_str, b_tuple, c_DIGITS, c_LAST_NAME, c_LETTERS, c_MAX_LETTERS, d_format_residues, d_format_assignment, d_read_residue, d_is_empty_mark, d_parse_residues, d_read_name_after, d_parse_assignment, d_law_pen, d_law_fresh, d_law_draw, d_law_modulus, d_law_residues, d_law_variable⟩⟩
  case law => exact fun ns _ => TheText.law_ok ns)
end
