import PyProof.Rows.All
import Wide.All
import OpenK.AllK
import Wide.FinOn
import PyProof.EqAt
import PyProof.EqKinds
import PyProof.TupleCall
import Open.SpecLaws
import KE.OsGo
import HandS.Base
import HandS.Call
import HandS.List
import HandS.Comp
import HandS.Dict
import HandS.Iter
import HandS.Text
import HandS.Exc
import HandS.ExcOwn
import HandS.Words
import HandS.WordsExc
import HandS.IsInst
import HandS.Style
import HandS.TupAny
import HandS.Deep
import HandS.TupLe
import HandS.StrMore
import HandS.StrSplit
import HandS.FStr
import HandS.Replace
import HandS.Rev
import HandS.Zip
import HandS.Conv
import HandS.RaiseMore
import HandS.TupLen
import HandS.More
import HandS.WordsDict
import HandS.TryMany
import KE.KExcSuper
import KE.KSuper
import HandS.ExcField
import HandS.ExcIs
import KE.KExcIs
import HandS.ForSpec
import PySem.Challenge.RW_headless_k03_heads_are_checked
set_option Elab.async false
set_option linter.all false
set_option maxRecDepth 100000
set_option maxHeartbeats 4000000
/-! HL: plain data for what a program of tables reckons: each expression is read as a plain function of the names' data. -/
namespace HL
open PySem L2

/-! ### data -/
inductive D where
  | non | bl (b : Bool) | int (i : Int) | str (x : Str)
  | tup (xs : List D) | lst (xs : List D) | dic (t : Bool) (kvs : List (D × D)) | ins (c : Str) (fs : List (Str × D))
/-- an error: its class, its one field, what stands there -/
structure Er where
  cls : Str
  fld : Str
  arg : D
inductive R (α : Type) where
  | ok (a : α) | er (e : Er) | stuck
def R.bind {α β : Type} (r : R α) (k : α → R β) : R β := match r with
  | .ok a => k a
  | .er e => .er e
  | .stuck => .stuck
@[simp] theorem R.bind_ok {α β : Type} {a : α} {k : α → R β} : (R.ok a).bind k = k a := rfl
@[simp] theorem R.bind_er {α β : Type} {e : Er} {k : α → R β} : (R.er e).bind k = .er e := rfl
@[simp] theorem R.bind_stuck {α β : Type} {k : α → R β} : (R.stuck : R α).bind k = .stuck := rfl
/-- only where it raises nothing -/
def R.nr {α : Type} (r : R α) : R α := match r with
  | .ok a => .ok a
  | _ => .stuck
@[simp] theorem R.nr_ok {α : Type} {a : α} : (R.ok a).nr = .ok a := rfl

/-! ### data in an abstract heap of things that stay -/
abbrev Cl := Str → Option Addr
def keyD : D → Option Key
  | .int i => some (.inl i)
  | .str x => some (.inr x)
  | _ => none
def keysD : List D → Option (List Key)
  | [] => some []
  | d :: r => match keyD d, keysD r with
    | some k, some ks => some (k :: ks)
    | _, _ => none
def keyT : D → Option (List Key)
  | .tup xs => keysD xs
  | _ => none
mutual
def Rep (cl : Cl) (F : Hp) : D → V → Prop
  | .non, v => v = .non
  | .bl b, v => v = .bl b
  | .int i, v => v = .int i
  | .str x, v => v = .str x
  | .tup xs, v => ∃ p vs, v = .ref p ∧ F p = some (.tup vs) ∧ RepL cl F xs vs ∧ xs.length ≤ sizeLine
  | .lst xs, v => ∃ p vs, v = .ref p ∧ F p = some (.lst vs) ∧ RepL cl F xs vs ∧ xs.length ≤ sizeLine
  | .dic false kvs, v => ∃ p ks, v = .ref p ∧ F p = some (.dK ks) ∧ RepK cl F kvs ks
  | .dic true kvs, v => ∃ p ks, v = .ref p ∧ F p = some (.dT ks) ∧ RepT cl F kvs ks
  | .ins c fs, v => ∃ p C dx gs, v = .ref p ∧ F p = some (.ins C dx gs) ∧ cl c = some C ∧ RepF cl F fs gs
def RepL (cl : Cl) (F : Hp) : List D → List V → Prop
  | [], vs => vs = []
  | d :: ds, vs => ∃ v r, vs = v :: r ∧ Rep cl F d v ∧ RepL cl F ds r
def RepK (cl : Cl) (F : Hp) : List (D × D) → List (Key × V) → Prop
  | [], ks => ks = []
  | (k, d) :: r, ks => ∃ q v s, ks = (q, v) :: s ∧ keyD k = some q ∧ Rep cl F d v ∧ RepK cl F r s
def RepT (cl : Cl) (F : Hp) : List (D × D) → List (List Key × V) → Prop
  | [], ks => ks = []
  | (k, d) :: r, ks => ∃ q v s, ks = (q, v) :: s ∧ keyT k = some q ∧ Rep cl F d v ∧ RepT cl F r s
def RepF (cl : Cl) (F : Hp) : List (Str × D) → List (Str × V) → Prop
  | [], gs => gs = []
  | (n, d) :: r, gs => ∃ v s, gs = (n, v) :: s ∧ Rep cl F d v ∧ RepF cl F r s
end
/-- what stands at an address, as data -/
def ObjD (cl : Cl) (F : Hp) : D → HO → Prop
  | .tup xs, u => ∃ vs, u = .tup vs ∧ RepL cl F xs vs ∧ xs.length ≤ sizeLine
  | .lst xs, u => ∃ vs, u = .lst vs ∧ RepL cl F xs vs ∧ xs.length ≤ sizeLine
  | .dic false kvs, u => ∃ ks, u = .dK ks ∧ RepK cl F kvs ks
  | .dic true kvs, u => ∃ ks, u = .dT ks ∧ RepT cl F kvs ks
  | .ins c fs, u => ∃ C dx gs, u = .ins C dx gs ∧ cl c = some C ∧ RepF cl F fs gs
  | _, _ => False
/-- what can be changed -/
def mutD : D → Bool
  | .lst _ => true | .dic _ _ => true | .ins _ _ => true | _ => false
def ORep (cl : Cl) (F H : Hp) (p : Addr) (d : D) : Prop := ∃ u, H p = some u ∧ ObjD cl F d u ∧ mutD d = true
def Ext (F F' : Hp) : Prop := ∀ p u, F p = some u → F' p = some u
/-- what is never locked: a tuple, an instance -/
def fixO : HO → Bool
  | .tup _ => true | .ins _ _ _ => true | _ => false
def Sub (F H : Hp) : Prop := ∀ p u, F p = some u → Rd H p u ∧ (fixO u = true → H p = some u)
theorem Sub.rd {F H : Hp} (h : Sub F H) {p : Addr} {u : HO} (e : F p = some u) : Rd H p u := (h p u e).1
theorem Sub.fix {F H : Hp} (h : Sub F H) {p : Addr} {u : HO} (e : F p = some u) (k : fixO u = true := by rfl) : H p = some u := (h p u e).2 k
theorem Ext.refl (F : Hp) : Ext F F := fun _ _ h => h
theorem Ext.trans {F F1 F2 : Hp} (a : Ext F F1) (b : Ext F1 F2) : Ext F F2 := fun p u h => b p u (a p u h)
section
variable {cl : Cl} {F F' : Hp}
mutual
theorem Rep.ext (e : Ext F F') : ∀ {d : D} {v : V}, Rep cl F d v → Rep cl F' d v
  | .non, v, h => by simp only [Rep] at h ⊢; exact h
  | .bl _, v, h => by simp only [Rep] at h ⊢; exact h
  | .int _, v, h => by simp only [Rep] at h ⊢; exact h
  | .str _, v, h => by simp only [Rep] at h ⊢; exact h
  | .tup xs, v, h => by simp only [Rep] at h ⊢; obtain ⟨p, vs, a, b, c, z⟩ := h; exact ⟨p, vs, a, e _ _ b, RepL.ext e c, z⟩
  | .lst xs, v, h => by simp only [Rep] at h ⊢; obtain ⟨p, vs, a, b, c, z⟩ := h; exact ⟨p, vs, a, e _ _ b, RepL.ext e c, z⟩
  | .dic false kvs, v, h => by simp only [Rep] at h ⊢; obtain ⟨p, vs, a, b, c⟩ := h; exact ⟨p, vs, a, e _ _ b, RepK.ext e c⟩
  | .dic true kvs, v, h => by simp only [Rep] at h ⊢; obtain ⟨p, vs, a, b, c⟩ := h; exact ⟨p, vs, a, e _ _ b, RepT.ext e c⟩
  | .ins c fs, v, h => by simp only [Rep] at h ⊢; obtain ⟨p, C, dx, gs, a, b, z, c⟩ := h; exact ⟨p, C, dx, gs, a, e _ _ b, z, RepF.ext e c⟩
theorem RepL.ext (e : Ext F F') : ∀ {ds : List D} {vs : List V}, RepL cl F ds vs → RepL cl F' ds vs
  | [], vs, h => by simp only [RepL] at h ⊢; exact h
  | d :: ds, vs, h => by simp only [RepL] at h ⊢; obtain ⟨v, r, a, b, c⟩ := h; exact ⟨v, r, a, Rep.ext e b, RepL.ext e c⟩
theorem RepK.ext (e : Ext F F') : ∀ {ds : List (D × D)} {vs : List (Key × V)}, RepK cl F ds vs → RepK cl F' ds vs
  | [], vs, h => by simp only [RepK] at h ⊢; exact h
  | (k, d) :: ds, vs, h => by simp only [RepK] at h ⊢; obtain ⟨q, v, r, a, z, b, c⟩ := h; exact ⟨q, v, r, a, z, Rep.ext e b, RepK.ext e c⟩
theorem RepT.ext (e : Ext F F') : ∀ {ds : List (D × D)} {vs : List (List Key × V)}, RepT cl F ds vs → RepT cl F' ds vs
  | [], vs, h => by simp only [RepT] at h ⊢; exact h
  | (k, d) :: ds, vs, h => by simp only [RepT] at h ⊢; obtain ⟨q, v, r, a, z, b, c⟩ := h; exact ⟨q, v, r, a, z, Rep.ext e b, RepT.ext e c⟩
theorem RepF.ext (e : Ext F F') : ∀ {ds : List (Str × D)} {vs : List (Str × V)}, RepF cl F ds vs → RepF cl F' ds vs
  | [], vs, h => by simp only [RepF] at h ⊢; exact h
  | (k, d) :: ds, vs, h => by simp only [RepF] at h ⊢; obtain ⟨v, r, a, b, c⟩ := h; exact ⟨v, r, a, Rep.ext e b, RepF.ext e c⟩
end
theorem ObjD.ext (e : Ext F F') {d : D} {u : HO} (h : ObjD cl F d u) : ObjD cl F' d u := by
  cases d with
  | tup xs => obtain ⟨vs, a, b, c⟩ := h; exact ⟨vs, a, b.ext e, c⟩
  | lst xs => obtain ⟨vs, a, b, c⟩ := h; exact ⟨vs, a, b.ext e, c⟩
  | dic t kvs => cases t with
    | false => obtain ⟨vs, a, b⟩ := h; exact ⟨vs, a, b.ext e⟩
    | true => obtain ⟨vs, a, b⟩ := h; exact ⟨vs, a, b.ext e⟩
  | ins c fs => obtain ⟨C, dx, gs, a, b, c⟩ := h; exact ⟨C, dx, gs, a, b, c.ext e⟩
  | _ => exact h.elim
theorem ObjD.rep {p : Addr} {d : D} {u : HO} (h : ObjD cl F d u) (hp : F p = some u) : Rep cl F d (.ref p) := by
  cases d with
  | tup xs => obtain ⟨vs, rfl, b, c⟩ := h; simp only [Rep]; exact ⟨p, vs, rfl, hp, b, c⟩
  | lst xs => obtain ⟨vs, rfl, b, c⟩ := h; simp only [Rep]; exact ⟨p, vs, rfl, hp, b, c⟩
  | dic t kvs => cases t with
    | false => obtain ⟨vs, rfl, b⟩ := h; simp only [Rep]; exact ⟨p, vs, rfl, hp, b⟩
    | true => obtain ⟨vs, rfl, b⟩ := h; simp only [Rep]; exact ⟨p, vs, rfl, hp, b⟩
  | ins c fs => obtain ⟨C, dx, gs, rfl, b, c⟩ := h; simp only [Rep]; exact ⟨p, C, dx, gs, rfl, hp, b, c⟩
  | _ => exact h.elim
/-- of what is no atom: the address and what stands there -/
def atomD : D → Bool
  | .non => true | .bl _ => true | .int _ => true | .str _ => true | _ => false
theorem Rep.obj {d : D} {v : V} (h : Rep cl F d v) (ha : atomD d = false) : ∃ p u, v = .ref p ∧ F p = some u ∧ ObjD cl F d u := by
  cases d with
  | tup xs => simp only [Rep] at h; obtain ⟨p, vs, a, b, c⟩ := h; exact ⟨p, _, a, b, vs, rfl, c⟩
  | lst xs => simp only [Rep] at h; obtain ⟨p, vs, a, b, c⟩ := h; exact ⟨p, _, a, b, vs, rfl, c⟩
  | dic t kvs => cases t with
    | false => simp only [Rep] at h; obtain ⟨p, vs, a, b, c⟩ := h; exact ⟨p, _, a, b, vs, rfl, c⟩
    | true => simp only [Rep] at h; obtain ⟨p, vs, a, b, c⟩ := h; exact ⟨p, _, a, b, vs, rfl, c⟩
  | ins c fs => simp only [Rep] at h; obtain ⟨p, C, dx, gs, a, b, c⟩ := h; exact ⟨p, _, a, b, C, dx, gs, rfl, c⟩
  | _ => cases ha
theorem Rep.atom {d : D} {v : V} (h : Rep cl F d v) (ha : atomD d = true) : Rep cl F' d v := by
  cases d <;> first | (simp only [Rep] at h ⊢; exact h) | cases ha
end

/-! ### a state: what stays, what is one's own -/
structure Kp (F H F' H' : Hp) : Prop where
  ext : Ext F F'
  same : Same H H'
  fr : ∀ p u, H p = some u → F p = none → F' p = none
theorem Kp.refl (F H : Hp) : Kp F H F H := ⟨Ext.refl F, Same.refl H, fun _ _ _ h => h⟩
theorem Kp.trans {F H F1 H1 F2 H2 : Hp} (a : Kp F H F1 H1) (b : Kp F1 H1 F2 H2) : Kp F H F2 H2 :=
  ⟨a.ext.trans b.ext, a.same.trans b.same, fun p u h n => b.fr p u (a.same p u h) (a.fr p u h n)⟩
inductive Slot where
  | no | val (d : D) | own (d : D) | lent (d : D)
abbrev HEnv := List Slot
/-- one's own, lent or not -/
def oL : Slot → Option D
  | .own d => some d
  | .lent d => some d
  | _ => none
theorem oL_own {env : HEnv} {i : Nat} {d : D} (h : env[i]? = some (Slot.own d)) : env[i]?.bind oL = some d := by rw [h]; rfl
theorem oL_lent {env : HEnv} {i : Nat} {d : D} (h : env[i]? = some (Slot.lent d)) : env[i]?.bind oL = some d := by rw [h]; rfl
/-- the ground: the heap of things that stay at the start, and where the lent slots' things lie -/
abbrev Bs := Hp × (Nat → Option Addr)
structure HSt (cl : Cl) (F0 : Bs) (H0 F : Hp) (env : HEnv) (σ : L2.St) (H : Hp) : Prop where
  len : σ.length = env.length
  sub : Sub F H
  kp : Kp F0.1 H0 F H
  val : ∀ (i : Nat) (d : D), env[i]? = some (Slot.val d) → ∃ v, σ[i]? = some (some v) ∧ Rep cl F d v
  own : ∀ (i : Nat) (d : D), env[i]?.bind oL = some d → ∃ p, σ[i]? = some (some (V.ref p)) ∧ F p = none ∧ H0 p = none ∧ ORep cl F H p d
  lnt : ∀ (i : Nat) (d : D), env[i]? = some (Slot.lent d) → ∃ p, F0.2 i = some p ∧ σ[i]? = some (some (V.ref p))
  dis : ∀ (i j : Nat) (d e : D) (p : Addr), env[i]?.bind oL = some d → env[j]?.bind oL = some e → σ[i]? = some (some (V.ref p)) → σ[j]? = some (some (V.ref p)) → i = j
theorem ORep.kp {cl : Cl} {F H F' H' : Hp} {p : Addr} {d : D} (k : Kp F H F' H') (h : ORep cl F H p d) : ORep cl F' H' p d := by
  obtain ⟨u, a, b, c⟩ := h
  exact ⟨u, k.same p u a, b.ext k.ext, c⟩
theorem HSt.step {cl : Cl} {F0 : Bs} {H0 F F' : Hp} {env : HEnv} {σ : L2.St} {H H' : Hp} (s : HSt cl F0 H0 F env σ H) (k : Kp F H F' H') (hs : Sub F' H') : HSt cl F0 H0 F' env σ H' := by
  refine ⟨s.len, hs, s.kp.trans k, fun i d h => ?_, fun i d h => ?_, s.lnt, s.dis⟩
  · obtain ⟨v, a, b⟩ := s.val i d h
    exact ⟨v, a, b.ext k.ext⟩
  · obtain ⟨p, a, b, c, e⟩ := s.own i d h
    obtain ⟨u, hu, _⟩ := id e
    exact ⟨p, a, k.fr p u hu b, c, e.kp k⟩
/-- a borrowed thing: one that stays, or one's own -/
def BRep (cl : Cl) (F H : Hp) (d : D) (v : V) : Prop := Rep cl F d v ∨ ∃ p, v = .ref p ∧ F p = none ∧ ORep cl F H p d
theorem BRep.kp {cl : Cl} {F H F' H' : Hp} {d : D} {v : V} (k : Kp F H F' H') (h : BRep cl F H d v) : BRep cl F' H' d v := by
  rcases h with h | ⟨p, a, b, c⟩
  · exact .inl (h.ext k.ext)
  · obtain ⟨u, hu, _⟩ := id c
    exact .inr ⟨p, a, k.fr p u hu b, c.kp k⟩
/-- the object of a borrowed thing -/
theorem BRep.obj {cl : Cl} {F H : Hp} {d : D} {v : V} (hs : Sub F H) (h : BRep cl F H d v) (ha : atomD d = false) : ∃ p u, v = .ref p ∧ Rd H p u ∧ ObjD cl F d u := by
  rcases h with h | ⟨p, a, b, u, c, e⟩
  · obtain ⟨p, u, a, b, c⟩ := h.obj ha
    exact ⟨p, u, a, hs.rd b, c⟩
  · exact ⟨p, u, a, .inl c, e.1⟩
theorem BRep.atom {cl : Cl} {F H F' : Hp} {d : D} {v : V} (h : BRep cl F H d v) (ha : atomD d = true) : Rep cl F' d v := by
  rcases h with h | ⟨p, a, b, u, c, e⟩
  · exact h.atom ha
  · cases d <;> first | exact e.1.elim | cases ha
/-- a new thing becomes one that stays -/
theorem freezeO {cl : Cl} {F0 H0 F H : Hp} {p : Addr} {d : D} {u : HO} (k : Kp F0 H0 F H) (hs : Sub F H) (h0 : H0 p = none) (hf : F p = none) (hu : H p = some u) (ob : ObjD cl F d u) :
    ∃ F', Ext F F' ∧ Kp F0 H0 F' H ∧ Sub F' H ∧ Rep cl F' d (.ref p) ∧ ∀ q, q ≠ p → F' q = F q := by
  have ex : Ext F (upd F p u) := fun q w e => by
    rw [upd_ne (fun z => by rw [z, hf] at e; cases e)]
    exact e
  refine ⟨upd F p u, ex, ⟨k.ext.trans ex, k.same, fun q w e n => ?_⟩, fun q w e => ?_, (ob.ext ex).rep upd_same, fun q hq => upd_ne hq⟩
  · rw [upd_ne (fun z => by rw [z, h0] at e; cases e)]
    exact k.fr q w e n
  · by_cases hq : q = p
    · subst hq
      rw [upd_same] at e
      cases e
      exact ⟨.inl hu, fun _ => hu⟩
    · rw [upd_ne hq] at e
      exact hs q w e

theorem freeze {cl : Cl} {F0 H0 F H : Hp} {p : Addr} {d : D} (k : Kp F0 H0 F H) (hs : Sub F H) (h0 : H0 p = none) (hf : F p = none) (ho : ORep cl F H p d) :
    ∃ F', Ext F F' ∧ Kp F0 H0 F' H ∧ Sub F' H ∧ Rep cl F' d (.ref p) ∧ ∀ q, q ≠ p → F' q = F q := by
  obtain ⟨u, hu, ob, _⟩ := ho
  exact freezeO k hs h0 hf hu ob

/-! ### an exception in the abstract heap -/
def ERep (cl : Cl) (H : Hp) (e : Er) (cls : Value) (dd : Option Addr) : Prop :=
  ∃ C dx v, cls = .ref C ∧ cl e.cls = some C ∧ dd = some dx ∧ H dx = some (.xd [(e.fld, v)]) ∧ Rep cl (fun _ => none) e.arg v
abbrev WX := Value → Option Addr → L2.St → Hp → Prop
def WNo : WX := fun _ _ _ _ => False

/-! ### readings -/
section
variable {α β γ δ : Type}
abbrev Rel (α β : Type) := Hp → Hp → Hp → α → β → Prop
def PostG (cl : Cl) (rel : Rel α β) (W : WX) (r : R α) (F : Hp) (σ : L2.St) (H : Hp) (Q : β → Hp → Prop) : Prop := match r with
  | .ok d => ∀ v F' H', Kp F H F' H' → Sub F' H' → rel H F' H' d v → Q v H'
  | .er e => ∀ cls dd F' H', Kp F H F' H' → Sub F' H' → ERep cl H' e cls dd → W cls dd σ H'
  | .stuck => False
def tG (cl : Cl) (rel : Rel α β) (W : WX) (m : HEnv → R α) : L2.St → Hp → (β → Hp → Prop) → Prop := fun σ H Q =>
  ∃ F0 H0 F env, HSt cl F0 H0 F env σ H ∧ PostG cl rel W (m env) F σ H Q
/-- a relation that holds no less of an elder start -/
def Old (rel : Rel α β) : Prop := ∀ H H1 F' H' d v, Same H H1 → rel H1 F' H' d v → rel H F' H' d v
/-- a relation that is carried on -/
def Carry (rel : Rel α β) : Prop := ∀ Hs Hs' F H F' H' d v, Kp F H F' H' → rel Hs F H d v → rel Hs' F' H' d v
theorem PostG.step {cl : Cl} {rel : Rel α β} {W : WX} {r : R α} {F F1 : Hp} {σ : L2.St} {H H1 : Hp} {Q : β → Hp → Prop} (ho : Old rel) (h : PostG cl rel W r F σ H Q) (k : Kp F H F1 H1) : PostG cl rel W r F1 σ H1 Q := by
  cases r with
  | ok d => exact fun v F' H' k' hs hr => h v F' H' (k.trans k') hs (ho _ _ _ _ _ _ k.same hr)
  | er e => exact fun cls dd F' H' k' hs hr => h cls dd F' H' (k.trans k') hs hr
  | stuck => exact h
theorem bindG {cl : Cl} {rel : Rel α β} {rel' : Rel γ δ} {W : WX} {m : HEnv → R α} {k : α → HEnv → R γ} {σ : L2.St} {H : Hp} {Q : δ → Hp → Prop} {Q1 : β → Hp → Prop} (ho : Old rel')
    (h : tG cl rel' W (fun env => (m env).bind fun d => k d env) σ H Q)
    (hk : ∀ d v F0 H0 F1 env Hs H1, HSt cl F0 H0 F1 env σ H1 → rel Hs F1 H1 d v → PostG cl rel' W (k d env) F1 σ H1 Q → Q1 v H1) : tG cl rel W m σ H Q1 := by
  obtain ⟨F0, H0, F, env, s, h⟩ := h
  refine ⟨F0, H0, F, env, s, ?_⟩
  replace h : PostG cl rel' W ((m env).bind fun d => k d env) F σ H Q := h
  cases e : m env with
  | ok d =>
    rw [e] at h
    exact fun v F' H' kp hs hr => hk d v F0 H0 F' env H H' (s.step kp hs) hr (PostG.step ho h kp)
  | er x =>
    rw [e] at h
    exact h
  | stuck =>
    rw [e] at h
    exact h.elim
theorem tG.mono {cl : Cl} {rel rel1 : Rel α β} {W : WX} {m : HEnv → R α} {σ : L2.St} {H : Hp} {Q : β → Hp → Prop} (hr : ∀ Hs F H d v, rel1 Hs F H d v → rel Hs F H d v) (h : tG cl rel W m σ H Q) : tG cl rel1 W m σ H Q := by
  obtain ⟨F0, H0, F, env, s, h⟩ := h
  refine ⟨F0, H0, F, env, s, ?_⟩
  cases e : m env with
  | ok d =>
    rw [e] at h
    exact fun v F' H' kp hs q => h v F' H' kp hs (hr _ _ _ _ _ q)
  | er x =>
    rw [e] at h
    exact h
  | stuck =>
    rw [e] at h
    exact h
end
def relF (cl : Cl) : Rel D V := fun _ F _ d v => Rep cl F d v
def relB (cl : Cl) : Rel D V := fun _ F H d v => BRep cl F H d v
def relN (cl : Cl) : Rel D V := fun Hs F H d v => ∃ p, v = .ref p ∧ Hs p = none ∧ F p = none ∧ ORep cl F H p d
def relA (cl : Cl) : Rel (List D) (List V) := fun _ F _ ds vs => RepL cl F ds vs
def relT : Rel Bool Bool := fun _ _ _ b c => c = b
abbrev tF (cl : Cl) (W : WX) (m : HEnv → R D) : TE := tG cl (relF cl) W m
abbrev tB (cl : Cl) (W : WX) (m : HEnv → R D) : TE := tG cl (relB cl) W m
abbrev tN (cl : Cl) (W : WX) (m : HEnv → R D) : TE := tG cl (relN cl) W m
abbrev tA (cl : Cl) (W : WX) (m : HEnv → R (List D)) : TA := tG cl (relA cl) W m
abbrev tT (cl : Cl) (W : WX) (m : HEnv → R Bool) : TT := tG cl relT W m
theorem oldF {cl : Cl} : Old (relF cl) := fun _ _ _ _ _ _ _ h => h
theorem oldB {cl : Cl} : Old (relB cl) := fun _ _ _ _ _ _ _ h => h
theorem oldA {cl : Cl} : Old (relA cl) := fun _ _ _ _ _ _ _ h => h
theorem oldT : Old relT := fun _ _ _ _ _ _ _ h => h
theorem oldN {cl : Cl} : Old (relN cl) := fun H H1 F' H' d v k ⟨p, a, b, c⟩ => ⟨p, a, k.free b, c⟩
theorem carF {cl : Cl} : Carry (relF cl) := fun _ _ _ _ _ _ _ _ k h => Rep.ext k.ext h
theorem carB {cl : Cl} : Carry (relB cl) := fun _ _ _ _ _ _ _ _ k h => BRep.kp k h
theorem carA {cl : Cl} : Carry (relA cl) := fun _ _ _ _ _ _ _ _ k h => RepL.ext k.ext h
theorem carT : Carry relT := fun _ _ _ _ _ _ _ _ _ h => h

/-! ### the judgements -/
section
variable {X : Cx} {cl : Cl} {W : WX}
theorem pe_weak {e : Expr} {t t' : TE} (h : PE X e t) (w : ∀ σ H Q, t' σ H Q → t σ H Q) : PE X e t' := ⟨fun pins s σ H Q I q => h.run pins s σ H Q I (w σ H Q q)⟩
theorem pt_weak {e : Expr} {t t' : TT} (h : PT X e t) (w : ∀ σ H Q, t' σ H Q → t σ H Q) : PT X e t' := ⟨fun pins s σ H Q I q => h.run pins s σ H Q I (w σ H Q q)⟩
theorem pw_weak {e : Expr} {t t' : TT} (h : PW X e t) (w : ∀ σ H Q, t' σ H Q → t σ H Q) : PW X e t' := ⟨fun wh pins s σ H Q I q => h.run wh pins s σ H Q I (w σ H Q q)⟩
theorem pa_weak {e : List Expr} {t t' : TA} (h : PA X e t) (w : ∀ σ H Q, t' σ H Q → t σ H Q) : PA X e t' := ⟨fun pos pins s σ H Q I q => h.run pos pins s σ H Q I (w σ H Q q)⟩
theorem ps_weak {e : Stmt} {t t' : TS} (h : PS X e t) (w : ∀ D σ H, t' D σ H → t D σ H) : PS X e t' := ⟨fun pins s σ H D I q => h.run pins s σ H D I (w D σ H q)⟩
theorem pss_weak {e : List Stmt} {t t' : TS} (h : PSs X e t) (w : ∀ D σ H, t' D σ H → t D σ H) : PSs X e t' := ⟨fun pins s σ H D I q => h.run pins s σ H D I (w D σ H q)⟩
/-- what stays may be borrowed; what is new may stay -/
theorem fb {e : Expr} {m : HEnv → R D} (h : PE X e (tF cl W m)) : PE X e (tB cl W m) := pe_weak h fun _ _ _ q => tG.mono (fun _ _ _ _ _ z => .inl z) q
theorem nf_read {m : HEnv → R D} {σ : L2.St} {H : Hp} {Q : VK} (q : tF cl W m σ H Q) : tN cl W m σ H Q := by
  obtain ⟨F0, H0, F, env, s, q⟩ := q
  refine ⟨F0, H0, F, env, s, ?_⟩
  cases e : m env with
  | ok d =>
    rw [e] at q
    intro v F' H' kp hs ⟨p, ev, h0, hf, ho⟩
    obtain ⟨F2, _, k2, s2, r2, _⟩ := freeze kp hs h0 hf ho
    subst ev
    exact q _ F2 H' k2 s2 r2
  | er x =>
    rw [e] at q
    exact q
  | stuck =>
    rw [e] at q
    exact q
theorem nf {e : Expr} {m : HEnv → R D} (h : PE X e (tN cl W m)) : PE X e (tF cl W m) := pe_weak h fun σ H Q q => nf_read q
theorem nb {e : Expr} {m : HEnv → R D} (h : PE X e (tN cl W m)) : PE X e (tB cl W m) := fb (nf h)
end

/-! ### operations on data, in a row -/
def m1 {α β : Type} (f : α → R β) (m : HEnv → R α) : HEnv → R β := fun env => (m env).bind f
def m2 {α β γ : Type} (f : α → β → R γ) (ma : HEnv → R α) (mb : HEnv → R β) : HEnv → R γ := fun env => (ma env).bind fun a => (mb env).bind fun b => f a b
section
variable {cl : Cl} {W : WX} {α β γ δ α' β' : Type}
theorem read1 {rel : Rel α α'} {rel' : Rel γ δ} {f : α → R γ} {m : HEnv → R α} {r : α' → Hp → (δ → Hp → Prop) → Prop} {σ : L2.St} {H : Hp} {Q : δ → Hp → Prop} (ho : Old rel')
    (hr : ∀ Hs F H d v Q σ, Sub F H → rel Hs F H d v → PostG cl rel' W (f d) F σ H Q → r v H Q) (h : tG cl rel' W (m1 f m) σ H Q) : tG cl rel W m σ H (fun x H1 => r x H1 Q) :=
  bindG (k := fun d _ => f d) ho h fun d v F0 H0 F1 env Hs H1 s r1 p => hr _ _ _ _ _ _ _ s.sub r1 p
theorem read2 {rel : Rel α α'} {rel1 : Rel β β'} {rel' : Rel γ δ} {f : α → β → R γ} {ma : HEnv → R α} {mb : HEnv → R β} {r : α' → β' → Hp → (δ → Hp → Prop) → Prop} {σ : L2.St} {H : Hp} {Q : δ → Hp → Prop} (ho : Old rel') (hc : Carry rel)
    (hr : ∀ Hs F H d v e u Q σ, Sub F H → rel Hs F H d v → rel1 Hs F H e u → PostG cl rel' W (f d e) F σ H Q → r v u H Q) (h : tG cl rel' W (m2 f ma mb) σ H Q) :
    tG cl rel W ma σ H (fun x H1 => tG cl rel1 W mb σ H1 fun y H2 => r x y H2 Q) := by
  refine bindG (k := fun a env => (mb env).bind fun b => f a b) ho h fun d v F0 H0 F1 env Hs H1 s r1 p => ?_
  refine ⟨F0, H0, F1, env, s, ?_⟩
  cases e : mb env with
  | ok b =>
    rw [e] at p
    intro u F2 H2 k2 s2 r2
    exact hr H1 F2 H2 d v b u Q σ s2 (hc _ _ _ _ _ _ _ _ k2 r1) r2 (PostG.step ho p k2)
  | er x =>
    rw [e] at p
    exact p
  | stuck =>
    rw [e] at p
    exact p.elim
theorem sub_none {F H : Hp} {p : Addr} (hs : Sub F H) (h : H p = none) : F p = none := by
  cases e : F p with
  | none => rfl
  | some u =>
    rcases hs.rd e with q | ⟨o, q⟩
    · rw [h] at q; cases q
    · rw [h] at q; cases q
theorem sub_upd {F H : Hp} {p : Addr} {u : HO} (hs : Sub F H) (h : F p = none) : Sub F (upd H p u) := fun q w e => by
  have hq : q ≠ p := fun z => by rw [z, h] at e; cases e
  refine ⟨?_, fun k => by rw [upd_ne hq]; exact hs.fix e k⟩
  rcases hs.rd e with z | ⟨o, z⟩
  · exact .inl (by rw [upd_ne hq]; exact z)
  · exact .inr ⟨o, by rw [upd_ne hq]; exact z⟩
theorem kp_new {F H : Hp} {p : Addr} {u : HO} (h : H p = none) : Kp F H F (upd H p u) :=
  ⟨Ext.refl F, fun q w e => by rw [upd_ne (ne_of_none e h)]; exact e, fun _ _ _ n => n⟩
theorem PostG.done {rel : Rel α β} {F H : Hp} {σ : L2.St} {d : α} {v : β} {Q : β → Hp → Prop} (h : PostG cl rel W (.ok d) F σ H Q) (hs : Sub F H) (r : rel H F H d v) : Q v H := h v F H (Kp.refl F H) hs r
/-- a new object -/
theorem PostG.new {F H : Hp} {σ : L2.St} {d : D} {p : Addr} {u : HO} {Q : VK} (h : PostG cl (relN cl) W (.ok d) F σ H Q) (hs : Sub F H) (hp : H p = none) (o : ObjD cl F d u) (hm : mutD d = true := by rfl) : Q (.ref p) (upd H p u) :=
  h _ F _ (kp_new hp) (sub_upd hs (sub_none hs hp)) ⟨p, rfl, hp, sub_none hs hp, u, upd_same, o, hm⟩
/-- .. that stays -/
theorem PostG.newF {F H : Hp} {σ : L2.St} {d : D} {p : Addr} {u : HO} {Q : VK} (h : PostG cl (relF cl) W (.ok d) F σ H Q) (hs : Sub F H) (hp : H p = none) (o : ObjD cl F d u) : Q (.ref p) (upd H p u) := by
  have hf := sub_none hs hp
  obtain ⟨F2, x2, k2, s2, r2, _⟩ := freezeO (kp_new (u := u) hp) (sub_upd hs hf) hp hf upd_same o
  exact h _ F2 _ k2 s2 r2
end

/-! ### arguments and displays -/
def mNil : HEnv → R (List D) := fun _ => .ok []
def mCons (m : HEnv → R D) (ms : HEnv → R (List D)) : HEnv → R (List D) := m2 (fun d ds => .ok (d :: ds)) m ms
section
variable {X : Cx} {cl : Cl} {W : WX} {e : Expr} {es : List Expr} {pos : Pos} {m : HEnv → R D} {ms : HEnv → R (List D)}
theorem da_nil : PA X [] (tA cl W mNil) := pa_weak pa_nil fun σ H Q ⟨F0, H0, F, env, s, h⟩ => PostG.done (rel := relA cl) h s.sub (by simp only [relA, RepL])
theorem da_cons (h : PE X e (tF cl W m)) (hr : PA X es (tA cl W ms)) (hs : starEach (e :: es) X.env = (false, eval e X.env) :: starEach es X.env := by rfl) : PA X (e :: es) (tA cl W (mCons m ms)) := by
  refine pa_weak (pa_cons h hr hs) fun σ H Q q => ?_
  refine read2 (rel := relF cl) (rel1 := relA cl) (r := fun x xs H Q => Q (x :: xs) H) oldA carF (fun Hs F H d v ds vs Q σ s r1 r2 p => ?_) q
  exact PostG.done p s (by simp only [relA, RepL]; exact ⟨v, vs, rfl, r1, r2⟩)
end
theorem RepL.len {cl : Cl} {F : Hp} : ∀ {ds : List D} {vs : List V}, RepL cl F ds vs → vs.length = ds.length
  | [], vs, h => by simp only [RepL] at h; rw [h]; rfl
  | d :: ds, vs, h => by
    simp only [RepL] at h
    obtain ⟨v, r, rfl, _, q⟩ := h
    simp [RepL.len q]
theorem RepL.at {cl : Cl} {F : Hp} : ∀ {ds : List D} {vs : List V} {i : Nat} {d : D}, RepL cl F ds vs → ds[i]? = some d → ∃ v, vs[i]? = some v ∧ Rep cl F d v
  | [], vs, i, d, h, e => by simp at e
  | c :: ds, vs, 0, d, h, e => by
    simp only [RepL] at h
    obtain ⟨v, r, rfl, a, q⟩ := h
    simp only [List.getElem?_cons_zero, Option.some.injEq] at e
    subst e
    exact ⟨v, rfl, a⟩
  | c :: ds, vs, i + 1, d, h, e => by
    simp only [RepL] at h
    obtain ⟨v, r, rfl, a, q⟩ := h
    simp only [List.getElem?_cons_succ] at e ⊢
    exact RepL.at q e
theorem RepL.app {cl : Cl} {F : Hp} : ∀ {ds es : List D} {vs us : List V}, RepL cl F ds vs → RepL cl F es us → RepL cl F (ds ++ es) (vs ++ us)
  | [], es, vs, us, h, q => by simp only [RepL] at h; subst h; exact q
  | d :: ds, es, vs, us, h, q => by
    simp only [RepL] at h
    obtain ⟨v, r, rfl, a, z⟩ := h
    simp only [List.cons_append, RepL]
    exact ⟨v, r ++ us, rfl, a, RepL.app z q⟩
def mTupE (ms : HEnv → R (List D)) : HEnv → R D := m1 (fun ds => .ok (.tup ds)) ms
def mLstE (ms : HEnv → R (List D)) : HEnv → R D := m1 (fun ds => .ok (.lst ds)) ms
section
variable {X : Cx} {cl : Cl} {W : WX} {es : List Expr} {pos : Pos} {ms : HEnv → R (List D)} {x1 : _}
theorem few_line {n : Nat} (h : decide (n ≤ 60) = true) : n ≤ sizeLine := by
  have := of_decide_eq_true h
  rw [sizeLine_eq]
  omega
inductive Ln : (HEnv → R (List D)) → Nat → Prop where
  | nil : Ln mNil 0
  | cons {m : HEnv → R D} {ms : HEnv → R (List D)} {n : Nat} (h : Ln ms n) : Ln (mCons m ms) (n + 1)
theorem Ln.len {ms : HEnv → R (List D)} {n : Nat} (h : Ln ms n) : ∀ {env : HEnv} {ds : List D}, ms env = .ok ds → ds.length = n := by
  induction h with
  | nil =>
    intro env ds e
    cases e
    rfl
  | cons h ih =>
    rename_i m ms n
    intro env ds e
    simp only [mCons, m2] at e
    cases e1 : m env with
    | ok a =>
      rw [e1] at e
      cases e2 : ms env with
      | ok b =>
        rw [e2] at e
        cases e
        simp [ih e2]
      | er x => rw [e2] at e; cases e
      | stuck => rw [e2] at e; cases e
    | er x => rw [e1] at e; cases e
    | stuck => rw [e1] at e; cases e
theorem read1L {n : Nat} {f : List D → D} {r : List V → Hp → VK → Prop} {σ : L2.St} {H : Hp} {Q : VK} (hl : Ln ms n)
    {rel : Rel D V} (ho : Old rel) (hr : ∀ F H ds vs Q σ, Sub F H → RepL cl F ds vs → ds.length = n → PostG cl rel W (.ok (f ds)) F σ H Q → r vs H Q) (h : tG cl rel W (m1 (fun ds => .ok (f ds)) ms) σ H Q) : tA cl W ms σ H (fun x H1 => r x H1 Q) := by
  obtain ⟨F0, H0, F, env, s, h⟩ := h
  refine ⟨F0, H0, F, env, s, ?_⟩
  simp only [m1] at h
  cases e : ms env with
  | ok d =>
    rw [e] at h
    exact fun v F' H' kp hs q => hr F' H' d v Q σ hs q (hl.len e) (PostG.step ho h kp)
  | er x =>
    rw [e] at h
    exact h
  | stuck =>
    rw [e] at h
    exact h.elim
theorem de_tup (h : PA X es (tA cl W ms)) {n : Nat} (hl : Ln ms n := by repeat constructor) (hz : decide (n ≤ 60) = true := by rfl) : PE X (.Tuple es x1 pos) (tF cl W (mTupE ms)) := by
  refine pe_weak (pe_tup h) fun σ H Q q => ?_
  refine read1L (f := fun ds => .tup ds) (r := fun xs H1 Q => xs.length ≤ sizeLine ∧ ∀ p, H1 p = none → Q (.ref p) (upd H1 p (.tup xs))) hl oldF (fun F H ds vs Q σ s r e p => ?_) q
  have z : ds.length ≤ sizeLine := by rw [e]; exact few_line hz
  exact ⟨by rw [r.len]; exact z, fun a ha => PostG.newF p s ha ⟨vs, rfl, r, z⟩⟩
theorem de_lst (h : PA X es (tA cl W ms)) {n : Nat} (hl : Ln ms n := by repeat constructor) (hz : decide (n ≤ 60) = true := by rfl) : PE X (.List es pos) (tN cl W (mLstE ms)) := by
  refine pe_weak (pe_lst h) fun σ H Q q => ?_
  refine read1L (f := fun ds => .lst ds) (r := fun xs H1 Q => xs.length ≤ sizeLine ∧ ∀ p, H1 p = none → Q (.ref p) (upd H1 p (.lst xs))) hl oldN (fun F H ds vs Q σ s r e p => ?_) q
  have z : ds.length ≤ sizeLine := by rw [e]; exact few_line hz
  exact ⟨by rw [r.len]; exact z, fun a ha => PostG.new p s ha ⟨vs, rfl, r, z⟩⟩
end

/-! ### names, constants -/
def mVar (i : Nat) : HEnv → R D := fun env => match env[i]? with
  | some (.val d) => .ok d
  | _ => .stuck
/-- a name whose thing is one's own, borrowed -/
def mOwn (i : Nat) : HEnv → R D := fun env => match env[i]? with
  | some (.own d) => .ok d
  | some (.lent d) => .ok d
  | some (.val d) => .ok d
  | _ => .stuck
def mC (d : D) : HEnv → R D := fun _ => .ok d
section
variable {X : Cx} {cl : Cl} {W : WX} {pos : Pos}
theorem d_var {e : Expr} {i : Nat} (h : PE X e (tVar i)) : PE X e (tF cl W (mVar i)) := by
  refine pe_weak h fun σ H Q ⟨F0, H0, F, env, s, q⟩ => ?_
  unfold mVar at q
  split at q
  · rename_i d e
    obtain ⟨v, a, b⟩ := s.val i d e
    exact ⟨v, a, PostG.done q s.sub b⟩
  · exact q.elim
theorem d_own {e : Expr} {i : Nat} (h : PE X e (tVar i)) : PE X e (tB cl W (mOwn i)) := by
  refine pe_weak h fun σ H Q ⟨F0, H0, F, env, s, q⟩ => ?_
  unfold mOwn at q
  split at q
  · rename_i d e
    obtain ⟨p, a, b, c, o⟩ := s.own i d (oL_own e)
    exact ⟨_, a, PostG.done q s.sub (.inr ⟨p, rfl, b, o⟩)⟩
  · rename_i d e
    obtain ⟨p, a, b, c, o⟩ := s.own i d (oL_lent e)
    exact ⟨_, a, PostG.done q s.sub (.inr ⟨p, rfl, b, o⟩)⟩
  · rename_i d e
    obtain ⟨v, a, b⟩ := s.val i d e
    exact ⟨v, a, PostG.done q s.sub (.inl b)⟩
  · exact q.elim
/-- constants -/
def vD : D → Option V
  | .non => some .non
  | .bl b => some (.bl b)
  | .int i => some (.int i)
  | .str x => some (.str x)
  | _ => none
theorem vD_rep {F : Hp} {d : D} {v : V} (h : vD d = some v) : Rep cl F d v := by
  cases d <;> first | (cases h; simp only [Rep]) | cases h
theorem d_c {e : Expr} {d : D} {v : V} (h : PE X e (tC v)) (hv : vD d = some v := by rfl) : PE X e (tF cl W (mC d)) :=
  pe_weak h fun σ H Q ⟨F0, H0, F, env, s, q⟩ => PostG.done q s.sub (vD_rep hv)
end

/-! ### statements -/
inductive SO where
  | nx (e : HEnv) | rt (own : Bool) (d : D) | er (x : Er) (e : HEnv) | bk (e : HEnv) | ct (e : HEnv) | stuck
def RetR (cl : Cl) (H0 F H : Hp) (o : Bool) (d : D) (v : V) : Prop := if o = true then relN cl H0 F H d v else Rep cl F d v
def PostS (cl : Cl) (W : WX) (Dn : Ends) (F0 : Bs) (H0 F : Hp) : SO → Prop
  | .nx e => ∀ σ F' H', Ext F F' → HSt cl F0 H0 F' e σ H' → Dn.nx σ H'
  | .bk e => ∀ σ F' H', Ext F F' → HSt cl F0 H0 F' e σ H' → Dn.bk σ H'
  | .ct e => ∀ σ F' H', Ext F F' → HSt cl F0 H0 F' e σ H' → Dn.ct σ H'
  | .rt o d => ∀ v F' H', Kp F0.1 H0 F' H' → Sub F' H' → RetR cl H0 F' H' o d v → Dn.rt v H'
  | .er x e => ∀ cls dd σ F' H', Ext F F' → HSt cl F0 H0 F' e σ H' → ERep cl H' x cls dd → W cls dd σ H'
  | .stuck => False
theorem PostS.ext {cl : Cl} {W : WX} {Dn : Ends} {F0 : Bs} {H0 F F1 : Hp} {o : SO} (h : PostS cl W Dn F0 H0 F o) (x : Ext F F1) : PostS cl W Dn F0 H0 F1 o := by
  cases o with
  | nx e => exact fun σ F' H' k s => h σ F' H' (x.trans k) s
  | bk e => exact fun σ F' H' k s => h σ F' H' (x.trans k) s
  | ct e => exact fun σ F' H' k s => h σ F' H' (x.trans k) s
  | rt o d => exact h
  | er y e => exact fun cls dd σ F' H' k s => h cls dd σ F' H' (x.trans k) s
  | stuck => exact h
def tS (cl : Cl) (W : WX) (ms : HEnv → SO) : TS := fun Dn σ H => ∃ F0 H0 F env, HSt cl F0 H0 F env σ H ∧ PostS cl W Dn F0 H0 F (ms env)
/-- a value reckoned, then a statement's end -/
def sB {α : Type} (m : HEnv → R α) (k : α → HEnv → SO) : HEnv → SO := fun env => match m env with
  | .ok a => k a env
  | .er x => .er x env
  | .stuck => .stuck
theorem stB {α β : Type} {cl : Cl} {rel : Rel α β} {W : WX} {m : HEnv → R α} {k : α → HEnv → SO} {Dn : Ends} {σ : L2.St} {H : Hp} {Q : β → Hp → Prop} (h : tS cl W (sB m k) Dn σ H)
    (hk : ∀ d v F0 H0 F env Hs H1, HSt cl F0 H0 F env σ Hs → ∀ F1, Kp F Hs F1 H1 → HSt cl F0 H0 F1 env σ H1 → rel Hs F1 H1 d v → PostS cl W Dn F0 H0 F1 (k d env) → Q v H1) : tG cl rel W m σ H Q := by
  obtain ⟨F0, H0, F, env, s, h⟩ := h
  refine ⟨F0, H0, F, env, s, ?_⟩
  unfold sB at h
  cases e : m env with
  | ok a =>
    rw [e] at h
    exact fun v F' H' kp hs r => hk a v F0 H0 F env H H' s F' kp (s.step kp hs) r (h.ext kp.ext)
  | er x =>
    rw [e] at h
    exact fun cls dd F' H' kp hs r => h cls dd σ F' H' kp.ext (s.step kp hs) r
  | stuck =>
    rw [e] at h
    exact h.elim
def mNext : HEnv → SO := .nx
def mSeq (a b : HEnv → SO) : HEnv → SO := fun env => match a env with
  | .nx e => b e
  | .rt o d => .rt o d
  | .er x e => .er x e
  | .bk e => .bk e
  | .ct e => .ct e
  | .stuck => .stuck
section
variable {X : Cx} {cl : Cl} {W : WX} {pos : Pos} {st : Stmt} {sts : List Stmt} {a b : HEnv → SO}
theorem HSt.get {F0 : Bs} {H0 F H : Hp} {env : HEnv} {σ : L2.St} (s : HSt cl F0 H0 F env σ H) {Dn : Ends} (h : PostS cl W Dn F0 H0 F (.nx env)) : Dn.nx σ H := h σ F H (Ext.refl F) s
theorem ds_nil : PSs X [] (tS cl W mNext) := pss_weak pss_nil fun Dn σ H ⟨F0, H0, F, env, s, q⟩ => s.get q
theorem ds_cons (h1 : PS X st (tS cl W a)) (h2 : PSs X sts (tS cl W b)) : PSs X (st :: sts) (tS cl W (mSeq a b)) := by
  refine pss_weak (pss_cons h1 h2) fun Dn σ H ⟨F0, H0, F, env, s, q⟩ => ?_
  refine ⟨F0, H0, F, env, s, ?_⟩
  unfold mSeq at q
  cases e : a env with
  | nx e1 =>
    rw [e] at q
    exact fun σ' F' H' x s' => ⟨F0, H0, F', e1, s', q.ext x⟩
  | rt o d => rw [e] at q; exact q
  | er y e1 => rw [e] at q; exact q
  | bk e1 => rw [e] at q; exact q
  | ct e1 => rw [e] at q; exact q
  | stuck => rw [e] at q; exact q
theorem ds_one (h1 : PS X st (tS cl W a)) : PSs X [st] (tS cl W a) := pss_one h1
/-- a name gets a thing that stays -/
theorem HSt.set {F0 : Bs} {H0 F H : Hp} {env : HEnv} {σ : L2.St} (s : HSt cl F0 H0 F env σ H) {i : Nat} {d : D} {v : V} (r : Rep cl F d v) : HSt cl F0 H0 F (env.set i (.val d)) (σ.set i (some v)) H := by
  have ne : ∀ (j : Nat) (e : D), (env.set i (.val d))[j]?.bind oL = some e → i ≠ j := fun j e h z => by
    subst z
    by_cases hl : i < env.length
    · rw [List.getElem?_set_self hl] at h
      cases h
    · rw [List.getElem?_eq_none (by simp; omega)] at h
      cases h
  refine ⟨by simp [s.len], s.sub, s.kp, fun j e h => ?_, fun j e h => ?_, fun j e h => ?_, fun j k e g p h1 h2 h3 h4 => ?_⟩
  · by_cases hj : i = j
    · subst hj
      by_cases hl : i < env.length
      · rw [List.getElem?_set_self hl] at h
        cases h
        exact ⟨v, by rw [List.getElem?_set_self (by rw [s.len]; exact hl)], r⟩
      · rw [List.getElem?_eq_none (by simp; omega)] at h
        cases h
    · rw [List.getElem?_set_ne hj] at h
      obtain ⟨w, a, b⟩ := s.val j e h
      exact ⟨w, by rw [List.getElem?_set_ne hj]; exact a, b⟩
  · have hj := ne j e h
    rw [List.getElem?_set_ne hj] at h
    obtain ⟨p, a, b⟩ := s.own j e h
    exact ⟨p, by rw [List.getElem?_set_ne hj]; exact a, b⟩
  · have hj := ne j e (oL_lent h)
    rw [List.getElem?_set_ne hj] at h ⊢
    exact s.lnt j e h
  · have n1 := ne j e h1
    have n2 := ne k g h2
    rw [List.getElem?_set_ne n1] at h1 h3
    rw [List.getElem?_set_ne n2] at h2 h4
    exact s.dis j k e g p h1 h2 h3 h4
/-- a name gets a new thing of one's own -/
theorem HSt.setOwn {F0 : Bs} {H0 F H : Hp} {env : HEnv} {σ : L2.St} (s : HSt cl F0 H0 F env σ H) {i : Nat} {d : D} {p : Addr} (hf : F p = none) (h0 : H0 p = none) (r : ORep cl F H p d)
    (hn : ∀ (j : Nat) (e : D), j ≠ i → env[j]?.bind oL = some e → σ[j]? ≠ some (some (.ref p))) : HSt cl F0 H0 F (env.set i (.own d)) (σ.set i (some (.ref p))) H := by
  refine ⟨by simp [s.len], s.sub, s.kp, fun j e h => ?_, fun j e h => ?_, fun j e h => ?_, fun j k e g q h1 h2 h3 h4 => ?_⟩
  · have hj : i ≠ j := fun z => by
      subst z
      by_cases hl : i < env.length
      · rw [List.getElem?_set_self hl] at h
        cases h
      · rw [List.getElem?_eq_none (by simp; omega)] at h
        cases h
    rw [List.getElem?_set_ne hj] at h
    obtain ⟨w, a, b⟩ := s.val j e h
    exact ⟨w, by rw [List.getElem?_set_ne hj]; exact a, b⟩
  · by_cases hj : i = j
    · subst hj
      by_cases hl : i < env.length
      · rw [List.getElem?_set_self hl] at h
        cases h
        exact ⟨p, by rw [List.getElem?_set_self (by rw [s.len]; exact hl)], hf, h0, r⟩
      · rw [List.getElem?_eq_none (by simp; omega)] at h
        cases h
    · rw [List.getElem?_set_ne hj] at h
      obtain ⟨p, a, b⟩ := s.own j e h
      exact ⟨p, by rw [List.getElem?_set_ne hj]; exact a, b⟩
  · have hj : i ≠ j := fun z => by
      subst z
      by_cases hl : i < env.length
      · rw [List.getElem?_set_self hl] at h
        cases h
      · rw [List.getElem?_eq_none (by simp; omega)] at h
        cases h
    rw [List.getElem?_set_ne hj] at h ⊢
    exact s.lnt j e h
  · by_cases hj : i = j
    · by_cases hk : i = k
      · rw [← hj, ← hk]
      · exfalso
        subst hj
        rw [List.getElem?_set_ne hk] at h2 h4
        have hl : i < σ.length := by
          by_cases z : i < σ.length
          · exact z
          · rw [List.getElem?_eq_none (by simp; omega)] at h3
            cases h3
        rw [List.getElem?_set_self hl] at h3
        cases h3
        exact hn k g (Ne.symm hk) h2 h4
    · by_cases hk : i = k
      · exfalso
        subst hk
        rw [List.getElem?_set_ne hj] at h1 h3
        have hl : i < σ.length := by
          by_cases z : i < σ.length
          · exact z
          · rw [List.getElem?_eq_none (by simp; omega)] at h4
            cases h4
        rw [List.getElem?_set_self hl] at h4
        cases h4
        exact hn j e (Ne.symm hj) h1 h3
      · rw [List.getElem?_set_ne hj] at h1 h3
        rw [List.getElem?_set_ne hk] at h2 h4
        exact s.dis j k e g q h1 h2 h3 h4
theorem HSt.newOwn {F0 : Bs} {H0 F H : Hp} {env : HEnv} {σ : L2.St} (s : HSt cl F0 H0 F env σ H) {p : Addr} (hp : H p = none) (j : Nat) (e : D) (h : env[j]?.bind oL = some e) : σ[j]? ≠ some (some (.ref p)) := fun z => by
  obtain ⟨q, a, _, _, u, hu, _⟩ := s.own j e h
  rw [a] at z
  cases z
  rw [hp] at hu
  cases hu
def mSet (i : Nat) (m : HEnv → R D) : HEnv → SO := sB m fun d env => .nx (env.set i (.val d))
def mSetN (i : Nat) (m : HEnv → R D) : HEnv → SO := sB m fun d env => .nx (env.set i (.own d))
theorem read_set {m : HEnv → R D} {i : Nat} {Dn : Ends} {σ : L2.St} {H : Hp} (q : tS cl W (mSet i m) Dn σ H) : tAsg (tF cl W m) (gName i) Dn σ H :=
  stB q fun d v F0 H0 F env Hs H1 s0 F1 kp s r p => HSt.get (W := W) (s.set r) p
theorem read_setN {m : HEnv → R D} {i : Nat} {Dn : Ends} {σ : L2.St} {H : Hp} (q : tS cl W (mSetN i m) Dn σ H) : tAsg (tN cl W m) (gName i) Dn σ H := by
  refine stB q fun d v F0 H0 F env Hs H1 s0 F1 kp s r p => ?_
  obtain ⟨a, rfl, h1, h2, h3⟩ := r
  exact HSt.get (W := W) (s.setOwn h2 (s0.kp.same.free h1) h3 fun j e _ h => s0.newOwn h1 j e h) p
/-- name = value -/
theorem ds_set {i : Nat} {x : Str} {e : Expr} {m : HEnv → R D} {pos' : Pos} (hN : X.N.Nodup) (hi : X.N[i]? = some x) (hx : Loc X.env.scope x) (he : PE X e (tF cl W m)) (hs : swapsWith e (some (.Name x pos')) pos.line X.env = pure false := by rfl)
    (hf : X.fn x = true ∨ X.env.scope.names.lookup x = some .local := by first | exact .inl rfl | exact .inr rfl | assumption) : PS X (.Assign [.Name x pos'] e pos) (tS cl W (mSet i m)) :=
  ps_weak (ps_set hN hi hx he hs hf) fun Dn σ H q => read_set q
theorem ds_setN {i : Nat} {x : Str} {e : Expr} {m : HEnv → R D} {pos' : Pos} (hN : X.N.Nodup) (hi : X.N[i]? = some x) (hx : Loc X.env.scope x) (he : PE X e (tN cl W m)) (hs : swapsWith e (some (.Name x pos')) pos.line X.env = pure false := by rfl)
    (hf : X.fn x = true ∨ X.env.scope.names.lookup x = some .local := by first | exact .inl rfl | exact .inr rfl | assumption) : PS X (.Assign [.Name x pos'] e pos) (tS cl W (mSetN i m)) :=
  ps_weak (ps_set hN hi hx he hs hf) fun Dn σ H q => read_setN q
def mRet (m : HEnv → R D) : HEnv → SO := sB m fun d _ => .rt false d
def mRetN (m : HEnv → R D) : HEnv → SO := sB m fun d _ => .rt true d
def mRetNone : HEnv → SO := fun _ => .rt false .non
/-- a name's own thing is handed back -/
def mRetOwn (i : Nat) : HEnv → SO := fun env => match env[i]? with
  | some (.own d) => .rt true d
  | some (.val d) => .rt false d
  | _ => .stuck
theorem ds_ret {e : Expr} {m : HEnv → R D} (he : PE X e (tF cl W m)) : PS X (.Return (some e) pos) (tS cl W (mRet m)) :=
  ps_weak (ps_ret he) fun Dn σ H q => stB (k := fun d _ => .rt false d) q fun d v F0 H0 F env Hs H1 s0 F1 kp s r p => p v F1 H1 s.kp s.sub (by unfold RetR; rw [if_neg (by decide)]; exact r)
theorem ds_retN {e : Expr} {m : HEnv → R D} (he : PE X e (tN cl W m)) : PS X (.Return (some e) pos) (tS cl W (mRetN m)) :=
  ps_weak (ps_ret he) fun Dn σ H q => stB (k := fun d _ => .rt true d) q fun d v F0 H0 F env Hs H1 s0 F1 kp s ⟨a, ev, h1, h2, h3⟩ p => p v F1 H1 s.kp s.sub (by unfold RetR; rw [if_pos rfl]; exact ⟨a, ev, s0.kp.same.free h1, h2, h3⟩)
theorem ds_retNone : PS X (.Return none pos) (tS cl W mRetNone) :=
  ps_weak ps_retN fun Dn σ H ⟨F0, H0, F, env, s, q⟩ => q .non F H s.kp s.sub (by unfold RetR; rw [if_neg (by decide)]; simp only [Rep])
theorem ds_retOwn {e : Expr} {i : Nat} (h : PE X e (tVar i)) : PS X (.Return (some e) pos) (tS cl W (mRetOwn i)) := by
  refine ps_weak (ps_ret h) fun Dn σ H ⟨F0, H0, F, env, s, q⟩ => ?_
  unfold mRetOwn at q
  split at q
  · rename_i d e
    obtain ⟨p, a, b, c, o⟩ := s.own i d (oL_own e)
    exact ⟨_, a, q _ F H s.kp s.sub (by unfold RetR; rw [if_pos rfl]; exact ⟨p, rfl, c, b, o⟩)⟩
  · rename_i d e
    obtain ⟨v, a, b⟩ := s.val i d e
    exact ⟨v, a, q v F H s.kp s.sub (by unfold RetR; rw [if_neg (by decide)]; exact b)⟩
  · exact q.elim
/-- a thing of one's own stays from here on -/
def mFrz (i : Nat) (a : HEnv → SO) : HEnv → SO := fun env => match env[i]? with
  | some (.own d) => a (env.set i (.val d))
  | _ => .stuck
theorem set_same {σ : L2.St} {i : Nat} {v : Option V} (h : σ[i]? = some v) : σ.set i v = σ := by
  refine List.ext_getElem? fun j => ?_
  by_cases hj : i = j
  · subst hj
    rw [List.getElem?_set_self (List.getElem?_eq_some_iff.mp h).1, h]
  · rw [List.getElem?_set_ne hj]
theorem read_frz {i : Nat} {Dn : Ends} {σ : L2.St} {H : Hp} (q : tS cl W (mFrz i a) Dn σ H) : tS cl W a Dn σ H := by
  obtain ⟨F0, H0, F, env, s, q⟩ := q
  unfold mFrz at q
  split at q
  · rename_i d e
    obtain ⟨p, h1, h2, h3, h4⟩ := s.own i d (oL_own e)
    obtain ⟨F2, x2, k2, s2, r2, n2⟩ := freeze s.kp s.sub h3 h2 h4
    have nn : ∀ (j : Nat) (e' : D) (p' : Addr), j ≠ i → env[j]?.bind oL = some e' → σ[j]? = some (some (.ref p')) → p' ≠ p := fun j e' p' hj h5 h6 z => by
      subst z
      exact hj (s.dis j i e' d p' h5 (oL_own e) h6 h1)
    have sb : HSt cl F0 H0 F2 (env.set i .no) σ H := by
      have ne : ∀ (j : Nat) (w : Slot), w ≠ .no → (env.set i .no)[j]? = some w → i ≠ j := fun j w hw h z => by
        subst z
        by_cases hl : i < env.length
        · rw [List.getElem?_set_self hl] at h
          exact hw (Option.some.inj h).symm
        · rw [List.getElem?_eq_none (by simp; omega)] at h
          cases h
      have neo : ∀ (j : Nat) (w : D), (env.set i .no)[j]?.bind oL = some w → i ≠ j := fun j w h z => by
        subst z
        by_cases hl : i < env.length
        · rw [List.getElem?_set_self hl] at h
          cases h
        · rw [List.getElem?_eq_none (by simp; omega)] at h
          cases h
      refine ⟨by simp [s.len], s2, k2, fun j e' h => ?_, fun j e' h => ?_, fun j e' h => ?_, fun j k e1 e2 q' g1 g2 g3 g4 => ?_⟩
      · rw [List.getElem?_set_ne (ne j _ (by intro z; cases z) h)] at h
        obtain ⟨v, a1, b1⟩ := s.val j e' h
        exact ⟨v, a1, b1.ext x2⟩
      · have hij := neo j _ h
        rw [List.getElem?_set_ne hij] at h
        obtain ⟨p', a1, b1, c1, o1⟩ := s.own j e' h
        obtain ⟨u, hu, ob, mu⟩ := o1
        exact ⟨p', a1, by rw [n2 p' (nn j e' p' (Ne.symm hij) h a1)]; exact b1, c1, u, hu, ob.ext x2, mu⟩
      · have hij := ne j _ (by intro z; cases z) h
        rw [List.getElem?_set_ne hij] at h
        exact s.lnt j e' h
      · rw [List.getElem?_set_ne (neo j _ g1)] at g1
        rw [List.getElem?_set_ne (neo k _ g2)] at g2
        exact s.dis j k e1 e2 q' g1 g2 g3 g4
    have s3 := sb.set (i := i) r2
    rw [set_same h1] at s3
    have ee : (env.set i .no).set i (.val d) = env.set i (.val d) := by simp
    rw [ee] at s3
    exact ⟨F0, H0, F2, _, s3, q.ext x2⟩
  · exact q.elim
theorem ds_frz {i : Nat} (h : PSs X sts (tS cl W a)) : PSs X sts (tS cl W (mFrz i a)) := pss_weak h fun _ _ _ q => read_frz q
def mDrop (m : HEnv → R D) : HEnv → SO := sB m fun _ env => .nx env
theorem ds_expr {e : Expr} {m : HEnv → R D} (he : PE X e (tF cl W m)) (hs : swapsWith e none pos.line X.env = pure false := by rfl) : PS X (.Expr e pos) (tS cl W (mDrop m)) :=
  ps_weak (ps_expr he hs) fun Dn σ H q => stB q fun d v F0 H0 F env Hs H1 s0 F1 kp s r p => HSt.get (W := W) s p
theorem ds_doc {x j pos' pos2} : PS X (.Expr (.Constant (.str x) j pos') pos2) (tS cl W mNext) := ps_weak ps_doc fun Dn σ H ⟨F0, H0, F, env, s, q⟩ => s.get q
theorem ds_pass : PS X (.Pass pos) (tS cl W mNext) := ps_weak ps_pass fun Dn σ H ⟨F0, H0, F, env, s, q⟩ => s.get q
def mBreak : HEnv → SO := .bk
def mCont : HEnv → SO := .ct
theorem ds_break : PS X (.Break pos) (tS cl W mBreak) := ps_weak ps_break fun Dn σ H ⟨F0, H0, F, env, s, q⟩ => q σ F H (Ext.refl F) s
theorem ds_cont : PS X (.Continue pos) (tS cl W mCont) := ps_weak ps_continue fun Dn σ H ⟨F0, H0, F, env, s, q⟩ => q σ F H (Ext.refl F) s
def mIfS (t : HEnv → R Bool) (a b : HEnv → SO) : HEnv → SO := sB t fun c env => if c = true then a env else b env
theorem ds_if {c : Expr} {s1 s2 : List Stmt} {t : HEnv → R Bool} (hc : PT X c (tT cl W t)) (h1 : PSs X s1 (tS cl W a)) (h2 : PSs X s2 (tS cl W b)) : PS X (.If c s1 s2 pos) (tS cl W (mIfS t a b)) := by
  refine ps_weak (ps_if hc h1 h2) fun Dn σ H q => ?_
  refine stB (k := fun c env => if c = true then a env else b env) q fun d v F0 H0 F env Hs H1 s0 F1 kp s r p => ?_
  obtain rfl : v = d := r
  cases v with
  | true => exact ⟨F0, H0, F1, env, s, p⟩
  | false => exact ⟨F0, H0, F1, env, s, p⟩
end
end HL

namespace HL
open PySem L2

/-! ### what is walked -/
structure ItD (cl : Cl) (J : It) (ds : List D) (F : Hp) : Prop where
  few : ds.length ≤ sizeLine
  stop : ∀ F1 H1, Ext F F1 → Sub F1 H1 → J.stop ds.length H1
  go : ∀ (i : Nat) (d : D) F1 H1, ds[i]? = some d → Ext F F1 → Sub F1 H1 → J.go i H1
  yld : ∀ (i : Nat) (d : D) F1 H1 x H2, ds[i]? = some d → Ext F F1 → Sub F1 H1 → J.yld i H1 x H2 → ∃ F2, Kp F1 H1 F2 H2 ∧ Sub F2 H2 ∧ Rep cl F2 d x
structure ItK (cl : Cl) (J : It) (ds : List D) (F H : Hp) : Prop where
  few : ds.length ≤ sizeLine
  stop : ∀ F1 H1, Kp F H F1 H1 → Sub F1 H1 → J.stop ds.length H1
  go : ∀ (i : Nat) (d : D) F1 H1, ds[i]? = some d → Kp F H F1 H1 → Sub F1 H1 → J.go i H1
  yld : ∀ (i : Nat) (d : D) F1 H1 x H2, ds[i]? = some d → Kp F H F1 H1 → Sub F1 H1 → J.yld i H1 x H2 → ∃ F2, Kp F1 H1 F2 H2 ∧ Sub F2 H2 ∧ Rep cl F2 d x
theorem ItD.k {cl : Cl} {J : It} {ds : List D} {F H : Hp} (h : ItD cl J ds F) : ItK cl J ds F H :=
  ⟨h.few, fun F1 H1 k => h.stop F1 H1 k.ext, fun i d F1 H1 e k => h.go i d F1 H1 e k.ext, fun i d F1 H1 x H2 e k => h.yld i d F1 H1 x H2 e k.ext⟩
def relI (cl : Cl) : Rel (List D) It := fun _ F _ ds J => ItD cl J ds F
def relK (cl : Cl) : Rel (List D) It := fun _ F H ds J => ItK cl J ds F H
abbrev tI (cl : Cl) (W : WX) (m : HEnv → R (List D)) : TI := tG cl (relI cl) W m
abbrev tK (cl : Cl) (W : WX) (m : HEnv → R (List D)) : TI := tG cl (relK cl) W m
section
variable {X : Cx} {cl : Cl} {W : WX} {tg e : Expr}
theorem pi_weak {t t' : TI} (h : PI X tg e t) (w : ∀ σ H Q, t' σ H Q → t σ H Q) : PI X tg e t' := ⟨fun pins s σ H Q I q => h.run pins s σ H Q I (w σ H Q q)⟩
theorem di_k {m : HEnv → R (List D)} (h : PI X tg e (tI cl W m)) : PI X tg e (tK cl W m) := pi_weak h fun _ _ _ q => tG.mono (fun _ _ _ _ _ z => ItD.k z) q
/-- by the data's kind, ahead of the run -/
theorem pi_case {α : Type} {m : HEnv → R (List D)} {n : HEnv → R α} (h : ∀ a : R α, ∃ t : TI, PI X tg e t ∧ ∀ σ H Q F0 H0 F env, HSt cl F0 H0 F env σ H → n env = a → PostG cl (relI cl) W (m env) F σ H Q → t σ H Q) : PI X tg e (tI cl W m) := by
  refine ⟨fun pins s σ H Q I q => ?_⟩
  obtain ⟨F0, H0, F, env, st, q⟩ := q
  obtain ⟨t, h1, h2⟩ := h (n env)
  exact h1.run pins s σ H Q I (h2 σ H Q F0 H0 F env st rfl q)
theorem pe_case {α : Type} {rel : Rel D V} {m : HEnv → R D} {n : HEnv → R α} (h : ∀ a : R α, ∃ t : TE, PE X e t ∧ ∀ σ H Q F0 H0 F env, HSt cl F0 H0 F env σ H → n env = a → PostG cl rel W (m env) F σ H Q → t σ H Q) : PE X e (tG cl rel W m) := by
  refine ⟨fun pins s σ H Q I q => ?_⟩
  obtain ⟨F0, H0, F, env, st, q⟩ := q
  obtain ⟨t, h1, h2⟩ := h (n env)
  exact h1.run pins s σ H Q I (h2 σ H Q F0 H0 F env st rfl q)
end
theorem Rd.ext {F H : Hp} {p : Addr} {u : HO} (hs : Sub F H) (h : F p = some u) : Rd H p u := hs.rd h
theorem itd_list {cl : Cl} {K : PySem.W.Frag} {F : Hp} {p : Addr} {ds : List D} {vs : List V} (hp : F p = some (.lst vs)) (r : RepL cl F ds vs) (z : ds.length ≤ sizeLine) : ItD cl (Itl K p) ds F where
  few := z
  stop := fun F1 H1 x s => ⟨vs, .inl (s.rd (x p _ hp)), by rw [r.len]; exact Nat.le_refl _⟩
  go := fun i d F1 H1 e x s => by
    obtain ⟨v, a, _⟩ := r.at e
    exact ⟨vs, v, .inl (s.rd (x p _ hp)), a⟩
  yld := fun i d F1 H1 x H2 e k s y => by
    obtain ⟨v, a, b⟩ := r.at e
    obtain ⟨rfl, q⟩ := y
    have := q vs (.inl (s.rd (k p _ hp)))
    rw [a] at this
    cases this
    exact ⟨F1, Kp.refl _ _, s, b.ext k⟩
theorem itd_tup {cl : Cl} {K : PySem.W.Frag} {F : Hp} {p : Addr} {ds : List D} {vs : List V} (hp : F p = some (.tup vs)) (r : RepL cl F ds vs) (z : ds.length ≤ sizeLine) : ItD cl (Itt K p) ds F where
  few := z
  stop := fun F1 H1 x s => ⟨vs, .inl (s.rd (x p _ hp)), by rw [r.len]; exact Nat.le_refl _⟩
  go := fun i d F1 H1 e x s => by
    obtain ⟨v, a, _⟩ := r.at e
    exact ⟨vs, v, .inl (s.rd (x p _ hp)), a⟩
  yld := fun i d F1 H1 x H2 e k s y => by
    obtain ⟨v, a, b⟩ := r.at e
    obtain ⟨rfl, q⟩ := y
    have := q vs (.inl (s.rd (k p _ hp)))
    rw [a] at this
    cases this
    exact ⟨F1, Kp.refl _ _, s, b.ext k⟩
theorem itk_list {cl : Cl} {K : PySem.W.Frag} {F H : Hp} {p : Addr} {ds : List D} {vs : List V} (hp : H p = some (.lst vs)) (r : RepL cl F ds vs) (z : ds.length ≤ sizeLine) : ItK cl (Itl K p) ds F H where
  few := z
  stop := fun F1 H1 x s => ⟨vs, .inl (.inl (x.same _ _ hp)), by rw [r.len]; exact Nat.le_refl _⟩
  go := fun i d F1 H1 e x s => by
    obtain ⟨v, a, _⟩ := r.at e
    exact ⟨vs, v, .inl (.inl (x.same _ _ hp)), a⟩
  yld := fun i d F1 H1 x H2 e k s y => by
    obtain ⟨v, a, b⟩ := r.at e
    obtain ⟨rfl, q⟩ := y
    have := q vs (.inl (.inl (k.same _ _ hp)))
    rw [a] at this
    cases this
    exact ⟨F1, Kp.refl _ _, s, b.ext k.ext⟩
/-- the signs of a text -/
def signsD (x : Str) : List D := x.cps.toList.map fun c => .str ⟨#[c]⟩
def itemsD : D → R (List D)
  | .lst ds => .ok ds
  | .tup ds => .ok ds
  | .str x => if x.length ≤ sizeLine then .ok (signsD x) else .stuck
  | _ => .stuck
section
variable {X : Cx} {cl : Cl} {W : WX} {tg e : Expr} {pos : Pos}
theorem PostG.lift {α β γ δ : Type} {rel : Rel α β} {rel' : Rel γ δ} {r : R α} {f : α → R γ} {F H : Hp} {σ : L2.St} {Q : δ → Hp → Prop} {Q1 : β → Hp → Prop} (h : PostG cl rel' W (r.bind f) F σ H Q)
    (hk : ∀ d, r = .ok d → ∀ v F' H', Kp F H F' H' → Sub F' H' → rel H F' H' d v → PostG cl rel' W (f d) F σ H Q → Q1 v H') : PostG cl rel W r F σ H Q1 := by
  cases r with
  | ok d => exact fun v F' H' k s q => hk d rfl v F' H' k s q h
  | er x => exact h
  | stuck => exact h.elim
theorem RepIn.lst {F : Hp} {xs : List D} {v : V} (h : Rep cl F (.lst xs) v) : ∃ p vs, v = .ref p ∧ F p = some (.lst vs) ∧ RepL cl F xs vs ∧ xs.length ≤ sizeLine := by simpa only [Rep] using h
theorem RepIn.tup {F : Hp} {xs : List D} {v : V} (h : Rep cl F (.tup xs) v) : ∃ p vs, v = .ref p ∧ F p = some (.tup vs) ∧ RepL cl F xs vs ∧ xs.length ≤ sizeLine := by simpa only [Rep] using h
theorem RepIn.str {F : Hp} {x : Str} {v : V} (h : Rep cl F (.str x) v) : v = .str x := by simpa only [Rep] using h
theorem RepIn.int {F : Hp} {x : Int} {v : V} (h : Rep cl F (.int x) v) : v = .int x := by simpa only [Rep] using h
theorem RepIn.bl {F : Hp} {x : Bool} {v : V} (h : Rep cl F (.bl x) v) : v = .bl x := by simpa only [Rep] using h
theorem RepIn.non {F : Hp} {v : V} (h : Rep cl F .non v) : v = .non := by simpa only [Rep] using h
theorem signs_get {x : Str} {i : Nat} {d : D} (h : (signsD x)[i]? = some d) : ∃ c, x.cps[i]? = some c ∧ d = .str ⟨#[c]⟩ := by
  unfold signsD at h
  rw [List.getElem?_map] at h
  cases e : x.cps.toList[i]? with
  | none => rw [e] at h; cases h
  | some c =>
    rw [e] at h
    cases h
    exact ⟨c, by simpa using e, rfl⟩
theorem itd_str {F : Hp} {x : Str} (z : x.length ≤ sizeLine) : ItD cl (Its x) (signsD x) F := by
  have hl : (signsD x).length = x.cps.size := by simp [signsD]
  refine ⟨by rw [hl]; exact z, fun F1 H1 _ _ => by show x.cps.size ≤ _; omega, fun i d F1 H1 e _ _ => ?_, fun i d F1 H1 v H2 e _ s y => ?_⟩
  · show i < x.cps.size
    have := (List.getElem?_eq_some_iff.mp e).1
    omega
  · obtain ⟨rfl, c, hc, rfl⟩ := y
    obtain ⟨c', hc', rfl⟩ := signs_get e
    rw [hc] at hc'
    cases hc'
    exact ⟨F1, Kp.refl _ _, s, by simp only [Rep]⟩
/-- for x in a list, a tuple, a text -/
theorem di_any {m : HEnv → R D} (h : PE X e (tF cl W m)) : PI X tg e (tI cl W (m1 itemsD m)) := by
  refine pi_case (n := m) fun a => ?_
  rcases a with (_ | b | i | x | xs | xs | _ | _) | x | _
  case ok.lst =>
    refine ⟨_, pi_list h, fun σ H Q F0 H0 F env st em q => ⟨F0, H0, F, env, st, ?_⟩⟩
    unfold m1 at q
    refine PostG.lift q fun d ed v F' H' k s r p => ?_
    rw [em] at ed
    cases ed
    obtain ⟨a, vs, rfl, ha, rl, z⟩ := RepIn.lst r
    exact ⟨a, rfl, ⟨vs, .inl (s.rd ha)⟩, p _ F' H' k s (itd_list ha rl z)⟩
  case ok.tup =>
    refine ⟨_, pi_tup h, fun σ H Q F0 H0 F env st em q => ⟨F0, H0, F, env, st, ?_⟩⟩
    unfold m1 at q
    refine PostG.lift q fun d ed v F' H' k s r p => ?_
    rw [em] at ed
    cases ed
    obtain ⟨a, vs, rfl, ha, rl, z⟩ := RepIn.tup r
    exact ⟨a, rfl, ⟨vs, .inl (s.rd ha)⟩, p _ F' H' k s (itd_tup ha rl z)⟩
  case ok.str =>
    refine ⟨_, pi_str h, fun σ H Q F0 H0 F env st em q => ⟨F0, H0, F, env, st, ?_⟩⟩
    unfold m1 at q
    refine PostG.lift q fun d ed v F' H' k s r p => ?_
    rw [em] at ed
    cases ed
    refine ⟨x, RepIn.str r, ?_⟩
    replace p : PostG cl (relI cl) W (if x.length ≤ sizeLine then R.ok (signsD x) else R.stuck) F σ H Q := p
    split at p
    · rename_i z
      exact p _ F' H' k s (itd_str z)
    · exact p.elim
  all_goals
    refine ⟨_, pi_list h, fun σ H Q F0 H0 F env st em q => ⟨F0, H0, F, env, st, ?_⟩⟩
    unfold m1 at q
    refine PostG.lift q fun d ed v F' H' k s r p => ?_
    rw [em] at ed
    first
      | (cases ed; done)
      | (cases ed; exact p.elim)
/-- a borrowed list walked (in a comprehension) -/
theorem BRep.lst {F H : Hp} {xs : List D} {v : V} (hs : Sub F H) (h : BRep cl F H (.lst xs) v) : ∃ p vs, v = .ref p ∧ Rd H p (.lst vs) ∧ RepL cl F xs vs ∧ xs.length ≤ sizeLine ∧ (F p = some (.lst vs) ∨ H p = some (.lst vs)) := by
  rcases h with h | ⟨p, a, b, u, c, ⟨vs, rfl, e, f⟩, _⟩
  · obtain ⟨p, vs, a, b, c, d⟩ := RepIn.lst h
    exact ⟨p, vs, a, hs.rd b, c, d, .inl b⟩
  · exact ⟨p, vs, a, .inl c, e, f, .inr c⟩
theorem dk_any {m : HEnv → R D} (h : PE X e (tB cl W m)) : PI X tg e (tK cl W (m1 itemsD m)) := by
  refine ⟨fun pins s σ H Q I q => ?_⟩
  obtain ⟨F0, H0, F, env, st, q⟩ := q
  unfold m1 at q
  have key : ∀ (t : TI), PI X tg e t → t σ H Q → wpAny (model X.prog X.w) X.A (eval e X.env) (fun v s1 => wpAny (model X.prog X.w) X.A (pyIter v) (PIE X pins σ tg Q) X.xe s1) X.xe s := fun t h1 h2 => h1.run pins s σ H Q I h2
  cases em : m env with
  | er x =>
    refine key _ (pi_list h) ⟨F0, H0, F, env, st, ?_⟩
    rw [em] at q ⊢
    exact q
  | stuck =>
    rw [em] at q
    exact q.elim
  | ok d =>
    rw [em] at q
    simp only [R.bind_ok] at q
    cases d with
    | lst xs =>
      refine key _ (pi_list h) ⟨F0, H0, F, env, st, ?_⟩
      rw [em]
      intro v F' H' k s' r
      obtain ⟨p, vs, rfl, rd, rl, z, o⟩ := BRep.lst s' r
      refine ⟨p, rfl, ⟨vs, .inl rd⟩, q _ F' H' k s' ?_⟩
      rcases o with o | o
      · exact (itd_list o rl z).k
      · exact itk_list o rl z
    | tup xs =>
      refine key _ (pi_tup h) ⟨F0, H0, F, env, st, ?_⟩
      rw [em]
      intro v F' H' k s' r
      rcases r with r | ⟨p, _, hf, u, hu, _, mu⟩
      · obtain ⟨a, vs, rfl, ha, rl, z⟩ := RepIn.tup r
        exact ⟨a, rfl, ⟨vs, .inl (s'.rd ha)⟩, q _ F' H' k s' (itd_tup ha rl z).k⟩
      · cases mu
    | str x =>
      refine key _ (pi_str h) ⟨F0, H0, F, env, st, ?_⟩
      rw [em]
      intro v F' H' k s' r
      refine ⟨x, RepIn.str (BRep.atom (F' := F') r rfl), ?_⟩
      replace q : PostG cl (relK cl) W (if x.length ≤ sizeLine then R.ok (signsD x) else R.stuck) F σ H Q := q
      split at q
      · rename_i z
        exact q _ F' H' k s' (itd_str z).k
      · exact q.elim
    | _ => exact q.elim
/-- range -/
def rangeD (lo hi : Int) : R (List D) := if -(2 ^ 62) ≤ lo ∧ lo < 2 ^ 62 ∧ -(2 ^ 62) ≤ hi ∧ hi < 2 ^ 62 ∧ (hi - lo).toNat ≤ 16777216 then .ok ((List.range (hi - lo).toNat).map fun i => .int (lo + (i : Nat))) else .stuck
def range1D : List D → R (List D)
  | [.int n] => rangeD 0 n
  | _ => .stuck
def range2D : List D → R (List D)
  | [.int a, .int b] => rangeD a b
  | _ => .stuck
theorem itd_range {F : Hp} {lo : Int} {n : Nat} (z : n ≤ 16777216) : ItD cl (Itr lo n) ((List.range n).map fun i => .int (lo + (i : Nat))) F := by
  have hl : ((List.range n).map fun i => D.int (lo + (i : Nat))).length = n := by simp
  refine ⟨by rw [hl, sizeLine_eq]; exact z, fun F1 H1 _ _ => by rw [hl]; exact Nat.le_refl _, fun i d F1 H1 e _ _ => ?_, fun i d F1 H1 v H2 e _ s y => ?_⟩
  · have := (List.getElem?_eq_some_iff.mp e).1
    show i < n
    omega
  · obtain ⟨rfl, rfl⟩ := y
    have hi : i < n := by
      have := (List.getElem?_eq_some_iff.mp e).1
      omega
    rw [List.getElem?_map, List.getElem?_range hi] at e
    cases e
    exact ⟨F1, Kp.refl _ _, s, by simp only [Rep]⟩
theorem RepL.one {F : Hp} {d : D} {vs : List V} (h : RepL cl F [d] vs) : ∃ v, vs = [v] ∧ Rep cl F d v := by
  simp only [RepL] at h
  obtain ⟨v, r, rfl, a, rfl⟩ := h
  exact ⟨v, rfl, a⟩
theorem RepL.two {F : Hp} {d e : D} {vs : List V} (h : RepL cl F [d, e] vs) : ∃ v u, vs = [v, u] ∧ Rep cl F d v ∧ Rep cl F e u := by
  simp only [RepL] at h
  obtain ⟨v, r, rfl, a, u, r', rfl, b, rfl⟩ := h
  exact ⟨v, u, rfl, a, b⟩
theorem RepL.three {F : Hp} {d e f : D} {vs : List V} (h : RepL cl F [d, e, f] vs) : ∃ v u w, vs = [v, u, w] ∧ Rep cl F d v ∧ Rep cl F e u ∧ Rep cl F f w := by
  simp only [RepL] at h
  obtain ⟨v, r, rfl, a, u, r', rfl, b, w, r'', rfl, c, rfl⟩ := h
  exact ⟨v, u, w, rfl, a, b, c⟩
theorem di_range1 {a : Expr} {ms : HEnv → R (List D)} {p : Pos} (hg : Gl X "range") (hm : X.mg "range" = none) (ha : PA X [a] (tA cl W ms)) (hs : starEach [a] X.env = [(false, eval a X.env)] := by rfl) :
    PI X tg (.Call (.Name "range" p) [a] [] pos) (tI cl W (m1 range1D ms)) := by
  refine pi_weak (pi_range1 hg hm ha hs) fun σ H Q q => ?_
  refine read1 (rel := relA cl) (r := fun vs H1 Q => ∃ j : Int, vs = [.int j] ∧ -(2 ^ 62) ≤ j ∧ j < 2 ^ 62 ∧ Q (Itr 0 j.toNat) H1) (rel' := relI cl) (fun _ _ _ _ _ _ _ z => z) (fun Hs F H ds vs Q σ s r p => ?_) q
  unfold range1D at p
  split at p
  · rename_i n
    obtain ⟨v, rfl, h1⟩ := RepL.one r
    unfold rangeD at p
    split at p
    · rename_i hc
      refine ⟨n, by rw [RepIn.int h1], hc.2.2.1, hc.2.2.2.1, ?_⟩
      have e : (n - 0).toNat = n.toNat := by rw [Int.sub_zero]
      refine PostG.done p s ?_
      have z := hc.2.2.2.2
      rw [e] at z ⊢
      exact itd_range z
    · exact p.elim
  · exact p.elim
theorem di_range2 {a b : Expr} {ms : HEnv → R (List D)} {p : Pos} (hg : Gl X "range") (hm : X.mg "range" = none) (ha : PA X [a, b] (tA cl W ms)) (hs : starEach [a, b] X.env = [(false, eval a X.env), (false, eval b X.env)] := by rfl) (hs2 : starEach [b] X.env = [(false, eval b X.env)] := by rfl) :
    PI X tg (.Call (.Name "range" p) [a, b] [] pos) (tI cl W (m1 range2D ms)) := by
  refine pi_weak (pi_range2 hg hm ha hs hs2) fun σ H Q q => ?_
  refine read1 (rel := relA cl) (r := fun vs H1 Q => ∃ i j : Int, vs = [.int i, .int j] ∧ (-(2 ^ 62) ≤ i ∧ i < 2 ^ 62 ∧ -(2 ^ 62) ≤ j ∧ j < 2 ^ 62) ∧ Q (Itr i (j - i).toNat) H1) (rel' := relI cl) (fun _ _ _ _ _ _ _ z => z) (fun Hs F H ds vs Q σ s r p => ?_) q
  unfold range2D at p
  split at p
  · rename_i a b
    obtain ⟨v, u, rfl, h1, h2⟩ := RepL.two r
    unfold rangeD at p
    split at p
    · rename_i hc
      exact ⟨a, b, by rw [RepIn.int h1, RepIn.int h2], ⟨hc.1, hc.2.1, hc.2.2.1, hc.2.2.2.1⟩, PostG.done p s (itd_range hc.2.2.2.2)⟩
    · exact p.elim
  · exact p.elim
end

/-! ### targets -/
/-- the slots at is get what g says -/
def tTg (cl : Cl) (is : List Nat) (g : D → HEnv → R HEnv) : TG := fun v σ H Q => ∃ F0 H0 F env d, HSt cl F0 H0 F env σ H ∧ Rep cl F d v ∧ match g d env with
  | .ok e => ∀ σ', HSt cl F0 H0 F e σ' H → σ'.length = σ.length → (∀ j : Nat, j ∉ is → σ'[j]? = σ[j]?) → Q σ' H
  | _ => False
def gN (i : Nat) : D → HEnv → R HEnv := fun d env => .ok (env.set i (.val d))
section
variable {X : Cx} {cl : Cl} {pos : Pos}
theorem pg_weak {e : Expr} {t t' : TG} (h : PG X e t) (w : ∀ v σ H Q, t' v σ H Q → t v σ H Q) : PG X e t' := ⟨fun pins s σ H v u Q I r q => h.run pins s σ H v u Q I r (w v σ H Q q)⟩
theorem dg_name {i : Nat} {x : Str} (hN : X.N.Nodup) (hi : X.N[i]? = some x) (hx : Loc X.env.scope x) (hf : X.fn x = true ∨ X.env.scope.names.lookup x = some .local := by first | exact .inl rfl | exact .inr rfl | assumption) :
    PG X (.Name x pos) (tTg cl [i] (gN i)) := by
  refine pg_weak (pg_name hN hi hx hf) fun v σ H Q ⟨F0, H0, F, env, d, s, r, q⟩ => ?_
  exact q _ (s.set r) (by simp) fun j hj => by
    rw [List.getElem?_set_ne (fun z => hj (by rw [z]; exact List.mem_cons_self))]
/-- (a, b, ..) = a tuple -/
def tTgs (cl : Cl) (is : List Nat) (g : List D → HEnv → R HEnv) : TGs := fun vs σ H Q => ∃ F0 H0 F env ds, HSt cl F0 H0 F env σ H ∧ RepL cl F ds vs ∧ match g ds env with
  | .ok e => ∀ σ', HSt cl F0 H0 F e σ' H → σ'.length = σ.length → (∀ j : Nat, j ∉ is → σ'[j]? = σ[j]?) → Q σ' H
  | _ => False
def gsNil : List D → HEnv → R HEnv := fun ds env => match ds with
  | [] => .ok env
  | _ => .stuck
def gsCons (g : D → HEnv → R HEnv) (gs : List D → HEnv → R HEnv) : List D → HEnv → R HEnv := fun ds env => match ds with
  | d :: r => match g d env with
    | .ok e => gs r e
    | _ => .stuck
  | [] => .stuck
def gTupD (gs : List D → HEnv → R HEnv) : D → HEnv → R HEnv := fun d env => match d with
  | .tup ds => gs ds env
  | _ => .stuck
theorem dgs_nil : PGs X [] (tTgs cl [] gsNil) := by
  refine ⟨fun pins s σ H vs us Q I r q => pgs_nil.run pins s σ H vs us Q I r ?_⟩
  obtain ⟨F0, H0, F, env, ds, st, rl, q⟩ := q
  cases ds with
  | nil =>
    simp only [RepL] at rl
    exact ⟨rl, q σ st rfl fun _ _ => rfl⟩
  | cons d r => exact q.elim
theorem dgs_cons {e : Expr} {es : List Expr} {is js : List Nat} {g : D → HEnv → R HEnv} {gs : List D → HEnv → R HEnv} (h1 : PG X e (tTg cl is g)) (h2 : PGs X es (tTgs cl js gs))
    (hs : (assignEach (e :: es) X.env).map (·.2) = assign e X.env :: (assignEach es X.env).map (·.2) := by rfl) : PGs X (e :: es) (tTgs cl (is ++ js) (gsCons g gs)) := by
  refine ⟨fun pins s σ H vs us Q I r q => (pgs_cons h1 h2 hs).run pins s σ H vs us Q I r ?_⟩
  obtain ⟨F0, H0, F, env, ds, st, rl, q⟩ := q
  cases ds with
  | nil => exact q.elim
  | cons d ds =>
    simp only [RepL] at rl
    obtain ⟨v, vr, rfl, a, b⟩ := rl
    refine ⟨v, vr, rfl, F0, H0, F, env, d, st, a, ?_⟩
    simp only [gsCons] at q
    cases eg : g d env with
    | ok e1 =>
      rw [eg] at q
      intro σ1 st1 l1 k1
      refine ⟨F0, H0, F, e1, ds, st1, b, ?_⟩
      cases eg2 : gs ds e1 with
      | ok e2 =>
        simp only [eg2] at q
        exact fun σ2 st2 l2 k2 => q σ2 st2 (l2.trans l1) fun j hj => (k2 j fun z => hj (List.mem_append_right _ z)).trans (k1 j fun z => hj (List.mem_append_left _ z))
      | er x => simp only [eg2] at q
      | stuck => simp only [eg2] at q
    | er x => rw [eg] at q; exact q.elim
    | stuck => rw [eg] at q; exact q.elim
theorem gs_len {es : List Expr} {is : List Nat} {gs : List D → HEnv → R HEnv} {n : Nat} (hl : ∀ ds env e, gs ds env = .ok e → ds.length = n) {cl : Cl} (hc : X.calm = true) {k : Nat} (h : PGs X es (tTgs cl is gs))
    (hn : (assignEach es X.env).length = n := by rfl) (hst : (assignEach es X.env).findIdx? (·.1) = none := by rfl) : PG X (.Tuple es k pos) (tTg cl is (gTupD gs)) := by
  refine pg_weak (pg_tup hc h hn hst) fun v σ H Q ⟨F0, H0, F, env, d, s, r, q⟩ => ?_
  cases d with
  | tup ds =>
    obtain ⟨a, vs, rfl, ha, rl, z⟩ := RepIn.tup r
    simp only [gTupD] at q
    cases eg : gs ds env with
    | ok e =>
      rw [eg] at q
      refine ⟨a, vs, rfl, .inl (s.sub.rd ha), by rw [rl.len]; exact hl _ _ _ eg, F0, H0, F, env, ds, s, rl, ?_⟩
      rw [eg]
      exact q
    | er x => rw [eg] at q; exact q.elim
    | stuck => rw [eg] at q; exact q.elim
  | _ => exact q.elim
inductive GLn : (List D → HEnv → R HEnv) → Nat → Prop where
  | nil : GLn gsNil 0
  | cons {g : D → HEnv → R HEnv} {gs : List D → HEnv → R HEnv} {n : Nat} (h : GLn gs n) : GLn (gsCons g gs) (n + 1)
theorem GLn.len {gs : List D → HEnv → R HEnv} {n : Nat} (h : GLn gs n) : ∀ ds env e, gs ds env = .ok e → ds.length = n := by
  induction h with
  | nil =>
    intro ds env e q
    cases ds with
    | nil => rfl
    | cons d r => cases q
  | cons h ih =>
    rename_i g gs n
    intro ds env e q
    cases ds with
    | nil => cases q
    | cons d r =>
      simp only [gsCons] at q
      cases eg : g d env with
      | ok e1 =>
        rw [eg] at q
        simp [ih r e1 e q]
      | er x => rw [eg] at q; cases q
      | stuck => rw [eg] at q; cases q
theorem dg_tup {es : List Expr} {is : List Nat} {gs : List D → HEnv → R HEnv} {n k : Nat} (hc : X.calm = true) (h : PGs X es (tTgs cl is gs)) (hl : GLn gs n := by repeat constructor)
    (hn : (assignEach es X.env).length = n := by rfl) (hst : (assignEach es X.env).findIdx? (·.1) = none := by rfl) : PG X (.Tuple es k pos) (tTg cl is (gTupD gs)) := gs_len hl.len hc h hn hst
/-- target = value -/
def mAsg (m : HEnv → R D) (g : D → HEnv → R HEnv) : HEnv → SO := sB m fun d env => match g d env with
  | .ok e => .nx e
  | _ => .stuck
theorem ds_asg {W : WX} {tg e : Expr} {is : List Nat} {g : D → HEnv → R HEnv} {m : HEnv → R D} (he : PE X e (tF cl W m)) (hg : PG X tg (tTg cl is g)) (hs : swapsWithSole [tg] e pos.line X.env = pure false := by rfl) (hw : swappedStores [tg] e X.env = pure none := by rfl)
    (h1 : (assignEach [tg] X.env).map (·.2) = [assign tg X.env] := by rfl) : PS X (.Assign [tg] e pos) (tS cl W (mAsg m g)) := by
  refine ps_weak (ps_asg he hg hs hw h1) fun Dn σ H q => ?_
  refine stB q fun d v F0 H0 F env Hs H1 s0 F1 kp s r p => ?_
  refine ⟨F0, H0, F1, env, d, s, r, ?_⟩
  cases eg : g d env with
  | ok e =>
    simp only [eg] at p ⊢
    exact fun σ' s' _ _ => HSt.get (W := W) s' p
  | er x => simp only [eg] at p; exact p.elim
  | stuck => simp only [eg] at p; exact p.elim
end
end HL

namespace HL
open PySem PySem.Spec PyProof.Rows L2

/-! ### for, while -/
def forL (g : D → HEnv → R HEnv) (body : HEnv → SO) : List D → HEnv → SO
  | [], env => .nx env
  | d :: ds, env => match g d env with
    | .ok e1 => match body e1 with
      | .nx e2 => forL g body ds e2
      | .ct e2 => forL g body ds e2
      | .bk e2 => .nx e2
      | .rt o r => .rt o r
      | .er x e2 => .er x e2
      | .stuck => .stuck
    | _ => .stuck
def mFor (src : HEnv → R (List D)) (g : D → HEnv → R HEnv) (body : HEnv → SO) : HEnv → SO := sB src fun ds env => forL g body ds env
section
variable {X : Cx} {cl : Cl} {W : WX} {pos : Pos}
theorem ds_for {tg iter : Expr} {body : List Stmt} {src : HEnv → R (List D)} {is : List Nat} {g : D → HEnv → R HEnv} {b : HEnv → SO} (hp : PassesOwn (model X.prog X.w) X.A X.env X.xe) (hc : X.calm = true)
    (hi : PI X tg iter (tI cl W src)) (hg : PG X tg (tTg cl is g)) (hb : PSs X body (tS cl W b)) (hs : ∀ x, foldedSetIterable iter X.env x = pure x := by intro _; rfl) : PS X (.For tg iter body [] pos) (tS cl W (mFor src g b)) := by
  refine ps_weak (ps_for hp hc hi hg hb hs) fun Dn σ H q => ?_
  refine stB q fun ds J F0 H0 F env Hs H1 s0 F1 kp s it p => ?_
  refine ⟨fun i m σ H => m = ds.length - i ∧ i ≤ ds.length ∧ ∃ F2 env, Ext F1 F2 ∧ HSt cl F0 H0 F2 env σ H ∧ PostS cl W Dn F0 H0 F2 (forL g b (ds.drop i) env),
    ⟨ds.length, by simp, Nat.zero_le _, F1, env, Ext.refl _, s, by simpa using p⟩, fun i m σ2 H2 ⟨em, hi, F2, env2, x2, s2, p2⟩ => ?_⟩
  subst em
  by_cases hl : i < ds.length
  · refine .inr ⟨it.go i _ F2 H2 (List.getElem?_eq_getElem hl) x2 s2.sub, fun σ' H' => i + 1 ≤ ds.length ∧ ∃ F3 env3, Ext F1 F3 ∧ HSt cl F0 H0 F3 env3 σ' H' ∧ PostS cl W Dn F0 H0 F3 (forL g b (ds.drop (i + 1)) env3),
      fun σ' H' ⟨h1, F3, env3, h2, h3, h4⟩ => ⟨ds.length - (i + 1), by omega, rfl, h1, F3, env3, h2, h3, h4⟩, fun x H' y => ?_⟩
    obtain ⟨F3, k3, s3, r3⟩ := it.yld i _ F2 H2 x H' (List.getElem?_eq_getElem hl) x2 s2.sub y
    refine ⟨F0, H0, F3, env2, _, s2.step k3 s3, r3, ?_⟩
    rw [List.drop_eq_getElem_cons hl] at p2
    simp only [forL] at p2
    cases eg : g ds[i] env2 with
    | ok e1 =>
      simp only [eg] at p2 ⊢
      intro σ4 s4 l4 n4
      refine ⟨F0, H0, F3, e1, s4, ?_⟩
      replace p2 := PostS.ext p2 k3.ext
      cases eb : b e1 with
      | nx e2 =>
        simp only [eb] at p2
        exact fun σ5 F5 H5 x5 s5 => ⟨hl, F5, e2, (x2.trans k3.ext).trans x5, s5, p2.ext x5⟩
      | ct e2 =>
        simp only [eb] at p2
        exact fun σ5 F5 H5 x5 s5 => ⟨hl, F5, e2, (x2.trans k3.ext).trans x5, s5, p2.ext x5⟩
      | bk e2 =>
        simp only [eb] at p2
        exact p2
      | rt o r =>
        simp only [eb] at p2
        exact p2
      | er x e2 =>
        simp only [eb] at p2
        exact p2
      | stuck =>
        simp only [eb] at p2
        exact p2
    | er x => simp only [eg] at p2; exact p2.elim
    | stuck => simp only [eg] at p2; exact p2.elim
  · have e : i = ds.length := by omega
    subst e
    refine .inl ⟨it.stop F2 H2 x2 s2.sub, ?_⟩
    simp only [List.drop_length, forL] at p2
    exact HSt.get (W := W) s2 p2
/-- a while with room for n turns -/
def whileL (t : HEnv → R Bool) (b : HEnv → SO) : Nat → HEnv → SO
  | 0, _ => .stuck
  | n + 1, env => match t env with
    | .ok true => match b env with
      | .nx e => whileL t b n e
      | .ct e => whileL t b n e
      | .bk e => .nx e
      | .rt o r => .rt o r
      | .er x e => .er x e
      | .stuck => .stuck
    | .ok false => .nx env
    | .er x => .er x env
    | .stuck => .stuck
theorem ds_while {n : Nat} {c : Expr} {body : List Stmt} {t : HEnv → R Bool} {b : HEnv → SO} (hp : PassesOwn (model X.prog X.w) X.A X.env X.xe) (hc : PT X c (tT cl W t)) (hb : PSs X body (tS cl W b)) :
    PS X (.While c body [] pos) (tS cl W (whileL t b n)) := by
  refine ps_weak (ps_while hp hc hb) fun Dn σ H q => ?_
  obtain ⟨F0, H0, F, env, s, q⟩ := q
  refine ⟨fun m σ H => ∃ F2 env, HSt cl F0 H0 F2 env σ H ∧ PostS cl W Dn F0 H0 F2 (whileL t b m env), ⟨n, F, env, s, q⟩, fun m σ H ⟨F2, env2, s2, p2⟩ => ?_⟩
  refine ⟨F0, H0, F2, env2, s2, ?_⟩
  cases m with
  | zero => exact p2.elim
  | succ m =>
    simp only [whileL] at p2
    cases et : t env2 with
    | ok c =>
      simp only [et] at p2
      intro c' F' H' k s' r
      obtain rfl : c' = c := r
      cases c' with
      | true =>
        rw [if_pos rfl]
        simp only at p2
        refine ⟨fun σ' H' => ∃ F3 env3, HSt cl F0 H0 F3 env3 σ' H' ∧ PostS cl W Dn F0 H0 F3 (whileL t b m env3), fun σ' H' ⟨F3, e3, h1, h2⟩ => ⟨m, Nat.lt_succ_self m, F3, e3, h1, h2⟩, ?_⟩
        refine ⟨F0, H0, F', env2, s2.step k s', ?_⟩
        replace p2 := PostS.ext p2 k.ext
        cases eb : b env2 with
        | nx e =>
          simp only [eb] at p2
          exact fun σ5 F5 H5 x5 s5 => ⟨F5, e, s5, p2.ext x5⟩
        | ct e =>
          simp only [eb] at p2
          exact fun σ5 F5 H5 x5 s5 => ⟨F5, e, s5, p2.ext x5⟩
        | bk e => simp only [eb] at p2; exact p2
        | rt o r => simp only [eb] at p2; exact p2
        | er x e => simp only [eb] at p2; exact p2
        | stuck => simp only [eb] at p2; exact p2
      | false =>
        rw [if_neg (by decide)]
        simp only at p2
        exact HSt.get (W := W) (s2.step k s') (PostS.ext p2 k.ext)
    | er x =>
      simp only [et] at p2
      exact fun cls dd F' H' k s' r => p2 cls dd σ F' H' k.ext (s2.step k s') r
    | stuck => simp only [et] at p2; exact p2.elim
end

/-! ### comprehensions -/
def compL (g : D → HEnv → R HEnv) (t : HEnv → R Bool) (el : HEnv → R D) (env : HEnv) : List D → R (List D)
  | [] => .ok []
  | d :: ds => match g d env with
    | .ok e1 => match t e1 with
      | .ok true => match el e1 with
        | .ok y => match compL g t el env ds with
          | .ok ys => .ok (y :: ys)
          | _ => .stuck
        | _ => .stuck
      | .ok false => compL g t el env ds
      | _ => .stuck
    | _ => .stuck
theorem compL_len {g : D → HEnv → R HEnv} {t : HEnv → R Bool} {el : HEnv → R D} {env : HEnv} : ∀ {ds ys : List D}, compL g t el env ds = .ok ys → ys.length ≤ ds.length
  | [], ys, h => by cases h; exact Nat.le_refl _
  | d :: ds, ys, h => by
    simp only [compL] at h
    cases eg : g d env with
    | ok e1 =>
      simp only [eg] at h
      cases et : t e1 with
      | ok c =>
        simp only [et] at h
        cases c with
        | true =>
          simp only at h
          cases ee : el e1 with
          | ok y =>
            simp only [ee] at h
            cases er : compL g t el env ds with
            | ok zs =>
              simp only [er] at h
              cases h
              have := compL_len er
              simp only [List.length_cons]
              omega
            | er x => simp only [er] at h; cases h
            | stuck => simp only [er] at h; cases h
          | er x => simp only [ee] at h; cases h
          | stuck => simp only [ee] at h; cases h
        | false =>
          simp only at h
          have := compL_len h
          simp only [List.length_cons]
          omega
      | er x => simp only [et] at h; cases h
      | stuck => simp only [et] at h; cases h
    | er x => simp only [eg] at h; cases h
    | stuck => simp only [eg] at h; cases h
def wipeE (env : HEnv) : List Nat → HEnv
  | [] => env
  | v :: vs => (wipeE env vs).set v .no
/-- [el for g in src if t]; vs the slots of the comprehension's own names -/
def mComp (vs : List Nat) (src : HEnv → R (List D)) (g : D → HEnv → R HEnv) (t : HEnv → R Bool) (el : HEnv → R D) : HEnv → R D := fun env => (src env).bind fun ds => match compL g t el (wipeE env vs) ds with
  | .ok ys => .ok (.lst ys)
  | _ => .stuck
def mYes : HEnv → R Bool := fun _ => .ok true
theorem wipe_get {σ : L2.St} : ∀ {vs : List Nat} {j : Nat}, j ∉ vs → (wipe σ vs)[j]? = σ[j]?
  | [], j, _ => rfl
  | v :: vs, j, h => by
    show ((wipe σ vs).set v none)[j]? = σ[j]?
    rw [List.getElem?_set_ne (fun z => h (by rw [z]; exact List.mem_cons_self))]
    exact wipe_get fun z => h (List.mem_cons_of_mem _ z)
theorem wipe_in {σ : L2.St} : ∀ {vs : List Nat} {j : Nat}, j ∈ vs → j < σ.length → (wipe σ vs)[j]? = some none
  | v :: vs, j, h, hl => by
    show ((wipe σ vs).set v none)[j]? = some none
    by_cases e : v = j
    · subst e
      rw [List.getElem?_set_self (by rw [wipe_length]; exact hl)]
    · rw [List.getElem?_set_ne e]
      rcases List.mem_cons.mp h with z | z
      · exact (e z.symm).elim
      · exact wipe_in z hl
theorem wipe_eq {σ σ' : L2.St} {vs is : List Nat} (hl : σ'.length = σ.length) (hi : ∀ i ∈ is, i ∈ vs) (h : ∀ j : Nat, j ∉ is → σ'[j]? = (wipe σ vs)[j]?) : wipe σ' vs = wipe σ vs := by
  refine List.ext_getElem? fun j => ?_
  by_cases hj : j ∈ vs
  · by_cases hb : j < σ.length
    · rw [wipe_in hj hb, wipe_in hj (by rw [hl]; exact hb)]
    · rw [List.getElem?_eq_none (by rw [wipe_length, hl]; omega), List.getElem?_eq_none (by rw [wipe_length]; omega)]
  · rw [wipe_get hj, h j fun z => hj (hi j z)]
theorem HSt.unset {cl : Cl} {F0 : Bs} {H0 F H : Hp} {env : HEnv} {σ : L2.St} (s : HSt cl F0 H0 F env σ H) {i : Nat} : HSt cl F0 H0 F (env.set i .no) (σ.set i none) H := by
  have ne : ∀ (j : Nat) (w : Slot), w ≠ .no → (env.set i .no)[j]? = some w → i ≠ j := fun j w hw h z => by
    subst z
    by_cases hl : i < env.length
    · rw [List.getElem?_set_self hl] at h
      exact hw (Option.some.inj h).symm
    · rw [List.getElem?_eq_none (by simp; omega)] at h
      cases h
  have neo : ∀ (j : Nat) (w : D), (env.set i .no)[j]?.bind oL = some w → i ≠ j := fun j w h z => by
    subst z
    by_cases hl : i < env.length
    · rw [List.getElem?_set_self hl] at h
      cases h
    · rw [List.getElem?_eq_none (by simp; omega)] at h
      cases h
  refine ⟨by simp [s.len], s.sub, s.kp, fun j e h => ?_, fun j e h => ?_, fun j e h => ?_, fun j k e g p h1 h2 h3 h4 => ?_⟩
  · have hj := ne j _ (by simp) h
    rw [List.getElem?_set_ne hj] at h
    obtain ⟨v, a, b⟩ := s.val j e h
    exact ⟨v, by rw [List.getElem?_set_ne hj]; exact a, b⟩
  · have hj := neo j _ h
    rw [List.getElem?_set_ne hj] at h
    obtain ⟨p, a, b⟩ := s.own j e h
    exact ⟨p, by rw [List.getElem?_set_ne hj]; exact a, b⟩
  · have hj := ne j _ (by simp) h
    rw [List.getElem?_set_ne hj] at h ⊢
    exact s.lnt j e h
  · have n1 := neo j _ h1
    have n2 := neo k _ h2
    rw [List.getElem?_set_ne n1] at h1 h3
    rw [List.getElem?_set_ne n2] at h2 h4
    exact s.dis j k e g p h1 h2 h3 h4
theorem HSt.wiped {cl : Cl} {F0 : Bs} {H0 F H : Hp} {env : HEnv} {σ : L2.St} (s : HSt cl F0 H0 F env σ H) : ∀ (vs : List Nat), HSt cl F0 H0 F (wipeE env vs) (wipe σ vs) H
  | [] => s
  | v :: vs => HSt.unset (HSt.wiped s vs)
/-- another object, that nothing here speaks of, is written or laid -/
theorem HSt.other {cl : Cl} {F0 : Bs} {H0 F H : Hp} {env : HEnv} {σ : L2.St} (s : HSt cl F0 H0 F env σ H) {p : Addr} {u : HO} (hf : F p = none) (h0 : H0 p = none) (hn : ∀ (j : Nat) (e : D), env[j]?.bind oL = some e → σ[j]? ≠ some (some (.ref p))) : HSt cl F0 H0 F env σ (upd H p u) := by
  refine ⟨s.len, sub_upd s.sub hf, ⟨s.kp.ext, fun b o e => ?_, s.kp.fr⟩, s.val, fun i d h => ?_, s.lnt, s.dis⟩
  · rw [upd_ne (ne_of_none e h0)]
    exact s.kp.same b o e
  · obtain ⟨q, a, b, c, w, hw, o, mu⟩ := s.own i d h
    refine ⟨q, a, b, c, w, ?_, o, mu⟩
    rw [upd_ne (fun z => hn i d h (by rw [a, z]))]
    exact hw
section
variable {X : Cx} {cl : Cl} {W : WX} {pos : Pos}
theorem read_comp {own : List (Str × Nat)} {src : HEnv → R (List D)} {is : List Nat} {g : D → HEnv → R HEnv} {t : HEnv → R Bool} {el : HEnv → R D} (hi : ∀ i ∈ is, i ∈ own.map (·.2)) {σ : L2.St} {H : Hp} {Q : VK}
    (q : tN cl W (mComp (own.map (·.2)) src g t el) σ H Q) : tLc (tK cl W src) (tTg cl is g) (tT cl WNo t) (tF cl WNo el) (own.map (·.2)) σ H Q := by
  unfold mComp at q
  refine bindG (k := fun ds env => match compL g t el (wipeE env (own.map (·.2))) ds with
    | .ok ys => .ok (.lst ys)
    | _ => .stuck) oldN q fun ds J F0 H0 F1 env Hs H1 s it p A hA => ?_
  have sw := s.wiped (own.map (·.2))
  generalize wipeE env (own.map (·.2)) = envw at p sw
  cases ec : compL g t el envw ds with
  | er x => rw [ec] at p; exact p.elim
  | stuck => rw [ec] at p; exact p.elim
  | ok ys =>
    rw [ec] at p
    have zys : ys.length ≤ sizeLine := Nat.le_trans (compL_len ec) it.few
    have wn : ∀ {j : Nat} {e : D}, envw[j]?.bind oL = some e → (wipe σ (own.map (·.2)))[j]? ≠ some (some (.ref A)) := fun {j e} h z => by
      obtain ⟨q, a, _, _, u, hu, _⟩ := sw.own j e h
      rw [a] at z
      cases z
      rw [hA] at hu
      cases hu
    have h0A : H0 A = none := s.kp.same.free hA
    -- what holds ahead of turn i: the list so far, what is still to come
    refine ⟨fun i m H => m = ds.length - i ∧ i ≤ ds.length ∧ ∃ F2 acc vs zs, Kp F1 H1 F2 H ∧ HSt cl F0 H0 F2 envw (wipe σ (own.map (·.2))) H ∧ F2 A = none ∧ H A = some (.lst vs) ∧ RepL cl F2 acc vs ∧ compL g t el envw (ds.drop i) = .ok zs ∧ acc ++ zs = ys,
      ⟨ds.length, by simp, Nat.zero_le _, F1, [], [], ys, kp_new hA, sw.other (sub_none s.sub hA) h0A (fun j e h => wn h), sub_none s.sub hA, upd_same, by simp only [RepL], by simpa using ec, rfl⟩, fun i m H2 ⟨em, hi2, F2, acc, vs, zs, k2, s2, f2, e2, r2, c2, z2⟩ => ?_⟩
    subst em
    by_cases hl : i < ds.length
    · refine .inr ⟨it.go i _ F2 H2 (List.getElem?_eq_getElem hl) k2 s2.sub, fun H' => i + 1 ≤ ds.length ∧ ∃ F2 acc vs zs, Kp F1 H1 F2 H' ∧ HSt cl F0 H0 F2 envw (wipe σ (own.map (·.2))) H' ∧ F2 A = none ∧ H' A = some (.lst vs) ∧ RepL cl F2 acc vs ∧ compL g t el envw (ds.drop (i + 1)) = .ok zs ∧ acc ++ zs = ys,
        fun H' ⟨h1, h2⟩ => ⟨ds.length - (i + 1), by omega, rfl, h1, h2⟩, fun x H' y => ?_⟩
      obtain ⟨F3, k3, s3, r3⟩ := it.yld i _ F2 H2 x H' (List.getElem?_eq_getElem hl) k2 s2.sub y
      refine ⟨F0, H0, F3, envw, _, s2.step k3 s3, r3, ?_⟩
      rw [List.drop_eq_getElem_cons hl] at c2
      simp only [compL] at c2
      cases eg : g ds[i] envw with
      | er x => simp only [eg] at c2; cases c2
      | stuck => simp only [eg] at c2; cases c2
      | ok e1 =>
        simp only [eg] at c2 ⊢
        intro σ4 s4 l4 n4
        refine ⟨wipe_eq (by rw [l4, wipe_length]) hi n4, ?_⟩
        refine ⟨F0, H0, F3, e1, s4, ?_⟩
        cases et : t e1 with
        | er x => simp only [et] at c2; cases c2
        | stuck => simp only [et] at c2; cases c2
        | ok c =>
          simp only [et] at c2
          intro c' F5 H5 k5 s5 ec'
          obtain rfl : c' = c := ec'
          have k25 : Kp F2 H2 F5 H5 := k3.trans k5
          cases c' with
          | false =>
            rw [if_neg (by decide)]
            exact ⟨hl, F5, acc, vs, zs, k2.trans k25, s2.step k25 s5, k25.fr A _ e2 f2, k25.same _ _ e2, r2.ext k25.ext, c2, z2⟩
          | true =>
            rw [if_pos rfl]
            simp only at c2
            refine ⟨F0, H0, F5, e1, s4.step k5 s5, ?_⟩
            cases ee : el e1 with
            | er x => simp only [ee] at c2; cases c2
            | stuck => simp only [ee] at c2; cases c2
            | ok yd =>
              simp only [ee] at c2
              cases er : compL g t el envw (ds.drop (i + 1)) with
              | er x => simp only [er] at c2; cases c2
              | stuck => simp only [er] at c2; cases c2
              | ok zs' =>
                simp only [er] at c2
                cases c2
                intro v F6 H6 k6 s6 r6
                have k26 : Kp F2 H2 F6 H6 := k25.trans k6
                have s26 : HSt cl F0 H0 F6 envw (wipe σ (own.map (·.2))) H6 := s2.step k26 s6
                have f6 : F6 A = none := k26.fr A _ e2 f2
                refine ⟨vs, k26.same _ _ e2, ?_, ?_⟩
                · rw [r2.len]
                  have := congrArg List.length z2
                  simp only [List.length_append, List.length_cons] at this
                  omega
                · refine ⟨hl, F6, acc ++ [yd], vs ++ [v], zs', ⟨(k2.trans k26).ext, fun b o e => ?_, (k2.trans k26).fr⟩, s26.other f6 h0A (fun j e h => wn h), f6, upd_same, (r2.ext k26.ext).app (by simp only [RepL]; exact ⟨v, [], rfl, r6, rfl⟩), rfl, by simp [← z2]⟩
                  rw [upd_ne (ne_of_none e hA)]
                  exact (k2.trans k26).same b o e
    · have e : i = ds.length := by omega
      subst e
      refine .inl ⟨it.stop F2 H2 k2 s2.sub, ?_⟩
      simp only [List.drop_length, compL] at c2
      cases c2
      rw [List.append_nil] at z2
      subst z2
      exact p _ F2 H2 k2 s2.sub ⟨A, rfl, hA, f2, _, e2, ⟨vs, rfl, r2, zys⟩, rfl⟩
/-- [el for target in iter if ..] -/
theorem dn_comp {elt tg iter : Expr} {ifs : List Expr} {scope : Scope} {own : List (Str × Nat)} {src : HEnv → R (List D)} {is : List Nat} {g : D → HEnv → R HEnv} {t : HEnv → R Bool} {el : HEnv → R D} (hc : X.calm = true) (hN : X.N.Nodup) (hi : PI X tg iter (tK cl W src))
    (ok : BlkOk X.N X.env.scope scope own) (hin : ∀ i ∈ is, i ∈ own.map (·.2)) (hg : ∀ (s : Shared) (H : Hp) (C : Addr) (c : List (Str × Addr)) (fp : List Addr), PG (X.blk s H scope (compEnvC scope c C X.env) fp) tg (tTg cl is g))
    (ht : ∀ (s : Shared) (H : Hp) (C : Addr) (c : List (Str × Addr)) (fp : List Addr), PTs (X.blk s H scope (compEnvC scope c C X.env) fp) ifs (tT cl WNo t))
    (he : ∀ (s : Shared) (H : Hp) (C : Addr) (c : List (Str × Addr)) (fp : List Addr), PE (X.blk s H scope (compEnvC scope c C X.env) fp) elt (tF cl WNo el)) (hs : ∀ x, foldedSetIterable iter X.env x = pure x := by intro _; rfl) :
    PE X (.ListComp elt [⟨tg, iter, ifs, 0⟩] scope pos) (tN cl W (mComp (own.map (·.2)) src g t el)) := pe_weak (pe_lc hc hN hi ok hg ht he hs) fun σ H Q q => read_comp hin q
/-- y = [..] -/
theorem ds_setLc {i : Nat} {y : Str} {py : Pos} {elt tg iter : Expr} {ifs : List Expr} {scope : Scope} {own : List (Str × Nat)} {spos : Pos} {src : HEnv → R (List D)} {is : List Nat} {g : D → HEnv → R HEnv} {t : HEnv → R Bool} {el : HEnv → R D} (hc : X.calm = true) (hN : X.N.Nodup)
    (hy : X.N[i]? = some y) (hyl : X.env.scope.names.lookup y = some .local) (hsw : swapsWith (.ListComp elt [⟨tg, iter, ifs, 0⟩] scope pos) (some (.Name y py)) spos.line X.env = pure true) (hi : PI X tg iter (tK cl W src))
    (ok : BlkOk X.N X.env.scope scope own) (hin : ∀ i ∈ is, i ∈ own.map (·.2)) (hg : ∀ (s : Shared) (H : Hp) (C : Addr) (c : List (Str × Addr)) (fp : List Addr), PG (X.blk s H scope (compEnvC scope c C X.env) fp) tg (tTg cl is g))
    (ht : ∀ (s : Shared) (H : Hp) (C : Addr) (c : List (Str × Addr)) (fp : List Addr), PTs (X.blk s H scope (compEnvC scope c C X.env) fp) ifs (tT cl WNo t))
    (he : ∀ (s : Shared) (H : Hp) (C : Addr) (c : List (Str × Addr)) (fp : List Addr), PE (X.blk s H scope (compEnvC scope c C X.env) fp) elt (tF cl WNo el)) (hs : ∀ x, foldedSetIterable iter X.env x = pure x := by intro _; rfl) :
    PS X (.Assign [.Name y py] (.ListComp elt [⟨tg, iter, ifs, 0⟩] scope pos) spos) (tS cl W (mSetN i (mComp (own.map (·.2)) src g t el))) := by
  refine ps_weak (ps_setLc hc hN hy hyl hsw hi ok hg ht he hs) fun Dn σ H q => ?_
  exact read_comp (Q := fun x H1 => gName i x σ H1 Dn.nx) hin (read_setN q)
theorem ds_setLcF {i : Nat} {y : Str} {py : Pos} {elt tg iter : Expr} {ifs : List Expr} {scope : Scope} {own : List (Str × Nat)} {spos : Pos} {src : HEnv → R (List D)} {is : List Nat} {g : D → HEnv → R HEnv} {t : HEnv → R Bool} {el : HEnv → R D} (hc : X.calm = true) (hN : X.N.Nodup)
    (hy : X.N[i]? = some y) (hyl : X.env.scope.names.lookup y = some .local) (hsw : swapsWith (.ListComp elt [⟨tg, iter, ifs, 0⟩] scope pos) (some (.Name y py)) spos.line X.env = pure true) (hi : PI X tg iter (tK cl W src))
    (ok : BlkOk X.N X.env.scope scope own) (hin : ∀ i ∈ is, i ∈ own.map (·.2)) (hg : ∀ (s : Shared) (H : Hp) (C : Addr) (c : List (Str × Addr)) (fp : List Addr), PG (X.blk s H scope (compEnvC scope c C X.env) fp) tg (tTg cl is g))
    (ht : ∀ (s : Shared) (H : Hp) (C : Addr) (c : List (Str × Addr)) (fp : List Addr), PTs (X.blk s H scope (compEnvC scope c C X.env) fp) ifs (tT cl WNo t))
    (he : ∀ (s : Shared) (H : Hp) (C : Addr) (c : List (Str × Addr)) (fp : List Addr), PE (X.blk s H scope (compEnvC scope c C X.env) fp) elt (tF cl WNo el)) (hs : ∀ x, foldedSetIterable iter X.env x = pure x := by intro _; rfl) :
    PS X (.Assign [.Name y py] (.ListComp elt [⟨tg, iter, ifs, 0⟩] scope pos) spos) (tS cl W (mSet i (mComp (own.map (·.2)) src g t el))) := by
  refine ps_weak (ps_setLc hc hN hy hyl hsw hi ok hg ht he hs) fun Dn σ H q => ?_
  exact read_comp (Q := fun x H1 => gName i x σ H1 Dn.nx) hin (nf_read (read_set q))
theorem dt_nil : PTs X [] (tT cl W mYes) := ⟨fun pins s σ H Q I ⟨F0, H0, F, env, st, q⟩ => pts_nil.run pins s σ H Q I (PostG.done (rel := relT) (v := true) q st.sub rfl)⟩
end

/-! ### defs -/
def RetP (cl : Cl) (H : Hp) : Rel (Bool × D) V := fun Hs F H' r v => RetR cl Hs F H' r.1 r.2 v
/-- the promise: what the plain function says of the arguments' data -/
def spD (cl : Cl) (n : Nat) (f : List D → R (Bool × D)) : Sp := fun vs H Q E => vs.length = n ∧ ∃ F ds, Sub F H ∧ RepL cl F ds vs ∧ match f ds with
  | .ok r => ∀ v F' H', Kp F H F' H' → Sub F' H' → RetR cl H F' H' r.1 r.2 v → Q v H'
  | .er e => ∀ cls dd F' H', Kp F H F' H' → Sub F' H' → ERep cl H' e cls dd → E cls dd H'
  | .stuck => False
/-- a def's meaning by its body's: n slots, the parameters first -/
def fnS (n : Nat) (body : HEnv → SO) (ds : List D) : R (Bool × D) := match body (ds.map Slot.val ++ List.replicate (n - ds.length) Slot.no) with
  | .nx _ => .ok (false, .non)
  | .rt o d => .ok (o, d)
  | .er x _ => .er x
  | _ => .stuck
section
variable {P : Program} {w : World} {K : PySem.W.Frag} {mg : Str → Option Value} {base : Heap} {cl : Cl}
theorem RepL.vals {F : Hp} : ∀ {ds : List D} {vs : List V} (i : Nat) (d : D), RepL cl F ds vs → (ds.map Slot.val)[i]? = some (Slot.val d) → ∃ v, vs[i]? = some v ∧ Rep cl F d v := fun {ds vs} i d h e => by
  rw [List.getElem?_map] at e
  cases q : ds[i]? with
  | none => rw [q] at e; cases e
  | some c =>
    rw [q] at e
    cases e
    exact h.at q
theorem start_get {N : List Str} {vs : List V} {i : Nat} {v : V} (h : vs[i]? = some v) (hl : vs.length ≤ N.length) : (L2.start N vs)[i]? = some (some v) := by
  unfold L2.start
  have hi := (List.getElem?_eq_some_iff.mp h).1
  rw [List.getElem?_append_left (by simp; exact hi), List.getElem?_map, h]
  rfl
theorem no_own {ds : List D} {n i : Nat} {d : D} (e : (ds.map Slot.val ++ List.replicate n Slot.no)[i]?.bind oL = some d) : False := by
  by_cases hi : i < ds.length
  · rw [List.getElem?_append_left (by simp; exact hi), List.getElem?_map] at e
    cases q : ds[i]? with
    | none => rw [q] at e; cases e
    | some c => rw [q] at e; cases e
  · rw [List.getElem?_append_right (by simp; omega), List.getElem?_replicate] at e
    split at e <;> cases e
/-- THE RULE for a def of the text -/
theorem fnD {x qual : Str} {st : Stmt} {f : Addr} {fd : FuncData} {N ps : List Str} {k : Nat} {body : HEnv → SO} (F : Fun K x qual st f fd) (S : FnScope N ps (defScope st)) (hn : ps.length ≤ N.length)
    (hb : ∀ (cdv : Value) (A : Around) (outer : List PySem.Env) (s : Shared) (H : Hp) (E : XK), Room k (A.deeper (envOfC qual (defScope st) s.heap.objs.size f cdv)) →
      PSs (cxOf (L2.CX P w) P w K mg base N qual (defScope st) f cdv A outer s H E) (defBody st) (tS cl (fun cls d _ H => E cls d H) body)) :
    FnOk P w K mg base (L2.CX P w) (k + 1) f fd ps (spD cl ps.length (fnS N.length body)) := by
  refine F.okX S (fun vs H Q E h => h.1) fun cdv A outer s H vs Q E hr ⟨hl, F, ds, hs, r, q⟩ => ⟨_, hb cdv A outer s H E hr, ?_⟩
  have dl : ds.length = ps.length := by rw [← r.len]; exact hl
  refine ⟨(F, fun _ => none), H, F, ds.map Slot.val ++ List.replicate (N.length - ds.length) Slot.no, ⟨?_, hs, Kp.refl F H, fun i d e => ?_, fun i d e => ?_, fun i d e => ?_, fun i j d e p h1 => ?_⟩, ?_⟩
  · show (L2.start N vs).length = _
    unfold L2.start
    simp only [List.length_append, List.length_map, List.length_replicate]
    rw [r.len]
  · by_cases hi : i < ds.length
    · rw [List.getElem?_append_left (by simp; exact hi)] at e
      obtain ⟨v, a, b⟩ := RepL.vals i d r e
      exact ⟨v, start_get a (by rw [hl]; exact hn), b⟩
    · rw [List.getElem?_append_right (by simp; omega)] at e
      rw [List.getElem?_replicate] at e
      split at e <;> cases e
  · exact (no_own e).elim
  · exact (no_own (oL_lent e)).elim
  · exact (no_own h1).elim
  · unfold fnS at q
    cases eb : body (ds.map Slot.val ++ List.replicate (N.length - ds.length) Slot.no) with
    | nx e =>
      simp only [eb] at q
      exact fun σ F' H' _ s' => q .non F' H' s'.kp s'.sub (by unfold RetR; rw [if_neg (by decide)]; simp only [Rep])
    | rt o d =>
      simp only [eb] at q
      exact q
    | er y e =>
      simp only [eb] at q
      exact fun cls dd σ F' H' _ s' r' => q cls dd F' H' s'.kp s'.sub r'
    | bk e => simp only [eb] at q
    | ct e => simp only [eb] at q
    | stuck => simp only [eb] at q
end
end HL

namespace HL
open PySem PySem.Spec PyProof.Rows L2

/-! ### two-place operations on data -/
section
variable {X : Cx} {cl : Cl} {W : WX} {a b : Expr} {pos : Pos} {ma mb : HEnv → R D}
def Op2 (cl : Cl) (rel : Rel D V) (f : D → D → R D) (r : R2) : Prop := ∀ (W : WX) (F H : Hp) (d e : D) (v u : V) (Q : VK) (σ : L2.St), Sub F H → BRep cl F H d v → BRep cl F H e u → PostG cl rel W (f d e) F σ H Q → r v u H Q
theorem d_bin {op : Operator} {r : R2} {f : D → D → R D} (ho : OpR X (binaryOp op) r) (hf : Op2 cl (relF cl) f r) (ha : PE X a (tB cl W ma)) (hb : PE X b (tB cl W mb)) : PE X (.BinOp a op b pos) (tF cl W (m2 f ma mb)) :=
  pe_weak (pe_op ho ha hb) fun σ H Q q => read2 oldF carB (fun Hs F H d v e u Q σ s r1 r2 p => hf W F H d e v u Q σ s r1 r2 p) q
theorem dn_bin {op : Operator} {r : R2} {f : D → D → R D} (ho : OpR X (binaryOp op) r) (hf : Op2 cl (relN cl) f r) (ha : PE X a (tB cl W ma)) (hb : PE X b (tB cl W mb)) : PE X (.BinOp a op b pos) (tN cl W (m2 f ma mb)) :=
  pe_weak (pe_op ho ha hb) fun σ H Q q => read2 oldN carB (fun Hs F H d v e u Q σ s r1 r2 p => hf W F H d e v u Q σ s r1 r2 p) q
theorem d_cmp {op : CmpOp} {r : R2} {f : D → D → R D} (ho : OpR X (compareOp op) r) (hf : Op2 cl (relF cl) f r) (ha : PE X a (tB cl W ma)) (hb : PE X b (tB cl W mb)) (hm : behindInMarks op b = false := by first | exact nomark _ | rfl) : PE X (.Compare a [op] [b] pos) (tF cl W (m2 f ma mb)) :=
  pe_weak (pe_cmpR ho ha hb hm) fun σ H Q q => read2 oldF carB (fun Hs F H d v e u Q σ s r1 r2 p => hf W F H d e v u Q σ s r1 r2 p) q
/-- a bool as a test -/
def truB : D → R Bool
  | .bl b => .ok b
  | _ => .stuck
theorem dt_val {e : Expr} {m : HEnv → R D} (h : PE X e (tF cl W m)) (he : ∀ whole, isTrue e X.env whole = (do let v ← whole; standAt e.pos; holding [v] (truthy v)) := by intro _; rfl) : PT X e (tT cl W (m1 truB m)) := by
  refine pt_weak (pt_val h he) fun σ H Q q => ?_
  refine read1 (r := fun x H1 Q => ∃ c, x = V.bl c ∧ Q c H1) oldT (fun Hs F H d v Q σ s r p => ?_) q
  cases d with
  | bl b => exact ⟨b, RepIn.bl r, PostG.done p s rfl⟩
  | _ => exact p.elim
theorem dt_cmp {op : CmpOp} {r : R2} {f : D → D → R D} (ho : OpR X (compareOp op) r) (hf : Op2 cl (relF cl) f r) (ha : PE X a (tB cl W ma)) (hb : PE X b (tB cl W mb)) (hm : behindInMarks op b = false := by first | exact nomark _ | rfl) : PT X (.Compare a [op] [b] pos) (tT cl W (m1 truB (m2 f ma mb))) := by
  refine pt_weak (pt_cmpR ho ha hb hm) fun σ H Q q => ?_
  have h2 : tF cl W (m2 f ma mb) σ H (fun x H1 => ∃ c, x = V.bl c ∧ Q c H1) := read1 (r := fun x H1 Q => ∃ c, x = V.bl c ∧ Q c H1) oldT (fun Hs F H d v Q σ s r p => by
    cases d with
    | bl b => exact ⟨b, RepIn.bl r, PostG.done p s rfl⟩
    | _ => exact p.elim) q
  exact read2 oldF carB (fun Hs F H d v e u Q σ s r1 r2 p => hf W F H d e v u Q σ s r1 r2 p) h2
end
section
variable {cl : Cl}
theorem BRep.int {F H : Hp} {i : Int} {v : V} (h : BRep cl F H (.int i) v) : v = .int i := RepIn.int (h.atom (F' := F) rfl)
theorem BRep.str {F H : Hp} {i : Str} {v : V} (h : BRep cl F H (.str i) v) : v = .str i := RepIn.str (h.atom (F' := F) rfl)
theorem BRep.bl {F H : Hp} {i : Bool} {v : V} (h : BRep cl F H (.bl i) v) : v = .bl i := RepIn.bl (h.atom (F' := F) rfl)
theorem BRep.non {F H : Hp} {v : V} (h : BRep cl F H .non v) : v = .non := RepIn.non (h.atom (F' := F) rfl)
theorem BRep.lst' {F H : Hp} {xs : List D} {v : V} (h : BRep cl F H (.lst xs) v) (hs : Sub F H) : ∃ p vs, v = .ref p ∧ Rd H p (.lst vs) ∧ RepL cl F xs vs ∧ xs.length ≤ sizeLine := by
  obtain ⟨p, vs, a, b, c, d, _⟩ := BRep.lst hs h
  exact ⟨p, vs, a, b, c, d⟩
theorem BRep.tup' {F H : Hp} {xs : List D} {v : V} (h : BRep cl F H (.tup xs) v) (hs : Sub F H) : ∃ p vs, v = .ref p ∧ Rd H p (.tup vs) ∧ RepL cl F xs vs ∧ xs.length ≤ sizeLine := by
  obtain ⟨p, u, a, b, vs, rfl, c, d⟩ := h.obj hs rfl
  exact ⟨p, vs, a, b, c, d⟩
/-! ### + - * % // ** -/
theorem op_catR {X : Cx} : OpR X (binaryOp .Add) (fun x y H Q => ∃ l b xs zs, x = .ref l ∧ y = .ref b ∧ Rd H l (.lst xs) ∧ Rd H b (.lst zs) ∧ xs.length + zs.length ≤ sizeLine ∧ ∀ p, H p = none → Q (.ref p) (upd H p (.lst (xs ++ zs)))) := by
  intro pins s σ H x y v u Q I rx ry h
  obtain ⟨l, b, xs, zs, rfl, rfl, hH, hB, hz, q⟩ := h
  cases rx
  cases ry
  obtain ⟨z, its, n, r, e⟩ := hH.ok I.hok
  obtain ⟨z2, its2, n2, r2, e2⟩ := hB.ok I.hok
  refine PySem.P.add_list e e2 ?_ (by rw [List.size_toArray, List.size_toArray, ← r.length, ← r2.length]; exact hz)
  have ea : its.toArray ++ its2.toArray = (its ++ its2).toArray := by simp
  rw [ea]
  exact ⟨.ref _, _, I.lnew (t' := s.toks) (r.append r2) (by rw [List.length_append]; omega), rfl, q _ I.fresh⟩
theorem OpR.or {X : Cx} {f : Value → Value → Sem Value} {r r' : R2} (h : OpR X f r) (h' : OpR X f r') : OpR X f (fun x y H Q => r x y H Q ∨ r' x y H Q) := fun pins s σ H x y v u Q I rx ry q => q.elim (h pins s σ H x y v u Q I rx ry) (h' pins s σ H x y v u Q I rx ry)
def addD : D → D → R D
  | .int i, .int j => .ok (.int (i + j))
  | .str x, .str y => if x.length + y.length ≤ sizeLine then .ok (.str (x ++ y)) else .stuck
  | .lst xs, .lst ys => if xs.length + ys.length ≤ sizeLine then .ok (.lst (xs ++ ys)) else .stuck
  | .tup xs, .tup ys => if xs.length + ys.length ≤ sizeLine then .ok (.tup (xs ++ ys)) else .stuck
  | _, _ => .stuck
def catD : D → D → R D
  | .lst xs, .lst ys => if xs.length + ys.length ≤ sizeLine then .ok (.lst (xs ++ ys)) else .stuck
  | _, _ => .stuck
theorem rep_nil {F : Hp} {xs : List D} {vs : List V} (r : RepL cl F xs vs) : vs = [] ↔ xs = [] := by
  have := r.len
  constructor
  · rintro rfl
    exact List.length_eq_zero_iff.mp this.symm
  · rintro rfl
    exact List.length_eq_zero_iff.mp this
def rCatR : R2 := fun x y H Q => ∃ l b xs zs, x = .ref l ∧ y = .ref b ∧ Rd H l (.lst xs) ∧ Rd H b (.lst zs) ∧ xs.length + zs.length ≤ sizeLine ∧ ∀ p, H p = none → Q (.ref p) (upd H p (.lst (xs ++ zs)))
def rAddS : R2 := fun x y H Q => ∃ i j, x = V.str i ∧ y = V.str j ∧ i.length + j.length ≤ sizeLine ∧ Q (V.str (i ++ j)) H
def rAddD (K : PySem.W.Frag) : R2 := fun x y H Q => ((rI0 fun i j => V.int (i + j)) x y H Q ∨ rAddS x y H Q) ∨ (rCatR x y H Q ∨ rCatA K x y H Q)
theorem op_addD {X : Cx} : OpR X (binaryOp .Add) (rAddD X.K) := (op_add.or op_add_str).or (op_catR.or op_catA)
theorem add_2 {K : PySem.W.Frag} : Op2 cl (relF cl) addD (rAddD K) := by
  intro W F H d e v u Q σ s r1 r2 p
  unfold addD at p
  split at p
  · exact .inl (.inl ⟨_, _, r1.int, r2.int, PostG.done p s (by simp only [relF, Rep])⟩)
  · split at p
    · exact .inl (.inr ⟨_, _, r1.str, r2.str, by assumption, PostG.done p s (by simp only [relF, Rep])⟩)
    · exact p.elim
  · rename_i xs ys
    split at p
    · rename_i hz
      obtain ⟨a, vs, rfl, h1, l1, z1⟩ := r1.lst' s
      obtain ⟨b, us, rfl, h2, l2, z2⟩ := r2.lst' s
      exact .inr (.inl ⟨a, b, vs, us, rfl, rfl, h1, h2, by rw [l1.len, l2.len]; exact hz, fun q hq => PostG.newF p s hq ⟨_, rfl, l1.app l2, by rw [List.length_append]; exact hz⟩⟩)
    · exact p.elim
  · rename_i xs ys
    split at p
    · rename_i hz
      obtain ⟨a, vs, rfl, h1, l1, z1⟩ := r1.tup' s
      obtain ⟨b, us, rfl, h2, l2, z2⟩ := r2.tup' s
      have tupF : ∀ {xs : List D} {v : V}, BRep cl F H (.tup xs) v → Rep cl F (.tup xs) v := fun r => r.elim id fun ⟨_, _, _, _, _, _, mu⟩ => by cases mu
      refine .inr (.inr ⟨a, b, vs, us, rfl, rfl, .inl h1, .inl h2, by rw [l1.len, l2.len]; exact hz, fun e => ?_, fun _ e => ?_, fun _ _ q hq => PostG.newF p s hq ⟨_, rfl, l1.app l2, by rw [List.length_append]; exact hz⟩⟩)
      · rw [(rep_nil l1).mp e, List.nil_append] at p
        exact PostG.done p s (tupF r2)
      · rw [(rep_nil l2).mp e, List.append_nil] at p
        exact PostG.done p s (tupF r1)
    · exact p.elim
  · exact p.elim
theorem cat_2 : Op2 cl (relN cl) catD rCatR := by
  intro W F H d e v u Q σ s r1 r2 p
  unfold catD at p
  split at p
  · split at p
    · rename_i hz
      obtain ⟨a, vs, rfl, h1, l1, z1⟩ := r1.lst' s
      obtain ⟨b, us, rfl, h2, l2, z2⟩ := r2.lst' s
      exact ⟨a, b, vs, us, rfl, rfl, h1, h2, by rw [l1.len, l2.len]; exact hz, fun q hq => PostG.new p s hq ⟨_, rfl, l1.app l2, by rw [List.length_append]; exact hz⟩⟩
    · exact p.elim
  · exact p.elim
def subD : D → D → R D
  | .int i, .int j => .ok (.int (i - j))
  | _, _ => .stuck
theorem sub_2 : Op2 cl (relF cl) subD (rI0 fun i j => V.int (i - j)) := by
  intro W F H d e v u Q σ s r1 r2 p
  unfold subD at p
  split at p
  · exact ⟨_, _, r1.int, r2.int, PostG.done p s (by simp only [relF, Rep])⟩
  · exact p.elim
def mulD : D → D → R D
  | .int i, .int j => if -(2 ^ 64) < i ∧ i < 2 ^ 64 then .ok (.int (i * j)) else .stuck
  | _, _ => .stuck
theorem mul_2 : Op2 cl (relF cl) mulD (rI CMul fun i j => V.int (i * j)) := by
  intro W F H d e v u Q σ s r1 r2 p
  unfold mulD at p
  split at p
  · split at p
    · rename_i h
      exact ⟨_, _, r1.int, r2.int, .inl h, PostG.done p s (by simp only [relF, Rep])⟩
    · exact p.elim
  · exact p.elim
def modD : D → D → R D
  | .int i, .int j => if 0 < j then .ok (.int (i % j)) else .stuck
  | _, _ => .stuck
theorem mod_2 : Op2 cl (relF cl) modD (rI (fun _ j => 0 < j) fun i j => V.int (i % j)) := by
  intro W F H d e v u Q σ s r1 r2 p
  unfold modD at p
  split at p
  · split at p
    · rename_i h
      exact ⟨_, _, r1.int, r2.int, h, PostG.done p s (by simp only [relF, Rep])⟩
    · exact p.elim
  · exact p.elim
def divD : D → D → R D
  | .int i, .int j => if 0 < j ∧ j < 1073741824 then .ok (.int (i / j)) else .stuck
  | _, _ => .stuck
theorem div_2 : Op2 cl (relF cl) divD (rI CDiv fun i j => V.int (i / j)) := by
  intro W F H d e v u Q σ s r1 r2 p
  unfold divD at p
  split at p
  · split at p
    · rename_i h
      exact ⟨_, _, r1.int, r2.int, h, PostG.done p s (by simp only [relF, Rep])⟩
    · exact p.elim
  · exact p.elim
def powD : D → D → R D
  | .int i, .int j => if 0 ≤ j ∧ j ≤ 1000000 ∧ i.natAbs < 2 ^ 64 then .ok (.int (i ^ j.toNat)) else .stuck
  | _, _ => .stuck
theorem pow_2 : Op2 cl (relF cl) powD (rI CPow fun i j => V.int (i ^ j.toNat)) := by
  intro W F H d e v u Q σ s r1 r2 p
  unfold powD at p
  split at p
  · split at p
    · rename_i h
      exact ⟨_, _, r1.int, r2.int, h, PostG.done p s (by simp only [relF, Rep])⟩
    · exact p.elim
  · exact p.elim

/-! ### == of data -/
mutual
def deq : D → D → Bool
  | .non, .non => true
  | .bl a, .bl b => a == b
  | .bl a, .int j => (if a then 1 else 0) == j
  | .int i, .bl b => i == (if b then 1 else 0)
  | .int i, .int j => i == j
  | .str x, .str y => x == y
  | .lst xs, .lst ys => deqL xs ys
  | .tup xs, .tup ys => deqL xs ys
  | _, _ => false
def deqL : List D → List D → Bool
  | [], [] => true
  | x :: xs, y :: ys => deq x y && deqL xs ys
  | _, _ => false
end
mutual
/-- no dicts, no instances; at most n deep -/
def simp? : Nat → D → Bool
  | _, .non => true
  | _, .bl _ => true
  | _, .int _ => true
  | _, .str _ => true
  | 0, _ => false
  | n + 1, .lst xs => simpL? n xs
  | n + 1, .tup xs => simpL? n xs
  | _, _ => false
def simpL? : Nat → List D → Bool
  | _, [] => true
  | n, x :: xs => simp? n x && simpL? n xs
end
mutual
theorem Rep.inj {F : Hp} : ∀ {d e : D} {v : V} {n m : Nat}, simp? n d = true → simp? m e = true → Rep cl F d v → Rep cl F e v → d = e
  | .non, e, v, n, m, h1, h2, r1, r2 => by
    cases RepIn.non r1
    cases e <;> simp only [Rep] at r2 <;> first | rfl | (cases r2; done) | (obtain ⟨_, _, _, _, z, _⟩ := r2; cases z; done) | (obtain ⟨_, _, z, _⟩ := r2; cases z; done) | (cases m <;> simp [simp?] at h2)
  | .bl b, e, v, n, m, h1, h2, r1, r2 => by
    cases RepIn.bl r1
    cases e <;> simp only [Rep] at r2 <;> first | (cases r2; first | done | rfl) | (obtain ⟨_, _, _, _, z, _⟩ := r2; cases z; done) | (obtain ⟨_, _, z, _⟩ := r2; cases z; done) | (cases m <;> simp [simp?] at h2)
  | .int b, e, v, n, m, h1, h2, r1, r2 => by
    cases RepIn.int r1
    cases e <;> simp only [Rep] at r2 <;> first | (cases r2; first | done | rfl) | (obtain ⟨_, _, _, _, z, _⟩ := r2; cases z; done) | (obtain ⟨_, _, z, _⟩ := r2; cases z; done) | (cases m <;> simp [simp?] at h2)
  | .str b, e, v, n, m, h1, h2, r1, r2 => by
    cases RepIn.str r1
    cases e <;> simp only [Rep] at r2 <;> first | (cases r2; first | done | rfl) | (obtain ⟨_, _, _, _, z, _⟩ := r2; cases z; done) | (obtain ⟨_, _, z, _⟩ := r2; cases z; done) | (cases m <;> simp [simp?] at h2)
  | .tup xs, e, v, n, m, h1, h2, r1, r2 => by
    obtain ⟨p, vs, rfl, hp, rl, _⟩ := RepIn.tup r1
    cases n with
    | zero => simp [simp?] at h1
    | succ n =>
      cases m with
      | zero => cases e <;> simp [simp?, Rep] at h2 r2
      | succ m =>
        cases e with
        | tup ys =>
          obtain ⟨q, us, e1, hq, rl2, _⟩ := RepIn.tup r2
          cases e1
          rw [hp] at hq
          cases hq
          simp only [simp?] at h1 h2
          rw [RepL.inj h1 h2 rl rl2]
        | lst ys =>
          obtain ⟨q, us, e1, hq, rl2, _⟩ := RepIn.lst r2
          cases e1
          rw [hp] at hq
          cases hq
        | _ => simp [simp?, Rep] at h2 r2
  | .lst xs, e, v, n, m, h1, h2, r1, r2 => by
    obtain ⟨p, vs, rfl, hp, rl, _⟩ := RepIn.lst r1
    cases n with
    | zero => simp [simp?] at h1
    | succ n =>
      cases m with
      | zero => cases e <;> simp [simp?, Rep] at h2 r2
      | succ m =>
        cases e with
        | lst ys =>
          obtain ⟨q, us, e1, hq, rl2, _⟩ := RepIn.lst r2
          cases e1
          rw [hp] at hq
          cases hq
          simp only [simp?] at h1 h2
          rw [RepL.inj h1 h2 rl rl2]
        | tup ys =>
          obtain ⟨q, us, e1, hq, rl2, _⟩ := RepIn.tup r2
          cases e1
          rw [hp] at hq
          cases hq
        | _ => simp [simp?, Rep] at h2 r2
  | .dic t ks, e, v, n, m, h1, h2, r1, r2 => by cases n <;> simp [simp?] at h1
  | .ins c ks, e, v, n, m, h1, h2, r1, r2 => by cases n <;> simp [simp?] at h1
theorem RepL.inj {F : Hp} : ∀ {ds es : List D} {vs : List V} {n m : Nat}, simpL? n ds = true → simpL? m es = true → RepL cl F ds vs → RepL cl F es vs → ds = es
  | [], es, vs, n, m, h1, h2, r1, r2 => by
    simp only [RepL] at r1
    subst r1
    cases es with
    | nil => rfl
    | cons y ys => simp only [RepL] at r2; obtain ⟨_, _, z, _⟩ := r2; cases z
  | d :: ds, es, vs, n, m, h1, h2, r1, r2 => by
    simp only [RepL] at r1
    obtain ⟨v, r, rfl, a, b⟩ := r1
    cases es with
    | nil => simp only [RepL] at r2; cases r2
    | cons y ys =>
      simp only [RepL] at r2
      obtain ⟨v', r', z, a', b'⟩ := r2
      cases z
      simp only [simpL?, Bool.and_eq_true] at h1 h2
      rw [Rep.inj h1.1 h2.1 a a', RepL.inj h1.2 h2.2 b b']
end
theorem deqL_eq : ∀ {ds es : List D}, deqL ds es = ((List.range (min ds.length es.length)).all (fun j => deq (ds.getD j .non) (es.getD j .non)) && ds.length == es.length)
  | [], [] => rfl
  | [], y :: ys => by simp [deqL]
  | x :: xs, [] => by simp [deqL]
  | x :: xs, y :: ys => by
    simp only [deqL, deqL_eq (ds := xs) (es := ys), List.length_cons]
    rw [show min (xs.length + 1) (ys.length + 1) = min xs.length ys.length + 1 by omega, List.range_succ_eq_map, List.all_cons, List.all_map]
    simp only [List.getD_cons_zero, Function.comp_def, List.getD_cons_succ]
    rw [Bool.and_assoc]
    congr 1
    simp
theorem simpL_at {n : Nat} : ∀ {ds : List D} {j : Nat} {d : D}, simpL? n ds = true → ds[j]? = some d → simp? n d = true
  | x :: xs, 0, d, h, e => by
    simp only [simpL?, Bool.and_eq_true] at h
    cases e
    exact h.1
  | x :: xs, j + 1, d, h, e => by
    simp only [simpL?, Bool.and_eq_true] at h
    exact simpL_at h.2 (by simpa using e)
section
variable {X : Cx} {pins : List (Addr × Obj)} {σ : L2.St} {H F : Hp} {s : Shared}
theorem BRep.rep {d : D} {v : V} (h : Rep cl F d v) : BRep cl F H d v := .inl h
theorem brep_inj {d e : D} {v : V} {n m : Nat} (h1 : simp? n d = true) (h2 : simp? m e = true) (r1 : BRep cl F H d v) (r2 : BRep cl F H e v) : d = e := by
  rcases r1 with r1 | ⟨p, rfl, f1, u, hu, o1, mu1⟩
  · rcases r2 with r2 | ⟨p, rfl, f2, u, hu, o2, mu2⟩
    · exact Rep.inj h1 h2 r1 r2
    · exfalso
      have : atomD d = false := by cases d <;> first | rfl | (simp [Rep] at r1)
      obtain ⟨q, w, e1, hw, _⟩ := r1.obj this
      cases e1
      rw [f2] at hw
      cases hw
  · rcases r2 with r2 | ⟨q, e1, f2, w, hw, o2, mu2⟩
    · exfalso
      have : atomD e = false := by cases e <;> first | rfl | (simp [Rep] at r2)
      obtain ⟨q, w, e1, hw, _⟩ := r2.obj this
      cases e1
      rw [f1] at hw
      cases hw
    · cases e1
      rw [hu] at hw
      cases hw
      cases d with
      | lst xs =>
        obtain ⟨vs, rfl, rl, z⟩ := o1
        cases e with
        | lst ys =>
          obtain ⟨us, e3, rl2, z2⟩ := o2
          cases e3
          cases n with
          | zero => simp [simp?] at h1
          | succ n =>
            cases m with
            | zero => simp [simp?] at h2
            | succ m =>
              simp only [simp?] at h1 h2
              rw [RepL.inj h1 h2 rl rl2]
        | tup ys => cases mu2
        | dic t ks => cases m <;> simp [simp?] at h2
        | ins c fs => cases m <;> simp [simp?] at h2
        | _ => exact o2.elim
      | tup xs => cases mu1
      | dic t ks => cases n <;> simp [simp?] at h1
      | ins c fs => cases n <;> simp [simp?] at h1
      | _ => exact o1.elim
mutual
theorem deq_refl : ∀ (d : D) {n : Nat}, simp? n d = true → deq d d = true
  | .non, n, h => rfl
  | .bl b, n, h => by simp [deq]
  | .int b, n, h => by simp [deq]
  | .str b, n, h => by simp [deq]
  | .lst xs, n + 1, h => by simp only [deq]; exact deqL_refl xs (by simpa only [simp?] using h)
  | .tup xs, n + 1, h => by simp only [deq]; exact deqL_refl xs (by simpa only [simp?] using h)
  | .lst xs, 0, h => by simp [simp?] at h
  | .tup xs, 0, h => by simp [simp?] at h
  | .dic t ks, n, h => by cases n <;> simp [simp?] at h
  | .ins c fs, n, h => by cases n <;> simp [simp?] at h
theorem deqL_refl : ∀ (ds : List D) {n : Nat}, simpL? n ds = true → deqL ds ds = true
  | [], n, h => rfl
  | d :: ds, n, h => by
    simp only [simpL?, Bool.and_eq_true] at h
    simp only [deqL, deq_refl d h.1, deqL_refl ds h.2, Bool.and_self]
end
theorem vals_at {vs : List V} {us : List Value} (r : Vals vs us) {j : Nat} {v : V} {u : Value} (h1 : vs[j]? = some v) (h2 : us[j]? = some u) : RelV v u := by
  obtain ⟨w, a, b⟩ := r.get h1
  rw [h2] at a
  cases a
  exact b
theorem rc_atom {A : Around} {d e : D} {v u : V} {a b : Value} (h1 : simp? 0 d = true) (h2 : simp? 0 e = true) (r1 : BRep cl F H d v) (r2 : BRep cl F H e u) (q1 : RelV v a) (q2 : RelV u b) : SeqAt.RcAt A s a b (deq d e) := by
    cases d with
    | lst xs => simp [simp?] at h1
    | tup xs => simp [simp?] at h1
    | dic t ks => simp [simp?] at h1
    | ins c fs => simp [simp?] at h1
    | non =>
      cases r1.non
      cases q1
      cases e with
      | non => cases r2.non; cases q2; exact SeqAt.RcAt.none_none
      | bl y => cases r2.bl; cases q2; exact SeqAt.RcAt.none_bool y
      | int y => cases r2.int; obtain ⟨t, rfl⟩ := q2; exact SeqAt.RcAt.none_int y t
      | str y => cases r2.str; obtain ⟨t, rfl⟩ := q2; exact SeqAt.RcAt.none_str y t
      | _ => simp [simp?] at h2
    | bl x =>
      cases r1.bl
      cases q1
      cases e with
      | non => cases r2.non; cases q2; exact SeqAt.RcAt.bool_none x
      | bl y => cases r2.bl; cases q2; exact SeqAt.RcAt.bool_bool x y
      | int y => cases r2.int; obtain ⟨t, rfl⟩ := q2; exact SeqAt.RcAt.bool_int x y t
      | str y => cases r2.str; obtain ⟨t, rfl⟩ := q2; exact SeqAt.RcAt.bool_str x y t
      | _ => simp [simp?] at h2
    | int x =>
      cases r1.int
      obtain ⟨t0, rfl⟩ := q1
      cases e with
      | non => cases r2.non; cases q2; exact SeqAt.RcAt.int_none x t0
      | bl y => cases r2.bl; cases q2; exact SeqAt.RcAt.int_bool x t0 y
      | int y => cases r2.int; obtain ⟨t, rfl⟩ := q2; exact SeqAt.RcAt.int_int x t0 y t
      | str y => cases r2.str; obtain ⟨t, rfl⟩ := q2; exact SeqAt.RcAt.int_str x t0 y t
      | _ => simp [simp?] at h2
    | str x =>
      cases r1.str
      obtain ⟨t0, rfl⟩ := q1
      cases e with
      | non => cases r2.non; cases q2; exact SeqAt.RcAt.str_none x t0
      | bl y => cases r2.bl; cases q2; exact SeqAt.RcAt.str_bool x t0 y
      | int y => cases r2.int; obtain ⟨t, rfl⟩ := q2; exact SeqAt.RcAt.str_int x t0 y t
      | str y => cases r2.str; obtain ⟨t, rfl⟩ := q2; exact SeqAt.RcAt.str_str x t0 y t
      | _ => simp [simp?] at h2
theorem eq_of_rc {A : Around} {v : V} {d : D} {a b : Value} {k : Bool} (rv : RelV v a) (rd : Rep cl F d v) (hab : a = b → k = true) (h : SeqAt.RcAt A s a b k) : SeqAt.EqAt A s a b k := fun prog w E Q hq => by
  have nf : ∀ f t, a ≠ .float f t := fun f t z => by
    subst z
    cases v <;> first | (cases rv; done) | (obtain ⟨_, z⟩ := rv; cases z; done) | skip
    cases d with
    | dic t ks => cases t <;> simp [Rep] at rd
    | _ => simp [Rep] at rd
  unfold eqBool
  refine wpAny_holding ?_
  refine wpAny_ite_split (fun z => ?_) (fun _ => ?_)
  · have e := hab (eq_of_beq z)
    rw [e] at hq
    exact wpAny_bind (wpAny_rule (wpAny_pure hq))
  · cases a with
    | float f t => exact (nf f t rfl).elim
    | _ => exact wpAny_bind (h prog w E _ (wpAny_truthy_bool hq))
theorem ite_eqv {b : Bool} : (b == true) = b := by cases b <;> rfl
theorem all_in {ds es : List D} {us ws : List Value} {f : Nat → Bool} (hu : us.length = ds.length) (hw : ws.length = es.length) (h : ∀ j, f j = deq (ds.getD j .non) (es.getD j .non)) :
    ((List.range (min us.toArray.size ws.toArray.size)).all f && us.toArray.size == ws.toArray.size) = deqL ds es := by
  rw [deqL_eq, List.size_toArray, List.size_toArray, hu, hw]
  congr 2
  exact funext h
/-- == of simple data -/
theorem rc_data (I : L2.Inv X pins σ H s) (hs : Sub F H) : ∀ (n : Nat) (A : Around) (d e : D) (v u : V) (a b : Value), simp? n d = true → simp? n e = true → A.units + n < cLine → BRep cl F H d v → BRep cl F H e u → RelV v a → RelV u b → SeqAt.RcAt A s a b (deq d e) := by
  intro n
  induction n with
  | zero => exact fun A d e v u a b h1 h2 hu r1 r2 q1 q2 => rc_atom h1 h2 r1 r2 q1 q2
  | succ n ih =>
    intro A d e v u a b h1 h2 hu r1 r2 q1 q2
    have hu0 : A.units < cLine := by omega
    have item : ∀ {ds es : List D} {vs ws : List V} {xs ys : List Value}, simpL? n ds = true → simpL? n es = true → RepL cl F ds vs → RepL cl F es ws → Vals vs xs → Vals ws ys →
        ∀ j (g1 : j < xs.toArray.size) (g2 : j < ys.toArray.size), SeqAt.EqAt A.in1 s xs.toArray[j] ys.toArray[j] (deq (ds.getD j .non) (es.getD j .non)) := by
      intro ds es vs ws xs ys s1 s2 l1 l2 w1 w2 j g1 g2
      have n1 : j < ds.length := by rw [← l1.len, w1.length]; simpa using g1
      have n2 : j < es.length := by rw [← l2.len, w2.length]; simpa using g2
      obtain ⟨v1, e1, p1⟩ := l1.at (List.getElem?_eq_getElem n1)
      obtain ⟨v2, e2, p2⟩ := l2.at (List.getElem?_eq_getElem n2)
      have k1 : RelV v1 xs.toArray[j] := vals_at w1 e1 (by simp)
      have k2 : RelV v2 ys.toArray[j] := vals_at w2 e2 (by simp)
      have d1 : ds.getD j .non = ds[j] := by rw [List.getD_eq_getElem?_getD, List.getElem?_eq_getElem n1]; rfl
      have d2 : es.getD j .non = es[j] := by rw [List.getD_eq_getElem?_getD, List.getElem?_eq_getElem n2]; rfl
      have f1 := simpL_at s1 (List.getElem?_eq_getElem n1)
      have f2 := simpL_at s2 (List.getElem?_eq_getElem n2)
      rw [d1, d2]
      refine eq_of_rc k1 p1 (fun z => ?_) (ih A.in1 ds[j] es[j] v1 v2 _ _ f1 f2 (by show A.units + 1 + n < cLine; omega) (.inl p1) (.inl p2) k1 k2)
      rw [z] at k1
      have : v1 = v2 := RelV.inj k1 k2
      subst this
      rw [Rep.inj f1 f2 p1 p2]
      exact deq_refl _ f2
    have seqL : ∀ {xs : List D} {v : V} {a : Value}, BRep cl F H (.lst xs) v → RelV v a → ∃ (p : Addr) (vs : List V) (us : List Value), a = .ref p ∧ RepL cl F xs vs ∧ Vals vs us ∧ s.heap.IsList p us.toArray := fun r q => by
      obtain ⟨p, vs, rfl, rd, rl, _⟩ := r.lst' hs
      cases q
      obtain ⟨us, w1, pl, _⟩ := I.list (.inl rd)
      exact ⟨p, vs, us, rfl, rl, w1, pl.isList⟩
    have seqT : ∀ {xs : List D} {v : V} {a : Value}, BRep cl F H (.tup xs) v → RelV v a → ∃ (p : Addr) (vs : List V) (us : List Value), a = .ref p ∧ RepL cl F xs vs ∧ Vals vs us ∧ s.heap.IsTuple p us.toArray := fun r q => by
      obtain ⟨p, vs, rfl, rd, rl, _⟩ := r.tup' hs
      cases q
      obtain ⟨us, w1, pl, _⟩ := I.tuple (.inl rd)
      exact ⟨p, vs, us, rfl, rl, w1, pl⟩
    cases d with
    | dic t ks => simp [simp?] at h1
    | ins c fs => simp [simp?] at h1
    | lst xs =>
      obtain ⟨p, vs, us, rfl, rl, w1, il⟩ := seqL r1 q1
      cases e with
      | dic t ks => simp [simp?] at h2
      | ins c fs => simp [simp?] at h2
      | non => cases r2.non; cases q2; exact SeqAt.RcAt.list_none il hu0
      | bl y => cases r2.bl; cases q2; exact SeqAt.RcAt.list_bool y il hu0
      | int y => cases r2.int; obtain ⟨t, rfl⟩ := q2; exact SeqAt.RcAt.list_int y t il hu0
      | str y => cases r2.str; obtain ⟨t, rfl⟩ := q2; exact SeqAt.RcAt.list_str y t il hu0
      | tup ys =>
        obtain ⟨p2, vs2, us2, rfl, rl2, w2, il2⟩ := seqT r2 q2
        exact SeqAt.RcAt.list_tuple il il2 hu0
      | lst ys =>
        obtain ⟨p2, vs2, us2, rfl, rl2, w2, il2⟩ := seqL r2 q2
        simp only [simp?] at h1 h2
        have k := item h1 h2 rl rl2 w1 w2
        by_cases hz : us.toArray.size = us2.toArray.size
        · have z := SeqAt.RcAt.lists il il2 hz hu0 k
          have ee : (List.range us.toArray.size).all (fun j => deq (xs.getD j .non) (ys.getD j .non)) = deq (.lst xs) (.lst ys) := by
            simp only [deq]
            rw [← all_in (us := us) (ws := us2) (by rw [← w1.length, rl.len]) (by rw [← w2.length, rl2.len]) (fun j => rfl), ← hz]
            simp
          rw [ee] at z
          exact z
        · have z := SeqAt.RcAt.lists_lengths il il2 (by simpa using hz) hu0
          have ee : deq (.lst xs) (.lst ys) = false := by
            simp only [deq]
            rw [← all_in (us := us) (ws := us2) (by rw [← w1.length, rl.len]) (by rw [← w2.length, rl2.len]) (fun j => rfl)]
            rw [show (us.toArray.size == us2.toArray.size) = false from by simpa using hz, Bool.and_false]
          rw [ee]
          exact z
    | tup xs =>
      obtain ⟨p, vs, us, rfl, rl, w1, il⟩ := seqT r1 q1
      cases e with
      | dic t ks => simp [simp?] at h2
      | ins c fs => simp [simp?] at h2
      | non => cases r2.non; cases q2; exact SeqAt.RcAt.tuple_none il hu0
      | bl y => cases r2.bl; cases q2; exact SeqAt.RcAt.tuple_bool y il hu0
      | int y => cases r2.int; obtain ⟨t, rfl⟩ := q2; exact SeqAt.RcAt.tuple_int y t il hu0
      | str y => cases r2.str; obtain ⟨t, rfl⟩ := q2; exact SeqAt.RcAt.tuple_str y t il hu0
      | lst ys =>
        obtain ⟨p2, vs2, us2, rfl, rl2, w2, il2⟩ := seqL r2 q2
        exact SeqAt.RcAt.tuple_list il il2 hu0
      | tup ys =>
        obtain ⟨p2, vs2, us2, rfl, rl2, w2, il2⟩ := seqT r2 q2
        simp only [simp?] at h1 h2
        have z := SeqAt.RcAt.tuples il il2 hu0 (item h1 h2 rl rl2 w1 w2)
        rw [all_in (by rw [← w1.length, rl.len]) (by rw [← w2.length, rl2.len]) (fun j => rfl)] at z
        simp only [deq]
        exact z
    | non =>
      cases e with
      | lst ys =>
        obtain ⟨p2, vs2, us2, rfl, rl2, w2, il2⟩ := seqL r2 q2
        cases r1.non; cases q1; exact SeqAt.RcAt.none_list il2 hu0
      | tup ys =>
        obtain ⟨p2, vs2, us2, rfl, rl2, w2, il2⟩ := seqT r2 q2
        cases r1.non; cases q1; exact SeqAt.RcAt.none_tuple il2 hu0
      | dic t ks => simp [simp?] at h2
      | ins c fs => simp [simp?] at h2
      | _ => exact rc_atom rfl rfl r1 r2 q1 q2
    | bl x =>
      cases e with
      | lst ys =>
        obtain ⟨p2, vs2, us2, rfl, rl2, w2, il2⟩ := seqL r2 q2
        cases r1.bl; cases q1; exact SeqAt.RcAt.bool_list x il2 hu0
      | tup ys =>
        obtain ⟨p2, vs2, us2, rfl, rl2, w2, il2⟩ := seqT r2 q2
        cases r1.bl; cases q1; exact SeqAt.RcAt.bool_tuple x il2 hu0
      | dic t ks => simp [simp?] at h2
      | ins c fs => simp [simp?] at h2
      | _ => exact rc_atom rfl rfl r1 r2 q1 q2
    | int x =>
      cases e with
      | lst ys =>
        obtain ⟨p2, vs2, us2, rfl, rl2, w2, il2⟩ := seqL r2 q2
        cases r1.int; obtain ⟨t, rfl⟩ := q1; exact SeqAt.RcAt.int_list x t il2 hu0
      | tup ys =>
        obtain ⟨p2, vs2, us2, rfl, rl2, w2, il2⟩ := seqT r2 q2
        cases r1.int; obtain ⟨t, rfl⟩ := q1; exact SeqAt.RcAt.int_tuple x t il2 hu0
      | dic t ks => simp [simp?] at h2
      | ins c fs => simp [simp?] at h2
      | _ => exact rc_atom rfl rfl r1 r2 q1 q2
    | str x =>
      cases e with
      | lst ys =>
        obtain ⟨p2, vs2, us2, rfl, rl2, w2, il2⟩ := seqL r2 q2
        cases r1.str; obtain ⟨t, rfl⟩ := q1; exact SeqAt.RcAt.str_list x t il2 hu0
      | tup ys =>
        obtain ⟨p2, vs2, us2, rfl, rl2, w2, il2⟩ := seqT r2 q2
        cases r1.str; obtain ⟨t, rfl⟩ := q1; exact SeqAt.RcAt.str_tuple x t il2 hu0
      | dic t ks => simp [simp?] at h2
      | ins c fs => simp [simp?] at h2
      | _ => exact rc_atom rfl rfl r1 r2 q1 q2
theorem ne_atom {A : Around} {d e : D} {v u : V} {a b : Value} (h1 : simp? 0 d = true) (h2 : simp? 0 e = true) (r1 : BRep cl F H d v) (r2 : BRep cl F H e u) (q1 : RelV v a) (q2 : RelV u b) : SeqAt.RcNeAt A s a b (!deq d e) := by
    cases d with
    | lst xs => simp [simp?] at h1
    | tup xs => simp [simp?] at h1
    | dic t ks => simp [simp?] at h1
    | ins c fs => simp [simp?] at h1
    | non =>
      cases r1.non
      cases q1
      cases e with
      | non => cases r2.non; cases q2; exact SeqAt.RcNeAt.none_none
      | bl y => cases r2.bl; cases q2; exact SeqAt.RcNeAt.none_bool y
      | int y => cases r2.int; obtain ⟨t, rfl⟩ := q2; exact SeqAt.RcNeAt.none_int y t
      | str y => cases r2.str; obtain ⟨t, rfl⟩ := q2; exact SeqAt.RcNeAt.none_str y t
      | _ => simp [simp?] at h2
    | bl x =>
      cases r1.bl
      cases q1
      cases e with
      | non => cases r2.non; cases q2; exact SeqAt.RcNeAt.bool_none x
      | bl y => cases r2.bl; cases q2; exact SeqAt.RcNeAt.bool_bool x y
      | int y => cases r2.int; obtain ⟨t, rfl⟩ := q2; exact SeqAt.RcNeAt.bool_int x y t
      | str y => cases r2.str; obtain ⟨t, rfl⟩ := q2; exact SeqAt.RcNeAt.bool_str x y t
      | _ => simp [simp?] at h2
    | int x =>
      cases r1.int
      obtain ⟨t0, rfl⟩ := q1
      cases e with
      | non => cases r2.non; cases q2; exact SeqAt.RcNeAt.int_none x t0
      | bl y => cases r2.bl; cases q2; exact SeqAt.RcNeAt.int_bool x t0 y
      | int y => cases r2.int; obtain ⟨t, rfl⟩ := q2; exact SeqAt.RcNeAt.int_int x t0 y t
      | str y => cases r2.str; obtain ⟨t, rfl⟩ := q2; exact SeqAt.RcNeAt.int_str x t0 y t
      | _ => simp [simp?] at h2
    | str x =>
      cases r1.str
      obtain ⟨t0, rfl⟩ := q1
      cases e with
      | non => cases r2.non; cases q2; exact SeqAt.RcNeAt.str_none x t0
      | bl y => cases r2.bl; cases q2; exact SeqAt.RcNeAt.str_bool x t0 y
      | int y => cases r2.int; obtain ⟨t, rfl⟩ := q2; exact SeqAt.RcNeAt.str_int x t0 y t
      | str y => cases r2.str; obtain ⟨t, rfl⟩ := q2; exact SeqAt.RcNeAt.str_str x t0 y t
      | _ => simp [simp?] at h2
theorem ne_data' (I : L2.Inv X pins σ H s) (hs : Sub F H) : ∀ (n : Nat) (A : Around) (d e : D) (v u : V) (a b : Value), simp? n d = true → simp? n e = true → A.units + n < cLine → BRep cl F H d v → BRep cl F H e u → RelV v a → RelV u b → SeqAt.RcNeAt A s a b (!deq d e) := by
  intro n
  induction n with
  | zero => exact fun A d e v u a b h1 h2 hu r1 r2 q1 q2 => ne_atom h1 h2 r1 r2 q1 q2
  | succ n ih =>
    intro A d e v u a b h1 h2 hu r1 r2 q1 q2
    have hu0 : A.units < cLine := by omega
    have item : ∀ {ds es : List D} {vs ws : List V} {xs ys : List Value}, simpL? n ds = true → simpL? n es = true → RepL cl F ds vs → RepL cl F es ws → Vals vs xs → Vals ws ys →
        ∀ j (g1 : j < xs.toArray.size) (g2 : j < ys.toArray.size), SeqAt.EqAt A.in1 s xs.toArray[j] ys.toArray[j] (deq (ds.getD j .non) (es.getD j .non)) := by
      intro ds es vs ws xs ys s1 s2 l1 l2 w1 w2 j g1 g2
      have n1 : j < ds.length := by rw [← l1.len, w1.length]; simpa using g1
      have n2 : j < es.length := by rw [← l2.len, w2.length]; simpa using g2
      obtain ⟨v1, e1, p1⟩ := l1.at (List.getElem?_eq_getElem n1)
      obtain ⟨v2, e2, p2⟩ := l2.at (List.getElem?_eq_getElem n2)
      have k1 : RelV v1 xs.toArray[j] := vals_at w1 e1 (by simp)
      have k2 : RelV v2 ys.toArray[j] := vals_at w2 e2 (by simp)
      have d1 : ds.getD j .non = ds[j] := by rw [List.getD_eq_getElem?_getD, List.getElem?_eq_getElem n1]; rfl
      have d2 : es.getD j .non = es[j] := by rw [List.getD_eq_getElem?_getD, List.getElem?_eq_getElem n2]; rfl
      have f1 := simpL_at s1 (List.getElem?_eq_getElem n1)
      have f2 := simpL_at s2 (List.getElem?_eq_getElem n2)
      rw [d1, d2]
      refine eq_of_rc k1 p1 (fun z => ?_) (rc_data I hs n A.in1 ds[j] es[j] v1 v2 _ _ f1 f2 (by show A.units + 1 + n < cLine; omega) (.inl p1) (.inl p2) k1 k2)
      rw [z] at k1
      have : v1 = v2 := RelV.inj k1 k2
      subst this
      rw [Rep.inj f1 f2 p1 p2]
      exact deq_refl _ f2
    have seqL : ∀ {xs : List D} {v : V} {a : Value}, BRep cl F H (.lst xs) v → RelV v a → ∃ (p : Addr) (vs : List V) (us : List Value), a = .ref p ∧ RepL cl F xs vs ∧ Vals vs us ∧ s.heap.IsList p us.toArray := fun r q => by
      obtain ⟨p, vs, rfl, rd, rl, _⟩ := r.lst' hs
      cases q
      obtain ⟨us, w1, pl, _⟩ := I.list (.inl rd)
      exact ⟨p, vs, us, rfl, rl, w1, pl.isList⟩
    have seqT : ∀ {xs : List D} {v : V} {a : Value}, BRep cl F H (.tup xs) v → RelV v a → ∃ (p : Addr) (vs : List V) (us : List Value), a = .ref p ∧ RepL cl F xs vs ∧ Vals vs us ∧ s.heap.IsTuple p us.toArray := fun r q => by
      obtain ⟨p, vs, rfl, rd, rl, _⟩ := r.tup' hs
      cases q
      obtain ⟨us, w1, pl, _⟩ := I.tuple (.inl rd)
      exact ⟨p, vs, us, rfl, rl, w1, pl⟩
    cases d with
    | dic t ks => simp [simp?] at h1
    | ins c fs => simp [simp?] at h1
    | lst xs =>
      obtain ⟨p, vs, us, rfl, rl, w1, il⟩ := seqL r1 q1
      cases e with
      | dic t ks => simp [simp?] at h2
      | ins c fs => simp [simp?] at h2
      | non => cases r2.non; cases q2; exact SeqAt.RcNeAt.list_none il hu0
      | bl y => cases r2.bl; cases q2; exact SeqAt.RcNeAt.list_bool y il hu0
      | int y => cases r2.int; obtain ⟨t, rfl⟩ := q2; exact SeqAt.RcNeAt.list_int y t il hu0
      | str y => cases r2.str; obtain ⟨t, rfl⟩ := q2; exact SeqAt.RcNeAt.list_str y t il hu0
      | tup ys =>
        obtain ⟨p2, vs2, us2, rfl, rl2, w2, il2⟩ := seqT r2 q2
        exact SeqAt.RcNeAt.list_tuple il il2 hu0
      | lst ys =>
        obtain ⟨p2, vs2, us2, rfl, rl2, w2, il2⟩ := seqL r2 q2
        simp only [simp?] at h1 h2
        have k := item h1 h2 rl rl2 w1 w2
        by_cases hz : us.toArray.size = us2.toArray.size
        · have z := SeqAt.RcNeAt.lists il il2 hz hu0 k
          have ee : (List.range us.toArray.size).all (fun j => deq (xs.getD j .non) (ys.getD j .non)) = deq (.lst xs) (.lst ys) := by
            simp only [deq]
            rw [← all_in (us := us) (ws := us2) (by rw [← w1.length, rl.len]) (by rw [← w2.length, rl2.len]) (fun j => rfl), ← hz]
            simp
          rw [ee] at z
          exact z
        · have z := SeqAt.RcNeAt.lists_lengths il il2 (by simpa using hz) hu0
          have ee : deq (.lst xs) (.lst ys) = false := by
            simp only [deq]
            rw [← all_in (us := us) (ws := us2) (by rw [← w1.length, rl.len]) (by rw [← w2.length, rl2.len]) (fun j => rfl)]
            rw [show (us.toArray.size == us2.toArray.size) = false from by simpa using hz, Bool.and_false]
          rw [ee]
          exact z
    | tup xs =>
      obtain ⟨p, vs, us, rfl, rl, w1, il⟩ := seqT r1 q1
      cases e with
      | dic t ks => simp [simp?] at h2
      | ins c fs => simp [simp?] at h2
      | non => cases r2.non; cases q2; exact SeqAt.RcNeAt.tuple_none il hu0
      | bl y => cases r2.bl; cases q2; exact SeqAt.RcNeAt.tuple_bool y il hu0
      | int y => cases r2.int; obtain ⟨t, rfl⟩ := q2; exact SeqAt.RcNeAt.tuple_int y t il hu0
      | str y => cases r2.str; obtain ⟨t, rfl⟩ := q2; exact SeqAt.RcNeAt.tuple_str y t il hu0
      | lst ys =>
        obtain ⟨p2, vs2, us2, rfl, rl2, w2, il2⟩ := seqL r2 q2
        exact SeqAt.RcNeAt.tuple_list il il2 hu0
      | tup ys =>
        obtain ⟨p2, vs2, us2, rfl, rl2, w2, il2⟩ := seqT r2 q2
        simp only [simp?] at h1 h2
        have z := SeqAt.RcNeAt.tuples il il2 hu0 (item h1 h2 rl rl2 w1 w2)
        rw [all_in (by rw [← w1.length, rl.len]) (by rw [← w2.length, rl2.len]) (fun j => rfl)] at z
        simp only [deq]
        exact z
    | non =>
      cases e with
      | lst ys =>
        obtain ⟨p2, vs2, us2, rfl, rl2, w2, il2⟩ := seqL r2 q2
        cases r1.non; cases q1; exact SeqAt.RcNeAt.none_list il2 hu0
      | tup ys =>
        obtain ⟨p2, vs2, us2, rfl, rl2, w2, il2⟩ := seqT r2 q2
        cases r1.non; cases q1; exact SeqAt.RcNeAt.none_tuple il2 hu0
      | dic t ks => simp [simp?] at h2
      | ins c fs => simp [simp?] at h2
      | _ => exact ne_atom rfl rfl r1 r2 q1 q2
    | bl x =>
      cases e with
      | lst ys =>
        obtain ⟨p2, vs2, us2, rfl, rl2, w2, il2⟩ := seqL r2 q2
        cases r1.bl; cases q1; exact SeqAt.RcNeAt.bool_list x il2 hu0
      | tup ys =>
        obtain ⟨p2, vs2, us2, rfl, rl2, w2, il2⟩ := seqT r2 q2
        cases r1.bl; cases q1; exact SeqAt.RcNeAt.bool_tuple x il2 hu0
      | dic t ks => simp [simp?] at h2
      | ins c fs => simp [simp?] at h2
      | _ => exact ne_atom rfl rfl r1 r2 q1 q2
    | int x =>
      cases e with
      | lst ys =>
        obtain ⟨p2, vs2, us2, rfl, rl2, w2, il2⟩ := seqL r2 q2
        cases r1.int; obtain ⟨t, rfl⟩ := q1; exact SeqAt.RcNeAt.int_list x t il2 hu0
      | tup ys =>
        obtain ⟨p2, vs2, us2, rfl, rl2, w2, il2⟩ := seqT r2 q2
        cases r1.int; obtain ⟨t, rfl⟩ := q1; exact SeqAt.RcNeAt.int_tuple x t il2 hu0
      | dic t ks => simp [simp?] at h2
      | ins c fs => simp [simp?] at h2
      | _ => exact ne_atom rfl rfl r1 r2 q1 q2
    | str x =>
      cases e with
      | lst ys =>
        obtain ⟨p2, vs2, us2, rfl, rl2, w2, il2⟩ := seqL r2 q2
        cases r1.str; obtain ⟨t, rfl⟩ := q1; exact SeqAt.RcNeAt.str_list x t il2 hu0
      | tup ys =>
        obtain ⟨p2, vs2, us2, rfl, rl2, w2, il2⟩ := seqT r2 q2
        cases r1.str; obtain ⟨t, rfl⟩ := q1; exact SeqAt.RcNeAt.str_tuple x t il2 hu0
      | dic t ks => simp [simp?] at h2
      | ins c fs => simp [simp?] at h2
      | _ => exact ne_atom rfl rfl r1 r2 q1 q2
/-- simple data, at most 50 deep -/
def sim (d : D) : Bool := simp? 50 d
def eqD : D → D → R D := fun d e => if sim d = true ∧ sim e = true then .ok (.bl (deq d e)) else .stuck
def neD : D → D → R D := fun d e => if sim d = true ∧ sim e = true then .ok (.bl (!deq d e)) else .stuck
end
def rSim (cl : Cl) (neg : Bool) : R2 := fun x y H Q => ∃ F d e, Sub F H ∧ BRep cl F H d x ∧ BRep cl F H e y ∧ sim d = true ∧ sim e = true ∧ Q (.bl (if neg = true then !deq d e else deq d e)) H
theorem op_eqS {X : Cx} (hu : X.A.units + 64 < cLine) : OpR X (compareOp .Eq) (rSim cl false) := by
  intro pins s σ H x y v u Q I rx ry ⟨F, d, e, hs, r1, r2, z1, z2, q⟩
  exact rc_data I hs 50 X.A d e x y v u z1 z2 (by omega) r1 r2 rx ry X.prog X.w _ _ ⟨.bl _, H, I, rfl, q⟩
theorem eq_2 : Op2 cl (relF cl) eqD (rSim cl false) := by
  intro W F H d e v u Q σ s r1 r2 p
  unfold eqD at p
  split at p
  · rename_i h
    exact ⟨F, d, e, s, r1, r2, h.1, h.2, PostG.done p s (by simp only [relF, Rep]; rfl)⟩
  · exact p.elim
end
end HL

namespace HL
open PySem PySem.Spec PyProof.Rows L2
section
variable {cl : Cl}
theorem op_neS {X : Cx} (hu : X.A.units + 64 < cLine) : OpR X (compareOp .NotEq) (rSim cl true) := by
  intro pins s σ H x y v u Q I rx ry ⟨F, d, e, hs, r1, r2, z1, z2, q⟩
  exact ne_data' I hs 50 X.A d e x y v u z1 z2 (by omega) r1 r2 rx ry X.prog X.w _ _ ⟨.bl _, H, I, rfl, q⟩
theorem ne_2 : Op2 cl (relF cl) neD (rSim cl true) := by
  intro W F H d e v u Q σ s r1 r2 p
  unfold neD at p
  split at p
  · rename_i h
    exact ⟨F, d, e, s, r1, r2, h.1, h.2, PostG.done p s (by simp only [relF, Rep]; rfl)⟩
  · exact p.elim

/-! ### in -/
def inL (x : D) : List D → Bool
  | [] => false
  | y :: ys => deq y x || inL x ys
def isSign (x : Str) : Bool := x.length == 1
/-- where a text stands in a text -/
def inS (x y : Str) : Bool := !(Builtin.Str.occurrences y x 0 y.length 1).isEmpty
def lookD (k : D) : List (D × D) → Option D
  | [] => none
  | (q, d) :: r => if deq q k = true then some d else lookD k r
def okKey (t : Bool) (k : D) : Bool := if t then (keyT k).isSome else (keyD k).isSome
def inD : D → D → R Bool
  | x, .lst ys => if sim x = true ∧ simpL? 50 ys = true then .ok (inL x ys) else .stuck
  | x, .tup ys => if sim x = true ∧ simpL? 50 ys = true then .ok (inL x ys) else .stuck
  | .str x, .str y => .ok (inS x y)
  | x, .dic t ks => if okKey t x = true then .ok (lookD x ks).isSome else .stuck
  | _, _ => .stuck
def inD' (d e : D) : R D := (inD d e).bind fun b => .ok (.bl b)
def notInD' (d e : D) : R D := (inD d e).bind fun b => .ok (.bl (!b))
def rInG (neg : Bool) : R2 := fun x y H Q => ∃ F d ds, Sub F H ∧ BRep cl F H d x ∧ (BRep cl F H (.lst ds) y ∨ BRep cl F H (.tup ds) y) ∧ sim d = true ∧ simpL? 50 ds = true ∧ Q (.bl (if neg = true then !inL d ds else inL d ds)) H
theorem inL_any {x : D} : ∀ {ds : List D} {us : List Value} {f : Value → Bool}, us.length = ds.length → (∀ (j : Nat) (d : D) (u : Value), ds[j]? = some d → us[j]? = some u → f u = deq d x) → us.any f = inL x ds
  | [], [], f, _, _ => rfl
  | [], u :: us, f, h, _ => by simp at h
  | d :: ds, [], f, h, _ => by simp at h
  | d :: ds, u :: us, f, h, k => by
    simp only [List.any_cons, inL]
    rw [k 0 d u rfl rfl, inL_any (ds := ds) (us := us) (by simpa using h) fun j d' u' h1 h2 => k (j + 1) d' u' (by simpa using h1) (by simpa using h2)]
theorem same_deq {F H : Hp} {ds : List D} {vs : List V} {us : List Value} (rl : RepL cl F ds vs) (w : Vals vs us) (h : simpL? 50 ds = true) {j k : Nat} {d e : D} {u : Value} (h1 : ds[j]? = some d) (h2 : us[j]? = some u) (h3 : ds[k]? = some e) (h4 : us[k]? = some u) : d = e := by
  obtain ⟨v1, a1, b1⟩ := rl.at h1
  obtain ⟨v2, a2, b2⟩ := rl.at h3
  have := RelV.inj (vals_at w a1 h2) (vals_at w a2 h4)
  subst this
  exact Rep.inj (simpL_at h h1) (simpL_at h h3) b1 b2
theorem toArr_any {α : Type} (us : List α) (f : α → Bool) : us.toArray.any f = us.any f := by simp
open Classical in
theorem op_inG {X : Cx} (hu : X.A.units + 65 < cLine) {op : CmpOp} {neg : Bool} (hop : (op = .In ∧ neg = false) ∨ (op = .NotIn ∧ neg = true)) : OpR X (compareOp op) (rInG (cl := cl) neg) := by
  intro pins s σ H x y v u Q I rx ry ⟨F, d, ds, hs, r1, r2, z1, z2, q⟩
  -- the items, each with its datum
  have key : ∀ {vs : List V} {us : List Value}, RepL cl F ds vs → Vals vs us → ∃ f : Value → Bool, (∀ y, y ∈ us.toArray → SeqAt.EqAt X.A.in1 s y v (f y)) ∧ us.toArray.any f = inL d ds := by
    intro vs us rl w
    have hl : us.length = ds.length := by rw [← w.length, rl.len]
    refine ⟨fun y => if h : ∃ (j : Nat) (e : D), ds[j]? = some e ∧ us[j]? = some y then deq (Classical.choose (Classical.choose_spec h)) d else false, fun y hy => ?_, ?_⟩
    · obtain ⟨j, hj⟩ := List.mem_iff_getElem?.mp (show y ∈ us by simpa using hy)
      have hlt := (List.getElem?_eq_some_iff.mp hj).1
      have hx : ∃ (j : Nat) (e : D), ds[j]? = some e ∧ us[j]? = some y := ⟨j, ds[j]'(by omega), List.getElem?_eq_getElem (by omega), hj⟩
      simp only [dif_pos hx]
      have hs2 := Classical.choose_spec (Classical.choose_spec hx)
      obtain ⟨v1, a1, b1⟩ := rl.at hs2.1
      have k1 := vals_at w a1 hs2.2
      have f1 := simpL_at z2 hs2.1
      refine eq_of_rc k1 b1 (fun z => ?_) (rc_data I hs 50 X.A.in1 _ d v1 x y v f1 z1 (by show X.A.units + 1 + 50 < cLine; omega) (.inl b1) r1 k1 rx)
      rw [z] at k1
      have : v1 = x := RelV.inj k1 rx
      subst this
      rw [brep_inj f1 z1 (.inl b1) r1]
      exact deq_refl _ z1
    · rw [toArr_any]
      refine inL_any hl fun j e y h1 h2 => ?_
      have hx : ∃ (j : Nat) (e : D), ds[j]? = some e ∧ us[j]? = some y := ⟨j, e, h1, h2⟩
      simp only [dif_pos hx]
      have hs2 := Classical.choose_spec (Classical.choose_spec hx)
      rw [same_deq (H := H) rl w z2 hs2.1 hs2.2 h1 h2]
  have fin : ∀ b, b = inL d ds → (∀ (Q' : Value → Shared → Prop), Q' (.bool (if neg = true then !b else b)) s → True) := fun _ _ _ _ => trivial
  rcases r2 with r2 | r2
  · obtain ⟨p, vs, rfl, rd, rl, _⟩ := r2.lst' hs
    cases ry
    obtain ⟨us, w, pl, _⟩ := I.list (.inl rd)
    obtain ⟨f, k1, k2⟩ := key rl w
    rcases hop with ⟨rfl, rfl⟩ | ⟨rfl, rfl⟩
    · exact SeqAt.in_listAt f pl.isList k1 ⟨.bl _, H, I, rfl, by rw [k2]; exact q⟩
    · exact SeqAt.notIn_listAt f pl.isList k1 ⟨.bl _, H, I, rfl, by rw [k2]; exact q⟩
  · obtain ⟨p, vs, rfl, rd, rl, _⟩ := r2.tup' hs
    cases ry
    obtain ⟨us, w, pl, _⟩ := I.tuple (.inl rd)
    obtain ⟨f, k1, k2⟩ := key rl w
    rcases hop with ⟨rfl, rfl⟩ | ⟨rfl, rfl⟩
    · exact SeqAt.in_tupleAt f pl k1 ⟨.bl _, H, I, rfl, by rw [k2]; exact q⟩
    · exact SeqAt.notIn_tupleAt f pl k1 ⟨.bl _, H, I, rfl, by rw [k2]; exact q⟩
/-- dicts: the key's place -/
theorem keyD_rep {F : Hp} {k : D} {q : Key} {v : V} (h : keyD k = some q) (r : Rep cl F k v) : v = kV q := by
  cases k <;> simp [keyD] at h
  · subst h; exact RepIn.int r
  · subst h; exact RepIn.str r
theorem keyD_deq {k l : D} {q r : Key} (h : keyD k = some q) (h' : keyD l = some r) : deq k l = decide (q = r) := by
  cases k <;> simp [keyD] at h <;> cases l <;> simp [keyD] at h' <;> subst h <;> subst h' <;> simp [deq]
  all_goals first | rfl | (rename_i a b; by_cases e : a = b <;> simp [e])
theorem keysD_rep {F : Hp} : ∀ {ks : List D} {qs : List Key} {vs : List V}, keysD ks = some qs → RepL cl F ks vs → vs = qs.map kV
  | [], qs, vs, h, r => by
    simp only [keysD] at h
    cases h
    simp only [RepL] at r
    exact r
  | k :: ks, qs, vs, h, r => by
    simp only [keysD] at h
    split at h
    · rename_i q qs' h1 h2
      cases h
      simp only [RepL] at r
      obtain ⟨v, r', rfl, a, b⟩ := r
      rw [keyD_rep h1 a, keysD_rep h2 b]
      rfl
    · cases h
theorem keysD_deq : ∀ {ks ls : List D} {q r : List Key}, keysD ks = some q → keysD ls = some r → deqL ks ls = decide (q = r)
  | [], [], q, r, h, h' => by simp only [keysD] at h h'; cases h; cases h'; rfl
  | [], l :: ls, q, r, h, h' => by
    simp only [keysD] at h h'
    cases h
    split at h'
    · cases h'; rfl
    · cases h'
  | k :: ks, [], q, r, h, h' => by
    simp only [keysD] at h h'
    cases h'
    split at h
    · cases h; rfl
    · cases h
  | k :: ks, l :: ls, q, r, h, h' => by
    simp only [keysD] at h h'
    split at h
    · rename_i a as h1 h2
      cases h
      split at h'
      · rename_i b bs h3 h4
        cases h'
        simp only [deqL]
        rw [keyD_deq h1 h3, keysD_deq h2 h4]
        by_cases e1 : a = b <;> by_cases e2 : as = bs <;> simp [e1, e2]
      · cases h'
    · cases h
theorem keyT_deq {k l : D} {q r : List Key} (h : keyT k = some q) (h' : keyT l = some r) : deq k l = decide (q = r) := by
  cases k <;> simp only [keyT] at h <;> first | cases h | skip
  all_goals (cases l <;> simp only [keyT] at h' <;> first | cases h' | skip)
  all_goals (simp only [deq]; exact keysD_deq h h')
theorem valV_cons {κ : Type} [DecidableEq κ] {p q : κ} {v : V} {s : List (κ × V)} : valV ((p, v) :: s) q = if p = q then some v else valV s q := by
  unfold valV
  by_cases e : p = q
  · rw [if_pos e, List.find?_cons_of_pos (by simpa using e)]
    rfl
  · rw [if_neg e, List.find?_cons_of_neg (by simpa using e)]
theorem lookK {F : Hp} {k : D} {q : Key} (hk : keyD k = some q) : ∀ {ks : List (D × D)} {qs : List (Key × V)}, RepK cl F ks qs → (lookD k ks = none ∧ valV qs q = none) ∨ ∃ d v, lookD k ks = some d ∧ valV qs q = some v ∧ Rep cl F d v
  | [], qs, h => by
    simp only [RepK] at h
    subst h
    exact .inl ⟨rfl, rfl⟩
  | (l, d) :: r, qs, h => by
    simp only [RepK] at h
    obtain ⟨p, v, s, rfl, h1, h2, h3⟩ := h
    simp only [lookD, valV_cons]
    rw [keyD_deq h1 hk]
    by_cases e : p = q
    · subst e
      exact .inr ⟨d, v, by simp, by simp, h2⟩
    · rw [if_neg (by simpa using e)]
      rcases lookK hk h3 with ⟨a, b⟩ | ⟨d', v', a, b, c⟩
      · exact .inl ⟨a, by rw [if_neg e]; exact b⟩
      · exact .inr ⟨d', v', a, by rw [if_neg e]; exact b, c⟩
theorem lookT {F : Hp} {k : D} {q : List Key} (hk : keyT k = some q) : ∀ {ks : List (D × D)} {qs : List (List Key × V)}, RepT cl F ks qs → (lookD k ks = none ∧ valV qs q = none) ∨ ∃ d v, lookD k ks = some d ∧ valV qs q = some v ∧ Rep cl F d v
  | [], qs, h => by
    simp only [RepT] at h
    subst h
    exact .inl ⟨rfl, rfl⟩
  | (l, d) :: r, qs, h => by
    simp only [RepT] at h
    obtain ⟨p, v, s, rfl, h1, h2, h3⟩ := h
    simp only [lookD, valV_cons]
    rw [keyT_deq h1 hk]
    by_cases e : p = q
    · subst e
      exact .inr ⟨d, v, by simp, by simp, h2⟩
    · rw [if_neg (by simpa using e)]
      rcases lookT hk h3 with ⟨a, b⟩ | ⟨d', v', a, b, c⟩
      · exact .inl ⟨a, by rw [if_neg e]; exact b⟩
      · exact .inr ⟨d', v', a, by rw [if_neg e]; exact b, c⟩
/-- a look-up in a borrowed dict -/
theorem dget_of {F H : Hp} (hs : Sub F H) {t : Bool} {ks : List (D × D)} {k : D} {x y : V} (r1 : BRep cl F H (.dic t ks) x) (r2 : BRep cl F H k y) (hk : okKey t k = true) :
    ∃ a o, x = .ref a ∧ DGet H a y o ∧ ((lookD k ks = none ∧ o = none) ∨ ∃ d v, lookD k ks = some d ∧ o = some v ∧ Rep cl F d v) := by
  obtain ⟨a, u, rfl, rd, ob⟩ := r1.obj hs rfl
  cases t with
  | false =>
    obtain ⟨qs, rfl, rk⟩ := ob
    simp only [okKey, Bool.false_eq_true, if_false] at hk
    obtain ⟨q, hq⟩ := Option.isSome_iff_exists.mp hk
    have ry : y = kV q := keyD_rep hq (BRep.atom (F' := F) r2 (by cases k <;> simp [keyD] at hq <;> rfl))
    refine ⟨a, valV qs q, rfl, .inl ⟨qs, q, rd, ry, rfl⟩, ?_⟩
    exact lookK hq rk
  | true =>
    obtain ⟨qs, rfl, rk⟩ := ob
    simp only [okKey, if_true] at hk
    obtain ⟨q, hq⟩ := Option.isSome_iff_exists.mp hk
    cases k with
    | tup xs =>
      simp only [keyT] at hq
      rcases r2 with r2 | ⟨_, _, _, _, _, _, mu⟩
      · obtain ⟨b, vs, rfl, hb, rl, _⟩ := RepIn.tup r2
        refine ⟨a, valV qs q, rfl, .inr ⟨qs, q, b, rd, rfl, ?_, rfl⟩, ?_⟩
        · rw [← keysD_rep hq rl]
          exact hs.fix hb
        · exact lookT (by simp only [keyT]; exact hq) rk
      · cases mu
    | _ => simp [keyT] at hq
def rInK (neg : Bool) : R2 := fun x y H Q => ∃ a o, y = .ref a ∧ DGet H a x o ∧ Q (.bl (if neg = true then !o.isSome else o.isSome)) H
theorem op_inK {X : Cx} (hu : X.A.units + 1 < cLine) : OpR X (compareOp .In) (rInK false) := by
  intro pins s σ H x y v u Q I rx ry ⟨a, o, e, g, q⟩
  subst e
  cases ry
  exact d_in hu I g rx fun s3 I3 => ⟨.bl _, H, I3, rfl, q⟩
theorem op_notInK {X : Cx} (hu : X.A.units + 1 < cLine) : OpR X (compareOp .NotIn) (rInK true) := by
  intro pins s σ H x y v u Q I rx ry ⟨a, o, e, g, q⟩
  subst e
  cases ry
  exact d_notIn hu I g rx fun s3 I3 => ⟨.bl _, H, I3, rfl, q⟩
def rInS (neg : Bool) : R2 := fun x y H Q => ∃ i j, x = V.str i ∧ y = V.str j ∧ Q (V.bl (if neg = true then !inS i j else inS i j)) H
def rInAll (cl : Cl) (neg : Bool) : R2 := fun x y H Q => (rInG (cl := cl) neg x y H Q ∨ rInK neg x y H Q) ∨ rInS neg x y H Q
theorem op_inA {X : Cx} (hu : X.A.units + 65 < cLine) : OpR X (compareOp .In) (rInAll cl false) :=
  ((op_inG hu (.inl ⟨rfl, rfl⟩)).or (op_inK (by omega))).or fun pins s σ H x y v u Q I rx ry ⟨i, j, e1, e2, q⟩ => op_in_str pins s σ H x y v u Q I rx ry ⟨i, j, e1, e2, q⟩
theorem op_notInA {X : Cx} (hu : X.A.units + 65 < cLine) : OpR X (compareOp .NotIn) (rInAll cl true) :=
  ((op_inG hu (.inr ⟨rfl, rfl⟩)).or (op_notInK (by omega))).or fun pins s σ H x y v u Q I rx ry ⟨i, j, e1, e2, q⟩ => op_notIn_str pins s σ H x y v u Q I rx ry ⟨i, j, e1, e2, q⟩
def inN (neg : Bool) (d e : D) : R D := (inD d e).bind fun b => .ok (.bl (if neg = true then !b else b))
theorem in_2 {neg : Bool} : Op2 cl (relF cl) (inN neg) (rInAll cl neg) := by
  intro W F H d e v u Q σ s r1 r2 p
  unfold inN at p
  unfold inD at p
  split at p
  · split at p
    · rename_i h
      exact .inl (.inl ⟨F, _, _, s, r1, .inl r2, h.1, h.2, PostG.done p s (by simp only [relF, Rep])⟩)
    · exact p.elim
  · split at p
    · rename_i h
      exact .inl (.inl ⟨F, _, _, s, r1, .inr r2, h.1, h.2, PostG.done p s (by simp only [relF, Rep])⟩)
    · exact p.elim
  · exact .inr ⟨_, _, r1.str, r2.str, PostG.done p s (by simp only [relF, Rep])⟩
  · split at p
    · rename_i h
      obtain ⟨a, o, rfl, g, c⟩ := dget_of s r2 r1 h
      refine .inl (.inr ⟨a, o, rfl, g, ?_⟩)
      rcases c with ⟨c1, rfl⟩ | ⟨d', v', c1, rfl, _⟩
      · rw [c1] at p
        exact PostG.done p s (by simp only [relF, Rep]; rfl)
      · rw [c1] at p
        exact PostG.done p s (by simp only [relF, Rep]; rfl)
    · exact p.elim
  · exact p.elim

/-! ### < of tuples, texts, ints -/
mutual
def dlt : D → D → Option Bool
  | .int i, .int j => some (decide (i < j))
  | .str x, .str y => some (decide (x.cps.toList < y.cps.toList))
  | .tup xs, .tup ys => dltL xs ys
  | _, _ => none
def dltL : List D → List D → Option Bool
  | [], [] => some false
  | [], _ :: _ => some true
  | _ :: _, [] => some false
  | x :: xs, y :: ys => if deq x y = true then dltL xs ys else dlt x y
end
mutual
/-- an order stands between them, all the way down -/
def cmpOk : D → D → Bool
  | .int _, .int _ => true
  | .str _, .str _ => true
  | .tup xs, .tup ys => cmpOkL xs ys
  | _, _ => false
def cmpOkL : List D → List D → Bool
  | x :: xs, y :: ys => cmpOk x y && cmpOkL xs ys
  | _, _ => true
end
def dltB (d e : D) : Bool := (dlt d e).getD false
def ltD : D → D → R D := fun d e => if sim d = true ∧ sim e = true ∧ cmpOk d e = true then .ok (.bl (dltB d e)) else .stuck
theorem lexAt_shift {e r : Nat → Bool} {z : Bool} : ∀ {n i : Nat}, Ob.lexAt e r z (i + 1) n = Ob.lexAt (fun j => e (j + 1)) (fun j => r (j + 1)) z i n
  | 0, i => rfl
  | n + 1, i => by rw [Ob.lexAt_succ, Ob.lexAt_succ, lexAt_shift]
theorem dltL_lex : ∀ {ds es : List D} {b : Bool} {r : Nat → Bool}, dltL ds es = some b → (∀ (j : Nat), deq (ds.getD j .non) (es.getD j .non) = false → j < ds.length → j < es.length → (∀ c, dlt (ds.getD j .non) (es.getD j .non) = some c → r j = c)) →
    Ob.lexAt (fun j => deq (ds.getD j .non) (es.getD j .non)) r (decide (ds.length < es.length)) 0 (min ds.length es.length) = b
  | [], [], b, r, h, _ => by simp only [dltL] at h; cases h; rfl
  | [], y :: ys, b, r, h, _ => by simp only [dltL] at h; cases h; simp [Ob.lexAt_zero]
  | x :: xs, [], b, r, h, _ => by simp only [dltL] at h; cases h; simp [Ob.lexAt_zero]
  | x :: xs, y :: ys, b, r, h, k => by
    simp only [dltL] at h
    rw [show min (x :: xs).length (y :: ys).length = min xs.length ys.length + 1 by simp only [List.length_cons]; omega, Ob.lexAt_succ, lexAt_shift]
    simp only [List.getD_cons_zero, List.getD_cons_succ, List.length_cons]
    by_cases e : deq x y = true
    · rw [if_pos e] at h
      rw [if_pos e]
      have ih := dltL_lex (r := fun j => r (j + 1)) h fun j h1 h2 h3 c hc => k (j + 1) (by simpa using h1) (by simp; omega) (by simp; omega) c (by simpa using hc)
      rw [← ih]
      congr 1
      simp
    · rw [if_neg e] at h
      rw [if_neg e]
      exact k 0 (by simpa using e) (by simp) (by simp) b (by simpa using h)
mutual
theorem cmpOk_some : ∀ {d e : D}, cmpOk d e = true → ∃ b, dlt d e = some b
  | .int _, .int _, _ => ⟨_, rfl⟩
  | .str _, .str _, _ => ⟨_, rfl⟩
  | .tup xs, .tup ys, h => by
    simp only [cmpOk] at h
    simp only [dlt]
    exact cmpOkL_some h
  | .non, e, h => by simp [cmpOk] at h
  | .bl _, e, h => by simp [cmpOk] at h
  | .lst _, e, h => by simp [cmpOk] at h
  | .dic _ _, e, h => by simp [cmpOk] at h
  | .ins _ _, e, h => by simp [cmpOk] at h
  | .int _, .non, h => by simp [cmpOk] at h
  | .int _, .bl _, h => by simp [cmpOk] at h
  | .int _, .str _, h => by simp [cmpOk] at h
  | .int _, .lst _, h => by simp [cmpOk] at h
  | .int _, .tup _, h => by simp [cmpOk] at h
  | .int _, .dic _ _, h => by simp [cmpOk] at h
  | .int _, .ins _ _, h => by simp [cmpOk] at h
  | .str _, .non, h => by simp [cmpOk] at h
  | .str _, .bl _, h => by simp [cmpOk] at h
  | .str _, .int _, h => by simp [cmpOk] at h
  | .str _, .lst _, h => by simp [cmpOk] at h
  | .str _, .tup _, h => by simp [cmpOk] at h
  | .str _, .dic _ _, h => by simp [cmpOk] at h
  | .str _, .ins _ _, h => by simp [cmpOk] at h
  | .tup _, .non, h => by simp [cmpOk] at h
  | .tup _, .bl _, h => by simp [cmpOk] at h
  | .tup _, .int _, h => by simp [cmpOk] at h
  | .tup _, .str _, h => by simp [cmpOk] at h
  | .tup _, .lst _, h => by simp [cmpOk] at h
  | .tup _, .dic _ _, h => by simp [cmpOk] at h
  | .tup _, .ins _ _, h => by simp [cmpOk] at h
theorem cmpOkL_some : ∀ {ds es : List D}, cmpOkL ds es = true → ∃ b, dltL ds es = some b
  | [], [], _ => ⟨_, rfl⟩
  | [], _ :: _, _ => ⟨_, rfl⟩
  | _ :: _, [], _ => ⟨_, rfl⟩
  | x :: xs, y :: ys, h => by
    simp only [cmpOkL, Bool.and_eq_true] at h
    simp only [dltL]
    by_cases e : deq x y = true
    · rw [if_pos e]
      exact cmpOkL_some h.2
    · rw [if_neg e]
      exact cmpOk_some h.1
end
theorem cmpOkL_at : ∀ {ds es : List D} {j : Nat} {d e : D}, cmpOkL ds es = true → ds[j]? = some d → es[j]? = some e → cmpOk d e = true
  | x :: xs, y :: ys, 0, d, e, h, h1, h2 => by
    simp only [cmpOkL, Bool.and_eq_true] at h
    cases h1
    cases h2
    exact h.1
  | x :: xs, y :: ys, j + 1, d, e, h, h1, h2 => by
    simp only [cmpOkL, Bool.and_eq_true] at h
    exact cmpOkL_at h.2 (by simpa using h1) (by simpa using h2)
theorem lt_data {X : Cx} {pins : List (Addr × Obj)} {σ : L2.St} {H F : Hp} {s : Shared} (I : L2.Inv X pins σ H s) (hs : Sub F H) : ∀ (n : Nat) (A : Around) (d e : D) (v u : V) (a b : Value), simp? n d = true → simp? n e = true → cmpOk d e = true → A.units + n < cLine → BRep cl F H d v → BRep cl F H e u → RelV v a → RelV u b →
    Ob.RcOp .Lt A s a b (dltB d e) := by
  have atoms : ∀ (A : Around) (d e : D) (v u : V) (a b : Value), simp? 0 d = true → cmpOk d e = true → BRep cl F H d v → BRep cl F H e u → RelV v a → RelV u b → Ob.RcOp .Lt A s a b (dltB d e) := by
    intro A d e v u a b h0 hc r1 r2 q1 q2
    cases d with
    | int i => cases e with
      | int j =>
        cases r1.int; cases r2.int
        obtain ⟨t, rfl⟩ := q1
        obtain ⟨t', rfl⟩ := q2
        exact Ob.RcOp.lt_int i j t t'
      | _ => simp [cmpOk] at hc
    | str i => cases e with
      | str j =>
        cases r1.str; cases r2.str
        obtain ⟨t, rfl⟩ := q1
        obtain ⟨t', rfl⟩ := q2
        exact fun prog w E Q h => lt_str h
      | _ => simp [cmpOk] at hc
    | tup xs => simp [simp?] at h0
    | _ => simp [cmpOk] at hc
  intro n
  induction n with
  | zero => exact fun A d e v u a b h1 h2 hc hu r1 r2 q1 q2 => atoms A d e v u a b h1 hc r1 r2 q1 q2
  | succ n ih =>
    intro A d e v u a b h1 h2 hc hu r1 r2 q1 q2
    cases d with
    | tup xs => cases e with
      | tup ys =>
        obtain ⟨p, vs, rfl, rd, rl, _⟩ := r1.tup' hs
        obtain ⟨p2, vs2, rfl, rd2, rl2, _⟩ := r2.tup' hs
        cases q1
        cases q2
        obtain ⟨us, w1, il, _⟩ := I.tuple (.inl rd)
        obtain ⟨us2, w2, il2, _⟩ := I.tuple (.inl rd2)
        simp only [simp?] at h1 h2
        simp only [cmpOk] at hc
        have l1 : us.length = xs.length := by rw [← w1.length, rl.len]
        have l2 : us2.length = ys.length := by rw [← w2.length, rl2.len]
        obtain ⟨b, hb⟩ := cmpOkL_some hc
        have hb' : dltB (.tup xs) (.tup ys) = b := by unfold dltB; simp only [dlt, hb]; rfl
        rw [hb']
        have z := Ob.RcOp.tuples_lt (A := A) (s := s) (e := fun j => deq (xs.getD j .non) (ys.getD j .non)) (r := fun j => dltB (xs.getD j .non) (ys.getD j .non)) il il2 (by omega) (fun j g1 g2 => ?_) (fun j g1 g2 he => ?_)
        · have sz : us.toArray.size = xs.length := by simpa using l1
          have sz2 : us2.toArray.size = ys.length := by simpa using l2
          rw [sz, sz2, dltL_lex hb fun j _ _ _ c hc => by unfold dltB; rw [hc]; rfl] at z
          exact z
        · have n1 : j < xs.length := by simpa [l1] using g1
          have n2 : j < ys.length := by simpa [l2] using g2
          obtain ⟨v1, e1, p1⟩ := rl.at (List.getElem?_eq_getElem n1)
          obtain ⟨v2, e2, p2⟩ := rl2.at (List.getElem?_eq_getElem n2)
          have k1 : RelV v1 us.toArray[j] := vals_at w1 e1 (by simp)
          have k2 : RelV v2 us2.toArray[j] := vals_at w2 e2 (by simp)
          have d1 : xs.getD j .non = xs[j] := by rw [List.getD_eq_getElem?_getD, List.getElem?_eq_getElem n1]; rfl
          have d2 : ys.getD j .non = ys[j] := by rw [List.getD_eq_getElem?_getD, List.getElem?_eq_getElem n2]; rfl
          have f1 := simpL_at h1 (List.getElem?_eq_getElem n1)
          have f2 := simpL_at h2 (List.getElem?_eq_getElem n2)
          show SeqAt.EqAt A.in1 s _ _ (deq (xs.getD j .non) (ys.getD j .non))
          rw [d1, d2]
          refine eq_of_rc k1 p1 (fun z => ?_) (rc_data I hs n A.in1 xs[j] ys[j] v1 v2 _ _ f1 f2 (by show A.units + 1 + n < cLine; omega) (.inl p1) (.inl p2) k1 k2)
          rw [z] at k1
          have : v1 = v2 := RelV.inj k1 k2
          subst this
          rw [Rep.inj f1 f2 p1 p2]
          exact deq_refl _ f2
        · have n1 : j < xs.length := by simpa [l1] using g1
          have n2 : j < ys.length := by simpa [l2] using g2
          obtain ⟨v1, e1, p1⟩ := rl.at (List.getElem?_eq_getElem n1)
          obtain ⟨v2, e2, p2⟩ := rl2.at (List.getElem?_eq_getElem n2)
          have k1 : RelV v1 us.toArray[j] := vals_at w1 e1 (by simp)
          have k2 : RelV v2 us2.toArray[j] := vals_at w2 e2 (by simp)
          have d1 : xs.getD j .non = xs[j] := by rw [List.getD_eq_getElem?_getD, List.getElem?_eq_getElem n1]; rfl
          have d2 : ys.getD j .non = ys[j] := by rw [List.getD_eq_getElem?_getD, List.getElem?_eq_getElem n2]; rfl
          show Ob.RcOp .Lt A.in1 s _ _ (dltB (xs.getD j .non) (ys.getD j .non))
          rw [d1, d2]
          exact ih A.in1 xs[j] ys[j] v1 v2 _ _ (simpL_at h1 (List.getElem?_eq_getElem n1)) (simpL_at h2 (List.getElem?_eq_getElem n2)) (cmpOkL_at hc (List.getElem?_eq_getElem n1) (List.getElem?_eq_getElem n2)) (by show A.units + 1 + n < cLine; omega) (.inl p1) (.inl p2) k1 k2
      | _ => simp [cmpOk] at hc
    | int i => exact atoms A _ e v u a b rfl hc r1 r2 q1 q2
    | str i => exact atoms A _ e v u a b rfl hc r1 r2 q1 q2
    | _ => simp [cmpOk] at hc
def rLtD (cl : Cl) : R2 := fun x y H Q => ∃ F d e, Sub F H ∧ BRep cl F H d x ∧ BRep cl F H e y ∧ sim d = true ∧ sim e = true ∧ cmpOk d e = true ∧ Q (.bl (dltB d e)) H
theorem op_ltD {X : Cx} (hu : X.A.units + 64 < cLine) : OpR X (compareOp .Lt) (rLtD cl) := by
  intro pins s σ H x y v u Q I rx ry ⟨F, d, e, hs, r1, r2, z1, z2, z3, q⟩
  exact lt_data I hs 50 X.A d e x y v u z1 z2 z3 (by omega) r1 r2 rx ry X.prog X.w _ _ ⟨.bl _, H, I, rfl, q⟩
theorem lt_2 : Op2 cl (relF cl) ltD (rLtD cl) := by
  intro W F H d e v u Q σ s r1 r2 p
  unfold ltD at p
  split at p
  · rename_i h
    exact ⟨F, d, e, s, r1, r2, h.1, h.2.1, h.2.2, PostG.done p s (by simp only [relF, Rep])⟩
  · exact p.elim
def cmpI (f : Int → Int → Bool) : D → D → R D
  | .int i, .int j => .ok (.bl (f i j))
  | _, _ => .stuck
theorem cmpI_2 {f : Int → Int → Bool} : Op2 cl (relF cl) (cmpI f) (rI0 fun i j => V.bl (f i j)) := by
  intro W F H d e v u Q σ s r1 r2 p
  unfold cmpI at p
  split at p
  · exact ⟨_, _, r1.int, r2.int, PostG.done p s (by simp only [relF, Rep])⟩
  · exact p.elim
end
end HL

namespace HL
open PySem PySem.Spec PyProof.Rows L2
section
variable {cl : Cl}
/-! ### items and slices -/
def atD (ds : List D) (i : Int) : R D := match atI ds i with
  | some d => .ok d
  | none => .stuck
def ixSeq : D → D → R D
  | .lst ds, .int i => atD ds i
  | .tup ds, .int i => atD ds i
  | .str x, .int i => if x.length ≤ sizeLine then match atI x.cps.toList i with
    | some c => .ok (.str ⟨#[c]⟩)
    | none => .stuck
    else .stuck
  | _, _ => .stuck
def ixDic : D → D → R D
  | .dic t ks, k => if okKey t k = true then match lookD k ks with
    | some d => .ok d
    | none => .stuck
    else .stuck
  | _, _ => .stuck
def isDic : D → Bool
  | .dic _ _ => true
  | _ => false
def ixD (d e : D) : R D := if isDic d = true then ixDic d e else ixSeq d e
theorem atI_rep {F : Hp} {ds : List D} {vs : List V} {i : Int} {d : D} (r : RepL cl F ds vs) (h : atI ds i = some d) : ∃ v, atI vs i = some v ∧ Rep cl F d v := by
  unfold atI at h ⊢
  rw [r.len]
  cases e : ixN ds.length i with
  | none => rw [e] at h; cases h
  | some j =>
    rw [e] at h
    exact r.at h
def rDGet : R2 := fun x y H Q => ∃ a v, x = .ref a ∧ DGet H a y (some v) ∧ Q v H
theorem ixSeq_2 {K : PySem.W.Frag} : Op2 cl (relF cl) ixSeq (rIx K) := by
  intro W F H d e v u Q σ s r1 r2 p
  unfold ixSeq at p
  split at p
  · unfold atD at p
    split at p
    · rename_i d hd
      obtain ⟨p', vs, rfl, rd, rl, _⟩ := r1.lst' s
      obtain ⟨w, hw, rw'⟩ := atI_rep rl hd
      exact .inl ⟨p', vs, _, w, rfl, r2.int, .inl rd, hw, PostG.done p s rw'⟩
    · exact p.elim
  · unfold atD at p
    split at p
    · rename_i d hd
      obtain ⟨p', vs, rfl, rd, rl, _⟩ := r1.tup' s
      obtain ⟨w, hw, rw'⟩ := atI_rep rl hd
      exact .inr (.inl ⟨p', vs, _, w, rfl, r2.int, .inl rd, hw, PostG.done p s rw'⟩)
    · exact p.elim
  · split at p
    · rename_i hz
      split at p
      · rename_i c hc
        exact .inr (.inr ⟨_, _, c, r1.str, r2.int, hz, hc, PostG.done p s (by simp only [relF, Rep])⟩)
      · exact p.elim
    · exact p.elim
  · exact p.elim
theorem ixDic_2 : Op2 cl (relF cl) ixDic rDGet := by
  intro W F H d e v u Q σ s r1 r2 p
  unfold ixDic at p
  split at p
  · split at p
    · rename_i hk
      obtain ⟨a, o, rfl, g, c⟩ := dget_of s r1 r2 hk
      rcases c with ⟨c1, rfl⟩ | ⟨d', v', c1, rfl, rr⟩
      · rw [c1] at p; exact p.elim
      · rw [c1] at p
        exact ⟨a, v', rfl, g, PostG.done p s rr⟩
    · exact p.elim
  · exact p.elim
section
variable {X : Cx} {W : WX} {a b : Expr} {pos : Pos} {ma mb : HEnv → R D}
theorem d_ix (hu : X.A.units + 1 < cLine) (ha : PE X a (tB cl W ma)) (hb : PE X b (tB cl W mb)) (hs : PlainIx b := by exact fun _ _ => rfl) (hn : NoSl b := by exact fun _ _ => rfl) : PE X (.Subscript a b pos) (tF cl W (m2 ixD ma mb)) := by
  refine pe_case (n := ma) fun r => ?_
  have main : ∀ (r : R D), (∀ d, r = .ok d → isDic d = false) → ∀ σ H Q F0 H0 F env, HSt cl F0 H0 F env σ H → ma env = r → PostG cl (relF cl) W (m2 ixD ma mb env) F σ H Q → tOp (rIx X.K) (tB cl W ma) (tB cl W mb) σ H Q := by
    intro r hd σ H Q F0 H0 F env st em q
    refine read2 (rel' := relF cl) oldF carB (fun Hs F H d v e u Q σ s r1 r2 p => ixSeq_2 W F H d e v u Q σ s r1 r2 p) ⟨F0, H0, F, env, st, ?_⟩
    simp only [m2, em] at q ⊢
    cases r with
    | ok d =>
      simp only [R.bind_ok] at q ⊢
      have z : ∀ e, ixD d e = ixSeq d e := fun e => by unfold ixD; rw [if_neg (by rw [hd d rfl]; decide)]
      simp only [z] at q
      exact q
    | er x => exact q
    | stuck => exact q
  rcases r with d | x | _
  · by_cases hd : isDic d = true
    · refine ⟨_, pe_dget hu ha hb hn, fun σ H Q F0 H0 F env st em q => ?_⟩
      show tOp rDGet (tB cl W ma) (tB cl W mb) σ H Q
      refine read2 (rel' := relF cl) oldF carB (fun Hs F H d v e u Q σ s r1 r2 p => ixDic_2 W F H d e v u Q σ s r1 r2 p) ⟨F0, H0, F, env, st, ?_⟩
      simp only [m2, em, R.bind_ok] at q ⊢
      have z : ∀ e, ixD d e = ixDic d e := fun e => by unfold ixD; rw [if_pos hd]
      simp only [z] at q
      exact q
    · exact ⟨_, pe_ix ix_seq ha hb hs, main _ fun d' e => by cases e; simpa using hd⟩
  · exact ⟨_, pe_ix ix_seq ha hb hs, main _ fun d' e => by cases e⟩
  · exact ⟨_, pe_ix ix_seq ha hb hs, main _ fun d' e => by cases e⟩
/-! ### slices -/
def mPart (m : HEnv → R D) : HEnv → R (Option Int) := m1 (fun d => match d with
  | .int i => .ok (some i)
  | _ => .stuck) m
def mNoPart : HEnv → R (Option Int) := fun _ => .ok none
def relO : Rel (Option Int) (Option Int) := fun _ _ _ a b => b = a
abbrev tPt (cl : Cl) (W : WX) (m : HEnv → R (Option Int)) : TO := tG cl relO W m
theorem oldO : Old relO := fun _ _ _ _ _ _ _ h => h
theorem carO : Carry relO := fun _ _ _ _ _ _ _ _ _ h => h
theorem po_weak {e : Option Expr} {t t' : TO} (h : PO X e t) (w : ∀ σ H Q, t' σ H Q → t σ H Q) : PO X e t' := ⟨fun pins s σ H Q I q => h.run pins s σ H Q I (w σ H Q q)⟩
theorem dp_some {e : Expr} {m : HEnv → R D} (h : PE X e (tF cl W m)) : PO X (some e) (tPt cl W (mPart m)) := by
  refine po_weak (po_some h) fun σ H Q q => ?_
  refine read1 (r := fun x H1 Q => ∃ i, x = V.int i ∧ Q (some i) H1) oldO (fun Hs F H d v Q σ s r p => ?_) q
  cases d with
  | int i => exact ⟨i, RepIn.int r, PostG.done p s rfl⟩
  | _ => exact p.elim
theorem dp_none : PO X none (tPt cl W mNoPart) := po_weak po_none fun σ H Q ⟨F0, H0, F, env, st, q⟩ => PostG.done (rel := relO) (v := none) q st.sub rfl
def cutL (ds : List D) (lo hi : Option Int) : List D := List.take (HT.sIx ds.length ds.length hi - HT.sIx ds.length 0 lo) (List.drop (HT.sIx ds.length 0 lo) ds)
def slD (d : D) (lo hi : Option Int) : R D := match d with
  | .lst ds => .ok (.lst (cutL ds lo hi))
  | .tup ds => .ok (.tup (cutL ds lo hi))
  | .str x => if x.length ≤ sizeLine then .ok (.str (cutS x lo hi)) else .stuck
  | _ => .stuck
def slLst (d : D) (lo hi : Option Int) : R D := match d with
  | .lst ds => .ok (.lst (cutL ds lo hi))
  | _ => .stuck
def mSl (f : D → Option Int → Option Int → R D) (m : HEnv → R D) (l h : HEnv → R (Option Int)) : HEnv → R D := fun env => (m env).bind fun d => (l env).bind fun lo => (h env).bind fun hi => f d lo hi
theorem RepL.takeD {F : Hp} : ∀ (n : Nat) {ds : List D} {vs : List V}, RepL cl F ds vs → RepL cl F (ds.take n) (vs.take n)
  | 0, ds, vs, h => by simp [RepL]
  | n + 1, [], vs, h => by simp only [RepL] at h; subst h; simp [RepL]
  | n + 1, d :: ds, vs, h => by
    simp only [RepL] at h
    obtain ⟨v, r, rfl, a, b⟩ := h
    simp only [List.take_succ_cons, RepL]
    exact ⟨v, _, rfl, a, RepL.takeD n b⟩
theorem RepL.dropD {F : Hp} : ∀ (n : Nat) {ds : List D} {vs : List V}, RepL cl F ds vs → RepL cl F (ds.drop n) (vs.drop n)
  | 0, ds, vs, h => h
  | n + 1, [], vs, h => by simp only [RepL] at h; subst h; simp [RepL]
  | n + 1, d :: ds, vs, h => by
    simp only [RepL] at h
    obtain ⟨v, r, rfl, a, b⟩ := h
    exact RepL.dropD n b
theorem cut_rep {F : Hp} {ds : List D} {vs : List V} {lo hi : Option Int} (h : RepL cl F ds vs) : RepL cl F (cutL ds lo hi) (cutV vs lo hi) := by
  unfold cutL cutV
  rw [h.len]
  exact (h.dropD _).takeD _
theorem cut_len {ds : List D} {lo hi : Option Int} : (cutL ds lo hi).length ≤ ds.length := by
  unfold cutL
  rw [List.length_take, List.length_drop]
  omega
theorem readSl {rel : Rel D V} (ho : Old rel) {f : D → Option Int → Option Int → R D} {m : HEnv → R D} {l h : HEnv → R (Option Int)} {r : V → Option Int → Option Int → Hp → VK → Prop} {σ : L2.St} {H : Hp} {Q : VK}
    (hr : ∀ F H d v lo hi Q σ, Sub F H → BRep cl F H d v → PostG cl rel W (f d lo hi) F σ H Q → r v lo hi H Q) (q : tG cl rel W (mSl f m l h) σ H Q) : tSl r (tB cl W m) (tPt cl W l) (tPt cl W h) σ H Q := by
  refine bindG (k := fun d env => (l env).bind fun lo => (h env).bind fun hi => f d lo hi) ho q fun d v F0 H0 F1 env Hs H1 s r1 p => ?_
  refine ⟨F0, H0, F1, env, s, ?_⟩
  refine PostG.lift p fun lo _ lo' F2 H2 k2 s2 e2 p2 => ?_
  obtain rfl : lo' = lo := e2
  refine ⟨F0, H0, F2, env, s.step k2 s2, ?_⟩
  refine PostG.lift (PostG.step ho p2 k2) fun hi _ hi' F3 H3 k3 s3 e3 p3 => ?_
  obtain rfl : hi' = hi := e3
  exact hr F3 H3 d v lo' hi' Q σ s3 ((BRep.kp k2 r1).kp k3) (PostG.step ho p3 k3)
theorem d_sl {e : Expr} {lo hi : Option Expr} {p2 : Pos} {l h : HEnv → R (Option Int)} (he : PE X e (tB cl W ma)) (hl : PO X lo (tPt cl W l)) (hh : PO X hi (tPt cl W h)) : PE X (.Subscript e (.Slice lo hi none p2) pos) (tF cl W (mSl slD ma l h)) := by
  refine pe_case (n := ma) fun r => ?_
  have er : ∀ (r : R D), (∀ d, r = .ok d → slD d = fun _ _ => .stuck) → ∃ t : TE, PE X (.Subscript e (.Slice lo hi none p2) pos) t ∧ ∀ σ H Q F0 H0 F env, HSt cl F0 H0 F env σ H → ma env = r → PostG cl (relF cl) W (mSl slD ma l h env) F σ H Q → t σ H Q := by
    intro r hd
    refine ⟨_, pe_slice sl_list he hl hh, fun σ H Q F0 H0 F env st em q => ?_⟩
    refine readSl (f := fun _ _ _ => .stuck) (oldF (cl := cl)) (fun F H d v lo hi Q σ s r p => p.elim) ⟨F0, H0, F, env, st, ?_⟩
    simp only [mSl, em] at q ⊢
    cases r with
    | ok d => simpa only [R.bind_ok, hd d rfl] using q
    | er x => exact q
    | stuck => exact q
  rcases r with (_ | b | i | x | xs | xs | _ | _) | x | _
  case ok.lst =>
    refine ⟨_, pe_slice sl_list he hl hh, fun σ H Q F0 H0 F env st em q => ?_⟩
    refine readSl (f := slLst) (oldF (cl := cl)) (fun F H d v lo hi Q σ s r p => ?_) ⟨F0, H0, F, env, st, ?_⟩
    · cases d with
      | lst ds =>
        obtain ⟨a, vs, rfl, rd, rl, z⟩ := r.lst' s
        exact ⟨a, vs, rfl, .inl rd, fun q hq => PostG.newF p s hq ⟨_, rfl, cut_rep rl, Nat.le_trans cut_len z⟩⟩
      | _ => exact p.elim
    · simp only [mSl, em, R.bind_ok, slD, slLst] at q ⊢
      exact q
  case ok.tup =>
    refine ⟨_, pe_slice sl_tupA he hl hh, fun σ H Q F0 H0 F env st em q => ?_⟩
    refine readSl (f := fun d lo hi => match d with | .tup ds => .ok (.tup (cutL ds lo hi)) | _ => .stuck) (oldF (cl := cl)) (fun F H d v lo hi Q σ s r p => ?_) ⟨F0, H0, F, env, st, ?_⟩
    · cases d with
      | tup ds =>
        obtain ⟨a, vs, e1, rd, rl, z⟩ := r.tup' s
        refine ⟨a, vs, e1, .inl rd, fun hw => ?_, fun _ q hq => PostG.newF p s hq ⟨_, rfl, cut_rep rl, Nat.le_trans cut_len z⟩⟩
        have ec : cutL ds lo hi = ds := by
          unfold cutL
          rw [rl.len] at hw
          rw [hw.1, hw.2]
          simp
        simp only [ec] at p
        rw [← e1]
        exact PostG.done p s (r.elim id fun ⟨_, _, _, _, _, _, mu⟩ => by cases mu)
      | _ => exact p.elim
    · simp only [mSl, em, R.bind_ok, slD] at q ⊢
      exact q
  case ok.str =>
    refine ⟨_, pe_slice sl_str he hl hh, fun σ H Q F0 H0 F env st em q => ?_⟩
    refine readSl (f := fun d lo hi => match d with | .str x => if x.length ≤ sizeLine then .ok (.str (cutS x lo hi)) else .stuck | _ => .stuck) (oldF (cl := cl)) (fun F H d v lo hi Q σ s r p => ?_) ⟨F0, H0, F, env, st, ?_⟩
    · cases d with
      | str x =>
        simp only at p
        split at p
        · rename_i hz
          exact ⟨x, r.str, hz, PostG.done p s (by simp only [relF, Rep])⟩
        · exact p.elim
      | _ => exact p.elim
    · simp only [mSl, em, R.bind_ok, slD] at q ⊢
      exact q
  all_goals exact er _ (by intro d e; cases e; try rfl)
/-- a new list -/
theorem dn_sl {e : Expr} {lo hi : Option Expr} {p2 : Pos} {l h : HEnv → R (Option Int)} (he : PE X e (tB cl W ma)) (hl : PO X lo (tPt cl W l)) (hh : PO X hi (tPt cl W h)) : PE X (.Subscript e (.Slice lo hi none p2) pos) (tN cl W (mSl slLst ma l h)) := by
  refine pe_weak (pe_slice sl_list he hl hh) fun σ H Q q => readSl oldN (fun F H d v lo hi Q σ s r p => ?_) q
  cases d with
  | lst ds =>
    obtain ⟨a, vs, rfl, rd, rl, z⟩ := r.lst' s
    exact ⟨a, vs, rfl, .inl rd, fun q hq => PostG.new p s hq ⟨_, rfl, cut_rep rl, Nat.le_trans cut_len z⟩⟩
  | _ => exact p.elim
end
end
end HL

namespace HL
open PySem PySem.Spec PyProof.Rows L2
section
variable {cl : Cl}
/-! ### calls of built-ins, of one borrowed argument -/
def Un1 (cl : Cl) (rel : Rel D V) (f : D → R D) (r : List V → Hp → VK → Prop) : Prop := ∀ (W : WX) (F H : Hp) (d : D) (v : V) (Q : VK) (σ : L2.St), Sub F H → BRep cl F H d v → PostG cl rel W (f d) F σ H Q → r [v] H Q
section
variable {X : Cx} {W : WX} {e : Expr} {p pos : Pos} {x : Str} {m : HEnv → R D}
theorem d_callB {id : String} {r : List V → Hp → VK → Prop} {f : D → R D} (hc : CallR X (.builtin id) r) (hf : Un1 cl (relF cl) f r) (hg : Gl X x) (hm : X.mg x = none) (hv : bootBuiltins x = some (.builtin id)) (he : PE X e (tB cl W m))
    (hn : x ≠ "__name__" := by decide) (hd : (x == ("__debug__" : Str)) = false := by decide) (h1 : starEach (e :: []) X.env = (false, eval e X.env) :: starEach [] X.env := by rfl) (h2 : (backTo pos (starEach [] X.env)).any (·.1) = false := by rfl) :
    PE X (.Call (.Name x p) [e] [] pos) (tF cl W (m1 f m)) :=
  pe_weak (pe_callB hc hg hm hv (pa_cons he pa_nil h1) hn hd h1 h2) fun σ H Q q => read1 (r := fun v H Q => r [v] H Q) oldF (fun Hs F H d v Q σ s r1 p => hf W F H d v Q σ s r1 p) q
theorem d_callTy {T : String} {r : List V → Hp → VK → Prop} {f : D → R D} (hc : CallR X (.type T) r) (hf : Un1 cl (relF cl) f r) (hg : Gl X x) (hm : X.mg x = none) (hv : bootBuiltins x = some (.type T)) (he : PE X e (tB cl W m))
    (hn : x ≠ "__name__" := by decide) (hd : (x == ("__debug__" : Str)) = false := by decide) (h1 : starEach (e :: []) X.env = (false, eval e X.env) :: starEach [] X.env := by rfl) (h2 : (backTo pos (starEach [] X.env)).any (·.1) = false := by rfl) :
    PE X (.Call (.Name x p) [e] [] pos) (tF cl W (m1 f m)) :=
  pe_weak (pe_callTy hc hg hm hv (pa_cons he pa_nil h1) hn hd h1 h2) fun σ H Q q => read1 (r := fun v H Q => r [v] H Q) oldF (fun Hs F H d v Q σ s r1 p => hf W F H d v Q σ s r1 p) q
theorem dn_callB {id : String} {r : List V → Hp → VK → Prop} {f : D → R D} (hc : CallR X (.builtin id) r) (hf : Un1 cl (relN cl) f r) (hg : Gl X x) (hm : X.mg x = none) (hv : bootBuiltins x = some (.builtin id)) (he : PE X e (tB cl W m))
    (hn : x ≠ "__name__" := by decide) (hd : (x == ("__debug__" : Str)) = false := by decide) (h1 : starEach (e :: []) X.env = (false, eval e X.env) :: starEach [] X.env := by rfl) (h2 : (backTo pos (starEach [] X.env)).any (·.1) = false := by rfl) :
    PE X (.Call (.Name x p) [e] [] pos) (tN cl W (m1 f m)) :=
  pe_weak (pe_callB hc hg hm hv (pa_cons he pa_nil h1) hn hd h1 h2) fun σ H Q q => read1 (r := fun v H Q => r [v] H Q) oldN (fun Hs F H d v Q σ s r1 p => hf W F H d v Q σ s r1 p) q
theorem dn_callTy {T : String} {r : List V → Hp → VK → Prop} {f : D → R D} (hc : CallR X (.type T) r) (hf : Un1 cl (relN cl) f r) (hg : Gl X x) (hm : X.mg x = none) (hv : bootBuiltins x = some (.type T)) (he : PE X e (tB cl W m))
    (hn : x ≠ "__name__" := by decide) (hd : (x == ("__debug__" : Str)) = false := by decide) (h1 : starEach (e :: []) X.env = (false, eval e X.env) :: starEach [] X.env := by rfl) (h2 : (backTo pos (starEach [] X.env)).any (·.1) = false := by rfl) :
    PE X (.Call (.Name x p) [e] [] pos) (tN cl W (m1 f m)) :=
  pe_weak (pe_callTy hc hg hm hv (pa_cons he pa_nil h1) hn hd h1 h2) fun σ H Q q => read1 (r := fun v H Q => r [v] H Q) oldN (fun Hs F H d v Q σ s r1 p => hf W F H d v Q σ s r1 p) q
end
theorem CallR.or {X : Cx} {f : Value} {r r' : List V → Hp → VK → Prop} (h : CallR X f r) (h' : CallR X f r') : CallR X f (fun xs H Q => r xs H Q ∨ r' xs H Q) := fun pins s σ H xs us Q I rv q => q.elim (h pins s σ H xs us Q I rv) (h' pins s σ H xs us Q I rv)
/-- len -/
def lenD : D → R D
  | .lst ds => .ok (.int ds.length)
  | .tup ds => .ok (.int ds.length)
  | .str x => if x.length ≤ sizeLine then .ok (.int x.length) else .stuck
  | .dic false ks => .ok (.int ks.length)
  | _ => .stuck
theorem RepK.len {F : Hp} : ∀ {ks : List (D × D)} {qs : List (Key × V)}, RepK cl F ks qs → qs.length = ks.length
  | [], qs, h => by simp only [RepK] at h; rw [h]; rfl
  | (k, d) :: r, qs, h => by
    simp only [RepK] at h
    obtain ⟨p, v, s, rfl, _, _, h3⟩ := h
    simp [RepK.len h3]
theorem call_lenR {X : Cx} : CallR X (.builtin "len") (fun xs H Q => ∃ a kvs, xs = [V.ref a] ∧ Rd H a (.dK kvs) ∧ Q (.int kvs.length) H) := by
  intro pins s σ H xs us Q I r ⟨a, kvs, e, h, q⟩
  subst e
  obtain ⟨u, rfl, ru⟩ := vals1 r
  cases ru
  exact d_len I h fun t s' I' => ⟨.int kvs.length, H, I', ⟨t, rfl⟩, q⟩
def rLen (K : PySem.W.Frag) : List V → Hp → VK → Prop := fun xs H Q => (∃ x n, xs = [x] ∧ LenV K x H n ∧ Q (.int n) H) ∨ ∃ a kvs, xs = [V.ref a] ∧ Rd H a (.dK kvs) ∧ Q (.int kvs.length) H
theorem call_lenA {X : Cx} : CallR X (.builtin "len") (rLen X.K) := CallR.or call_len call_lenR
theorem len_1 {K : PySem.W.Frag} : Un1 cl (relF cl) lenD (rLen K) := by
  intro W F H d v Q σ s r p
  unfold lenD at p
  split at p
  · obtain ⟨a, vs, rfl, rd, rl, _⟩ := r.lst' s
    exact .inl ⟨_, _, rfl, .inl ⟨vs, .inl rd, rfl⟩, by rw [rl.len]; exact PostG.done p s (by simp only [relF, Rep])⟩
  · obtain ⟨a, vs, rfl, rd, rl, _⟩ := r.tup' s
    exact .inl ⟨_, _, rfl, .inr ⟨vs, .inl rd, rfl⟩, by rw [rl.len]; exact PostG.done p s (by simp only [relF, Rep])⟩
  · split at p
    · rename_i h
      cases r.str
      exact .inl ⟨_, _, rfl, ⟨h, rfl⟩, PostG.done p s (by simp only [relF, Rep])⟩
    · exact p.elim
  · obtain ⟨a, u, rfl, rd, qs, rfl, rk⟩ := r.obj s rfl
    exact .inr ⟨a, qs, rfl, rd, by rw [rk.len]; exact PostG.done p s (by simp only [relF, Rep])⟩
  · exact p.elim
/-- list, tuple -/
def listD : D → R D
  | .lst ds => .ok (.lst ds)
  | .tup ds => .ok (.lst ds)
  | _ => .stuck
def rListOf (K : PySem.W.Frag) : List V → Hp → VK → Prop := fun xs H Q => ∃ p ys, xs = [V.ref p] ∧ (SqL K H p ys ∨ SqT K H p ys) ∧ ∀ l, H l = none → Q (.ref l) (upd H l (.lst ys))
theorem list_1 {K : PySem.W.Frag} : Un1 cl (relN cl) listD (rListOf K) := by
  intro W F H d v Q σ s r p
  unfold listD at p
  split at p
  · obtain ⟨a, vs, rfl, rd, rl, z⟩ := r.lst' s
    exact ⟨a, vs, rfl, .inl (.inl rd), fun l hl => PostG.new p s hl ⟨_, rfl, rl, z⟩⟩
  · obtain ⟨a, vs, rfl, rd, rl, z⟩ := r.tup' s
    exact ⟨a, vs, rfl, .inr (.inl rd), fun l hl => PostG.new p s hl ⟨_, rfl, rl, z⟩⟩
  · exact p.elim
def tupleD : D → R D
  | .lst ds => .ok (.tup ds)
  | .tup ds => .ok (.tup ds)
  | _ => .stuck
def rTupleOf (K : PySem.W.Frag) : List V → Hp → VK → Prop := fun xs H Q => ∃ p ys, xs = [V.ref p] ∧ ((SqL K H p ys ∧ ∀ l, H l = none → Q (.ref l) (upd H l (.tup ys))) ∨ SqT K H p ys ∧ Q (.ref p) H)
theorem tuple_1 {K : PySem.W.Frag} : Un1 cl (relF cl) tupleD (rTupleOf K) := by
  intro W F H d v Q σ s r p
  unfold tupleD at p
  split at p
  · obtain ⟨a, vs, rfl, rd, rl, z⟩ := r.lst' s
    exact ⟨a, vs, rfl, .inl ⟨.inl rd, fun l hl => PostG.newF p s hl ⟨_, rfl, rl, z⟩⟩⟩
  · obtain ⟨a, vs, rfl, rd, rl, z⟩ := r.tup' s
    exact ⟨a, vs, rfl, .inr ⟨.inl rd, PostG.done p s (r.elim id fun ⟨_, _, _, _, _, _, mu⟩ => by cases mu)⟩⟩
  · exact p.elim
/-- int -/
def intD : D → R D
  | .int i => .ok (.int i)
  | .bl b => .ok (.int (if b = true then 1 else 0))
  | .str x => if x.length ≤ 640 then match PySem.intText? x with
    | some n => .ok (.int n)
    | none => .stuck
    else .stuck
  | _ => .stuck
def rInt : List V → Hp → VK → Prop := fun xs H Q => ((∃ i, xs = [V.int i] ∧ Q (.int i) H) ∨ ∃ k, xs = [V.bl k] ∧ Q (.int (if k = true then 1 else 0)) H) ∨ ∃ a n, xs = [V.str a] ∧ PySem.intText? a = some n ∧ a.length ≤ 640 ∧ Q (.int n) H
theorem call_intA {X : Cx} : CallR X (.type "int") rInt := CallR.or call_int1 fun pins s σ H xs us Q I r ⟨a, n, h1, h2, h3, q⟩ => call_int_str pins s σ H xs us Q I r ⟨a, n, h1, h2, h3, q⟩
theorem int_1 : Un1 cl (relF cl) intD rInt := by
  intro W F H d v Q σ s r p
  unfold intD at p
  split at p
  · cases r.int; exact .inl (.inl ⟨_, rfl, PostG.done p s (by simp only [relF, Rep])⟩)
  · cases r.bl; exact .inl (.inr ⟨_, rfl, PostG.done p s (by simp only [relF, Rep])⟩)
  · split at p
    · rename_i hz
      split at p
      · rename_i n hn
        cases r.str; exact .inr ⟨_, n, rfl, hn, hz, PostG.done p s (by simp only [relF, Rep])⟩
      · exact p.elim
    · exact p.elim
  · exact p.elim
/-- str -/
def strD : D → R D
  | .str x => .ok (.str x)
  | .int i => if i.natAbs.log2 < 1920 then .ok (.str (Str.ofString (toString i))) else .stuck
  | _ => .stuck
def rStr : List V → Hp → VK → Prop := fun xs H Q => (∃ a, xs = [V.str a] ∧ Q (.str a) H) ∨ ∃ i, xs = [V.int i] ∧ i.natAbs.log2 < 1920 ∧ Q (.str (Str.ofString (toString i))) H
theorem call_strA {X : Cx} : CallR X (.type "str") rStr := CallR.or SkE.call_str_str call_str_int
theorem str_1 : Un1 cl (relF cl) strD rStr := by
  intro W F H d v Q σ s r p
  unfold strD at p
  split at p
  · cases r.str; exact .inl ⟨_, rfl, PostG.done p s (by simp only [relF, Rep])⟩
  · split at p
    · rename_i h
      cases r.int; exact .inr ⟨_, rfl, h, PostG.done p s (by simp only [relF, Rep])⟩
    · exact p.elim
  · exact p.elim
/-- all, any of bools -/
def boolsD : List D → Option (List Bool)
  | [] => some []
  | .bl b :: r => (boolsD r).map (b :: ·)
  | _ => none
theorem bools_rep {F : Hp} : ∀ {ds : List D} {bs : List Bool} {vs : List V}, boolsD ds = some bs → RepL cl F ds vs → vs = bs.map V.bl
  | [], bs, vs, h, r => by
    simp only [boolsD] at h
    cases h
    simp only [RepL] at r
    exact r
  | d :: ds, bs, vs, h, r => by
    cases d with
    | bl b =>
      simp only [boolsD] at h
      cases e : boolsD ds with
      | none => rw [e] at h; cases h
      | some cs =>
        rw [e] at h
        cases h
        simp only [RepL] at r
        obtain ⟨v, r', rfl, a, c⟩ := r
        rw [RepIn.bl a, bools_rep e c]
        rfl
    | _ => simp [boolsD] at h
def allD : D → R D
  | .lst ds => match boolsD ds with
    | some bs => .ok (.bl (bs.all id))
    | none => .stuck
  | _ => .stuck
def anyD : D → R D
  | .lst ds => match boolsD ds with
    | some bs => .ok (.bl (bs.any id))
    | none => .stuck
  | _ => .stuck
theorem all_1 {K : PySem.W.Frag} : Un1 cl (relF cl) allD (rAll K) := by
  intro W F H d v Q σ s r p
  unfold allD at p
  split at p
  · split at p
    · rename_i bs hb
      obtain ⟨a, vs, rfl, rd, rl, z⟩ := r.lst' s
      exact ⟨a, bs, rfl, by rw [← bools_rep hb rl]; exact .inl rd, PostG.done p s (by simp only [relF, Rep])⟩
    · exact p.elim
  · exact p.elim
theorem any_1 {K : PySem.W.Frag} : Un1 cl (relF cl) anyD (rAny K) := by
  intro W F H d v Q σ s r p
  unfold anyD at p
  split at p
  · split at p
    · rename_i bs hb
      obtain ⟨a, vs, rfl, rd, rl, z⟩ := r.lst' s
      exact ⟨a, bs, rfl, by rw [← bools_rep hb rl]; exact .inl rd, PostG.done p s (by simp only [relF, Rep])⟩
    · exact p.elim
  · exact p.elim
/-- sorted of texts -/
def strsD : List D → Option (List Str)
  | [] => some []
  | .str x :: r => (strsD r).map (x :: ·)
  | _ => none
theorem strs_rep {F : Hp} : ∀ {ds : List D} {xs : List Str} {vs : List V}, strsD ds = some xs → RepL cl F ds vs → vs = xs.map V.str
  | [], bs, vs, h, r => by
    simp only [strsD] at h
    cases h
    simp only [RepL] at r
    exact r
  | d :: ds, bs, vs, h, r => by
    cases d with
    | str b =>
      simp only [strsD] at h
      cases e : strsD ds with
      | none => rw [e] at h; cases h
      | some cs =>
        rw [e] at h
        cases h
        simp only [RepL] at r
        obtain ⟨v, r', rfl, a, c⟩ := r
        rw [RepIn.str a, strs_rep e c]
        rfl
    | _ => simp [strsD] at h
theorem rep_strs {F : Hp} : ∀ (xs : List Str), RepL cl F (xs.map D.str) (xs.map V.str)
  | [] => by simp only [List.map_nil, RepL]
  | x :: xs => by
    simp only [List.map_cons, RepL]
    exact ⟨_, _, rfl, by simp only [Rep], rep_strs xs⟩
theorem ltCps_irrefl : ∀ a : List Nat, ltCps a a = false
  | [] => rfl
  | x :: r => by simp [ltCps, ltCps_irrefl r]
theorem ltCps_anti : ∀ {a b : List Nat}, ltCps a b = false → ltCps b a = false → a = b
  | [], [], _, _ => rfl
  | [], y :: b, h, _ => by simp [ltCps] at h
  | x :: a, [], _, h => by simp [ltCps] at h
  | x :: a, y :: b, h, k => by
    simp only [ltCps, Bool.or_eq_false_iff, decide_eq_false_iff_not, Bool.and_eq_false_iff, beq_eq_false_iff_ne] at h k
    have e : x = y := by omega
    subst e
    rw [ltCps_anti (a := a) (b := b) (by rcases h.2 with z | z; exact absurd rfl z; exact z) (by rcases k.2 with z | z; exact absurd rfl z; exact z)]
theorem ltCps_trans : ∀ {a b c : List Nat}, ltCps b a = false → ltCps c b = false → ltCps c a = false
  | [], b, c, _, _ => by cases c <;> simp [ltCps]
  | x :: a, [], c, h, _ => by simp [ltCps] at h
  | x :: a, y :: b, [], _, k => by simp [ltCps] at k
  | x :: a, y :: b, z :: c, h, k => by
    simp only [ltCps, Bool.or_eq_false_iff, decide_eq_false_iff_not, Bool.and_eq_false_iff, beq_eq_false_iff_ne] at h k ⊢
    refine ⟨by omega, ?_⟩
    by_cases e : z = x
    · right
      have e1 : y = x := by omega
      have e2 : z = y := by omega
      exact ltCps_trans (by rcases h.2 with q | q; exact absurd e1 q; exact q) (by rcases k.2 with q | q; exact absurd e2 q; exact q)
    · exact .inl e
theorem ltCps_total {a b : List Nat} (h : ltCps a b = true) : ltCps b a = false := by
  cases e : ltCps b a with
  | false => rfl
  | true =>
    exfalso
    have key : ∀ {a b : List Nat}, ltCps a b = true → ltCps b a = true → False := by
      intro a
      induction a with
      | nil => intro b h k; cases b <;> simp [ltCps] at k
      | cons x a ih =>
        intro b h k
        cases b with
        | nil => simp [ltCps] at h
        | cons y b =>
          simp only [ltCps, Bool.or_eq_true, decide_eq_true_eq, Bool.and_eq_true, beq_iff_eq] at h k
          rcases h with h | ⟨h1, h2⟩
          · rcases k with k | ⟨k1, k2⟩ <;> omega
          · rcases k with k | ⟨k1, k2⟩
            · omega
            · exact ih h2 k2
    exact key h e
theorem str_ext {x y : Str} (h : x.cps.toList = y.cps.toList) : x = y := by
  cases x; cases y
  simp only at h
  congr 1
  exact Array.toList_inj.mp h
/-- texts by their signs -/
def leS (x y : Str) : Bool := !ltCps y.cps.toList x.cps.toList
theorem leS_trans {x y z : Str} (h : leS x y = true) (k : leS y z = true) : leS x z = true := by
  simp only [leS, Bool.not_eq_true'] at h k ⊢
  exact ltCps_trans h k
theorem leS_anti {x y : Str} (h : leS x y = true) (k : leS y x = true) : x = y := by
  simp only [leS, Bool.not_eq_true'] at h k
  exact str_ext (ltCps_anti k h)
theorem leS_total {x y : Str} (h : leS x y = false) : leS y x = true := by
  simp only [leS, Bool.not_eq_false', Bool.not_eq_true'] at h ⊢
  exact ltCps_total h
def insS (x : Str) : List Str → List Str
  | [] => [x]
  | y :: ys => if leS x y = true then x :: y :: ys else y :: insS x ys
def sortS : List Str → List Str
  | [] => []
  | x :: xs => insS x (sortS xs)
theorem insS_perm {x : Str} : ∀ {ys : List Str}, (insS x ys).Perm (x :: ys)
  | [] => List.Perm.refl _
  | y :: ys => by
    simp only [insS]
    split
    · exact List.Perm.refl _
    · exact (List.Perm.cons y insS_perm).trans (List.Perm.swap x y ys)
theorem sortS_perm : ∀ {xs : List Str}, (sortS xs).Perm xs
  | [] => List.Perm.refl _
  | x :: xs => insS_perm.trans (List.Perm.cons x sortS_perm)
theorem insS_sorted {x : Str} : ∀ {ys : List Str}, ys.Pairwise (fun a b => leS a b = true) → (insS x ys).Pairwise (fun a b => leS a b = true)
  | [], _ => by simp [insS]
  | y :: ys, h => by
    simp only [insS]
    have h' := List.pairwise_cons.mp h
    split
    · rename_i e
      refine List.pairwise_cons.mpr ⟨fun z hz => ?_, h⟩
      rcases List.mem_cons.mp hz with rfl | hz
      · exact e
      · exact leS_trans e (h'.1 z hz)
    · rename_i e
      refine List.pairwise_cons.mpr ⟨fun z hz => ?_, insS_sorted h'.2⟩
      rcases List.mem_cons.mp (insS_perm.mem_iff.mp hz) with rfl | hz
      · exact leS_total (by simpa using e)
      · exact h'.1 z hz
theorem sortS_sorted : ∀ {xs : List Str}, (sortS xs).Pairwise (fun a b => leS a b = true)
  | [] => List.Pairwise.nil
  | x :: xs => insS_sorted sortS_sorted
theorem sorted_unique : ∀ {xs ys : List Str}, xs.Perm ys → xs.Pairwise (fun a b => leS a b = true) → ys.Pairwise (fun a b => leS a b = true) → xs = ys
  | [], ys, p, _, _ => (List.Perm.nil_eq p).symm ▸ rfl
  | x :: xs, [], p, _, _ => absurd p.length_eq (by simp)
  | x :: xs, y :: ys, p, h, k => by
    have h' := List.pairwise_cons.mp h
    have k' := List.pairwise_cons.mp k
    have e : x = y := by
      have m1 : x ∈ y :: ys := p.mem_iff.mp List.mem_cons_self
      have m2 : y ∈ x :: xs := p.mem_iff.mpr List.mem_cons_self
      rcases List.mem_cons.mp m1 with e | m1
      · exact e
      · rcases List.mem_cons.mp m2 with e | m2
        · exact e.symm
        · exact leS_anti (h'.1 y m2) (k'.1 x m1)
    subst e
    rw [sorted_unique (List.Perm.cons_inv p) h'.2 k'.2]
theorem pairwise_of_sortedS : ∀ {xs : List Str}, sortedS xs = true → xs.Pairwise (fun a b => leS a b = true)
  | [], _ => List.Pairwise.nil
  | [x], _ => by simp
  | x :: y :: r, h => by
    have h2 : (leS x y && risingS y r) = true := h
    simp only [Bool.and_eq_true] at h2
    have ih := pairwise_of_sortedS (xs := y :: r) h2.2
    refine List.pairwise_cons.mpr ⟨fun z hz => ?_, ih⟩
    rcases List.mem_cons.mp hz with rfl | hz
    · exact h2.1
    · exact leS_trans h2.1 ((List.pairwise_cons.mp ih).1 z hz)
def sortD : D → R D
  | .lst ds => match strsD ds with
    | some xs => if xs.length < 64 then .ok (.lst ((sortS xs).map D.str)) else .stuck
    | none => .stuck
  | _ => .stuck
theorem strsD_len : ∀ {ds : List D} {xs : List Str}, strsD ds = some xs → xs.length = ds.length
  | [], xs, h => by simp only [strsD] at h; cases h; rfl
  | .str x :: r, xs, h => by
    simp only [strsD] at h
    cases e : strsD r with
    | none => rw [e] at h; cases h
    | some cs => rw [e] at h; cases h; simp [strsD_len e]
  | .non :: r, xs, h => by simp [strsD] at h
  | .bl _ :: r, xs, h => by simp [strsD] at h
  | .int _ :: r, xs, h => by simp [strsD] at h
  | .tup _ :: r, xs, h => by simp [strsD] at h
  | .lst _ :: r, xs, h => by simp [strsD] at h
  | .dic _ _ :: r, xs, h => by simp [strsD] at h
  | .ins _ _ :: r, xs, h => by simp [strsD] at h
theorem sort_1 {K : PySem.W.Frag} : Un1 cl (relN cl) sortD (rSortedS K) := by
  intro W F H d v Q σ s r p
  unfold sortD at p
  split at p
  · split at p
    · rename_i xs hx
      split at p
      · rename_i hl
        obtain ⟨a, vs, rfl, rd, rl, z⟩ := r.lst' s
        refine ⟨a, xs, rfl, by rw [← strs_rep hx rl]; exact .inl rd, hl, fun ys p' perm so hp => ?_⟩
        have e : ys = sortS xs := sorted_unique (perm.trans sortS_perm.symm) (pairwise_of_sortedS so) sortS_sorted
        subst e
        exact PostG.new p s hp ⟨_, rfl, rep_strs _, by rw [List.length_map, sortS_perm.length_eq]; exact Nat.le_trans (Nat.le_of_lt hl) (by rw [sizeLine_eq]; omega)⟩
      · exact p.elim
    · exact p.elim
  · exact p.elim
end
end HL

namespace HL
open PySem PySem.Spec PyProof.Rows L2
section
variable {cl : Cl}
/-! ### what is one's own is changed -/
theorem HSt.writeOwn {F0 : Bs} {H0 F H : Hp} {env : HEnv} {σ : L2.St} (s : HSt cl F0 H0 F env σ H) {i : Nat} {d d' : D} {p : Addr} {u : HO} (he : env[i]? = some (.own d)) (hp : σ[i]? = some (some (.ref p))) (hf : F p = none) (h0 : H0 p = none) (ob : ObjD cl F d' u) (hm : mutD d' = true) :
    HSt cl F0 H0 F (env.set i (.own d')) σ (upd H p u) := by
  have hl : i < env.length := (List.getElem?_eq_some_iff.mp he).1
  have nn : ∀ (j : Nat) (e : D) (q : Addr), j ≠ i → env[j]?.bind oL = some e → σ[j]? = some (some (.ref q)) → q ≠ p := fun j e q hj h1 h2 z => by
    subst z
    exact hj (s.dis j i e d q h1 (oL_own he) h2 hp)
  refine ⟨by simp [s.len], sub_upd s.sub hf, ⟨s.kp.ext, fun b o e => ?_, s.kp.fr⟩, fun j e h => ?_, fun j e h => ?_, fun j e h => ?_, fun j k e g q h1 h2 h3 h4 => ?_⟩
  · rw [upd_ne (ne_of_none e h0)]
    exact s.kp.same b o e
  · by_cases hj : i = j
    · subst hj
      rw [List.getElem?_set_self hl] at h
      cases h
    · rw [List.getElem?_set_ne hj] at h
      exact s.val j e h
  · by_cases hj : i = j
    · subst hj
      rw [List.getElem?_set_self hl] at h
      cases h
      exact ⟨p, hp, hf, h0, u, upd_same, ob, hm⟩
    · rw [List.getElem?_set_ne hj] at h
      obtain ⟨q, a, b, c, w, hw, o, mu⟩ := s.own j e h
      exact ⟨q, a, b, c, w, by rw [upd_ne (nn j e q (Ne.symm hj) h a)]; exact hw, o, mu⟩
  · by_cases hj : i = j
    · subst hj
      rw [List.getElem?_set_self hl] at h
      cases h
    · rw [List.getElem?_set_ne hj] at h
      exact s.lnt j e h
  · have back : ∀ (j : Nat) (e : D), (env.set i (.own d'))[j]?.bind oL = some e → ∃ e', env[j]?.bind oL = some e' := fun j e h => by
      by_cases hj : i = j
      · subst hj
        exact ⟨d, oL_own he⟩
      · rw [List.getElem?_set_ne hj] at h
        exact ⟨e, h⟩
    obtain ⟨e', h1'⟩ := back j e h1
    obtain ⟨g', h2'⟩ := back k g h2
    exact s.dis j k e' g' q h1' h2' h3 h4
/-- own.m(e): the thing at slot i becomes f of it and of e -/
def mOwn1 (i : Nat) (ty : D → Bool) (f : D → D → R D) (m : HEnv → R D) : HEnv → SO := fun env => match env[i]? with
  | some (.own c) => if ty c = true then sB m (fun d env => match f c d with
    | .ok c' => .nx (env.set i (.own c'))
    | _ => .stuck) env else .stuck
  | _ => .stuck
/-- own.m() -/
def mOwn0 (i : Nat) (f : D → R D) : HEnv → SO := fun env => match env[i]? with
  | some (.own c) => match f c with
    | .ok c' => .nx (env.set i (.own c'))
    | _ => .stuck
  | _ => .stuck
def OwnR1 (cl : Cl) (f : D → D → R D) (r : V → List V → Hp → VK → Prop) : Prop := ∀ (F H : Hp) (p : Addr) (c d c' : D) (u : HO) (v : V) (Q : VK), Sub F H → H p = some u → ObjD cl F c u → BRep cl F H d v → f c d = .ok c' →
  (∀ u', ObjD cl F c' u' → mutD c' = true → Q .non (upd H p u')) → r (.ref p) [v] H Q
def tyL (T : String) : D → Bool
  | .lst _ => T == "list"
  | .dic _ _ => T == "dict"
  | _ => false
theorem tyV_own {K : PySem.W.Frag} {F H : Hp} {p : Addr} {c : D} {u : HO} {T : String} (h : H p = some u) (o : ObjD cl F c u) (ht : tyL T c = true) : tyV K T (.ref p) H := by
  cases c with
  | lst xs =>
    obtain ⟨vs, rfl, _⟩ := o
    have : T = "list" := by simpa [tyL] using ht
    exact .inl ⟨this, vs, .inl (.inl h)⟩
  | dic t ks =>
    have : T = "dict" := by simpa [tyL] using ht
    cases t with
    | false => obtain ⟨qs, rfl, _⟩ := o; exact .inr (.inr (.inl ⟨this, .inl ⟨qs, h⟩⟩))
    | true => obtain ⟨qs, rfl, _⟩ := o; exact .inr (.inr (.inl ⟨this, .inr ⟨qs, h⟩⟩))
  | _ => simp [tyL] at ht
section
variable {X : Cx} {W : WX} {o e : Expr} {pos apos cpos : Pos} {m : HEnv → R D}
theorem ds_own1 {T id : String} {name : Str} {r : V → List V → Hp → VK → Prop} {i : Nat} {f : D → D → R D} (pa : PlainAttrs T) (slot : PySem.Slot T name id) (hty : typeOf (.builtin id) = pure (.type "method_descriptor")) (hm : MtR X id r)
    (hr : OwnR1 cl f r) (ho : PE X o (tVar i)) (he : PE X e (tB cl W m)) (hs : swapsWith (.Call (.Attribute o name apos) [e] [] cpos) none pos.line X.env = pure false := by rfl)
    (h1 : attributeBase o name X.env (eval o X.env) = eval o X.env := by rfl)
    (h2 : (((backTo cpos (starEach (e :: []) X.env)).all (!·.1)) && (backToKw cpos (keywordEach [] X.env)).all (·.1.isSome) && decide ((e :: ([] : List Expr)).length + ([] : List Keyword).length + (if ([] : List Keyword).isEmpty = true then 0 else 1) < 30)) = true := by rfl)
    (h3 : (apos.endLine == cpos.line) = true := by rfl) (h4 : starEach (e :: []) X.env = (false, eval e X.env) :: starEach [] X.env := by rfl) (h5 : (backTo cpos (starEach [] X.env)).any (·.1) = false := by rfl) :
    PS X (.Expr (.Call (.Attribute o name apos) [e] [] cpos) pos) (tS cl W (mOwn1 i (tyL T) f m)) := by
  refine ps_weak (ps_expr (pe_bm pa slot hty hm ho (pa_cons he pa_nil h4) h1 h2 h3 h4 h5) hs) fun Dn σ H q => ?_
  obtain ⟨F0, H0, F, env, s, q⟩ := q
  unfold mOwn1 at q
  cases ei : env[i]? with
  | none => rw [ei] at q; exact q.elim
  | some sl =>
    rw [ei] at q
    cases sl with
    | no => exact q.elim
    | val c => exact q.elim
    | lent c => exact q.elim
    | own c =>
      simp only at q
      split at q
      case isFalse => exact q.elim
      rename_i ht
      obtain ⟨p, hp, hf, h0, u, hu, ob, mu⟩ := s.own i c (oL_own ei)
      refine ⟨.ref p, hp, tyV_own hu ob ht, ?_⟩
      have q' : tS cl W (sB m (fun d env => match f c d with
        | .ok c' => .nx (env.set i (.own c'))
        | _ => .stuck)) Dn σ H ∨ True := .inr trivial
      refine ⟨F0, H0, F, env, s, ?_⟩
      unfold sB at q
      cases em : m env with
      | er x =>
        rw [em] at q
        exact fun cls dd F' H' k s' r => q cls dd σ F' H' k.ext (s.step k s') r
      | stuck => rw [em] at q; exact q.elim
      | ok d =>
        rw [em] at q
        simp only at q
        cases ef : f c d with
        | er x => rw [ef] at q; exact q.elim
        | stuck => rw [ef] at q; exact q.elim
        | ok c' =>
          rw [ef] at q
          simp only at q
          intro v F' H' k s' r
          have st := s.step k s'
          refine hr F' H' p c d c' u v _ s' (k.same _ _ hu) (ob.ext k.ext) r ef fun u' o' mu' => ?_
          exact q σ F' _ k.ext (st.writeOwn ei hp (k.fr p u hu hf) h0 o' mu')
theorem ds_own0 {T id : String} {name : Str} {r : V → List V → Hp → VK → Prop} {i : Nat} {f : D → R D} (pa : PlainAttrs T) (slot : PySem.Slot T name id) (hty : typeOf (.builtin id) = pure (.type "method_descriptor")) (hm : MtR X id r)
    (hr : ∀ (F H : Hp) (p : Addr) (c c' : D) (u : HO) (Q : VK), Sub F H → H p = some u → ObjD cl F c u → f c = .ok c' → (∀ u', ObjD cl F c' u' → mutD c' = true → Q .non (upd H p u')) → r (.ref p) [] H Q)
    (hT : ∀ c c', f c = .ok c' → tyL T c = true) (ho : PE X o (tVar i)) (h1 : attributeBase o name X.env (eval o X.env) = eval o X.env := by rfl) (h3 : (apos.endLine == cpos.line) = true := by rfl)
    (hs : swapsWith (.Call (.Attribute o name apos) [] [] cpos) none pos.line X.env = pure false := by rfl) : PS X (.Expr (.Call (.Attribute o name apos) [] [] cpos) pos) (tS cl W (mOwn0 i f)) := by
  refine ps_weak (ps_expr (pe_bm0 pa slot hty hm ho h1 h3) hs) fun Dn σ H q => ?_
  obtain ⟨F0, H0, F, env, s, q⟩ := q
  unfold mOwn0 at q
  cases ei : env[i]? with
  | none => rw [ei] at q; exact q.elim
  | some sl =>
    rw [ei] at q
    cases sl with
    | no => exact q.elim
    | val c => exact q.elim
    | lent c => exact q.elim
    | own c =>
      simp only at q
      cases ef : f c with
      | er x => rw [ef] at q; exact q.elim
      | stuck => rw [ef] at q; exact q.elim
      | ok c' =>
        rw [ef] at q
        simp only at q
        obtain ⟨p, hp, hf, h0, u, hu, ob, mu⟩ := s.own i c (oL_own ei)
        refine ⟨.ref p, hp, tyV_own hu ob (hT _ _ ef), hr F H p c c' u _ s.sub hu ob ef fun u' o' mu' => ?_⟩
        exact q σ F _ (Ext.refl F) (s.writeOwn ei hp hf h0 o' mu')
end
/-- append, extend, clear, pop -/
def appD : D → D → R D
  | .lst ds, d => if ds.length < sizeLine then .ok (.lst (ds ++ [d])) else .stuck
  | _, _ => .stuck
/-- what is appended must stay -/
theorem ds_append {X : Cx} {W : WX} {o e : Expr} {pos apos cpos : Pos} {m : HEnv → R D} {i : Nat} (ho : PE X o (tVar i)) (he : PE X e (tF cl W m)) (hs : swapsWith (.Call (.Attribute o "append" apos) [e] [] cpos) none pos.line X.env = pure false := by rfl)
    (h1 : attributeBase o "append" X.env (eval o X.env) = eval o X.env := by rfl)
    (h2 : (((backTo cpos (starEach (e :: []) X.env)).all (!·.1)) && (backToKw cpos (keywordEach [] X.env)).all (·.1.isSome) && decide ((e :: ([] : List Expr)).length + ([] : List Keyword).length + (if ([] : List Keyword).isEmpty = true then 0 else 1) < 30)) = true := by rfl)
    (h3 : (apos.endLine == cpos.line) = true := by rfl) (h4 : starEach (e :: []) X.env = (false, eval e X.env) :: starEach [] X.env := by rfl) (h5 : (backTo cpos (starEach [] X.env)).any (·.1) = false := by rfl) :
    PS X (.Expr (.Call (.Attribute o "append" apos) [e] [] cpos) pos) (tS cl W (mOwn1 i (tyL "list") appD m)) := by
  refine ps_weak (ps_expr (pe_bm PySem.F.plainAttrs_list PySem.F.slot_list_append PySem.F.type_list_append mt_append ho (pa_cons he pa_nil h4) h1 h2 h3 h4 h5) hs) fun Dn σ H q => ?_
  obtain ⟨F0, H0, F, env, s, q⟩ := q
  unfold mOwn1 at q
  cases ei : env[i]? with
  | none => rw [ei] at q; exact q.elim
  | some sl =>
    rw [ei] at q
    cases sl with
    | no => exact q.elim
    | val c => exact q.elim
    | lent c => exact q.elim
    | own c =>
      simp only at q
      split at q
      case isFalse => exact q.elim
      rename_i ht
      obtain ⟨p, hp, hf, h0, u, hu, ob, mu⟩ := s.own i c (oL_own ei)
      refine ⟨.ref p, hp, tyV_own hu ob ht, ?_⟩
      refine ⟨F0, H0, F, env, s, ?_⟩
      unfold sB at q
      cases em : m env with
      | er x =>
        rw [em] at q
        exact fun cls dd F' H' k s' r => q cls dd σ F' H' k.ext (s.step k s') r
      | stuck => rw [em] at q; exact q.elim
      | ok d =>
        rw [em] at q
        simp only at q
        cases c with
        | lst ds =>
          simp only [appD] at q
          split at q
          · rename_i c' he
            split at he
            · rename_i hz
              cases he
              intro v F' H' k s' r
              obtain ⟨vs, rfl, rl, z⟩ := ob
              have hH := k.same _ _ hu
              refine ⟨p, vs, v, rfl, rfl, hH, by rw [rl.len]; exact hz, ?_⟩
              exact q σ F' _ k.ext ((s.step k s').writeOwn ei hp (k.fr p _ hu hf) h0 (d' := .lst (ds ++ [d])) ⟨_, rfl, (rl.ext k.ext).app (by simp only [RepL]; exact ⟨v, [], rfl, r, rfl⟩), by rw [List.length_append]; exact hz⟩ rfl)
            · cases he
          · exact q.elim
        | _ => exact q.elim
end
end HL

namespace HL
open PySem PySem.Spec PyProof.Rows L2

/-! ### comprehensions of two clauses -/
def comp2L (g : D → HEnv → R HEnv) (t : HEnv → R Bool) (src1 : HEnv → R (List D)) (vs1 : List Nat) (g1 : D → HEnv → R HEnv) (t1 : HEnv → R Bool) (el : HEnv → R D) (env : HEnv) : List D → R (List D)
  | [] => .ok []
  | d :: ds => match g d env with
    | .ok e1 => match t e1 with
      | .ok true => match src1 e1 with
        | .ok xs => match compL g1 t1 el (wipeE e1 vs1) xs with
          | .ok ys => match comp2L g t src1 vs1 g1 t1 el env ds with
            | .ok zs => .ok (ys ++ zs)
            | _ => .stuck
          | _ => .stuck
        | _ => .stuck
      | .ok false => comp2L g t src1 vs1 g1 t1 el env ds
      | _ => .stuck
    | _ => .stuck
/-- [el for g in src if t for g1 in src1 if t1] -/
def mComp2 (vs : List Nat) (src : HEnv → R (List D)) (g : D → HEnv → R HEnv) (t : HEnv → R Bool) (src1 : HEnv → R (List D)) (vs1 : List Nat) (g1 : D → HEnv → R HEnv) (t1 : HEnv → R Bool) (el : HEnv → R D) : HEnv → R D := fun env => (src env).bind fun ds =>
  match comp2L g t src1 vs1 g1 t1 el (wipeE env vs) ds with
  | .ok ys => if ys.length ≤ sizeLine then .ok (.lst ys) else .stuck
  | _ => .stuck
/-- a target hands out nothing of one's own -/
def GV (g : D → HEnv → R HEnv) : Prop := ∀ d env e, g d env = .ok e → ∀ (j : Nat) (x : D), e[j]?.bind oL = some x → env[j]?.bind oL = some x
theorem gv_name {i : Nat} : GV (gN i) := fun d env e h j x hx => by
  cases h
  by_cases hj : i = j
  · subst hj
    by_cases hl : i < env.length
    · rw [List.getElem?_set_self hl] at hx
      cases hx
    · rw [List.getElem?_eq_none (by simp; omega)] at hx
      cases hx
  · rwa [List.getElem?_set_ne hj] at hx
def GVs (g : List D → HEnv → R HEnv) : Prop := ∀ d env e, g d env = .ok e → ∀ (j : Nat) (x : D), e[j]?.bind oL = some x → env[j]?.bind oL = some x
theorem gvs_nil : GVs gsNil := fun d env e h j x hx => by
  cases d with
  | nil => cases h; exact hx
  | cons a b => cases h
theorem gvs_cons {g : D → HEnv → R HEnv} {gs : List D → HEnv → R HEnv} (h1 : GV g) (h2 : GVs gs) : GVs (gsCons g gs) := fun d env e h j x hx => by
  cases d with
  | nil => cases h
  | cons a b =>
    simp only [gsCons] at h
    cases eg : g a env with
    | ok e1 =>
      rw [eg] at h
      exact h1 _ _ _ eg j x (h2 _ _ _ h j x hx)
    | er y => rw [eg] at h; cases h
    | stuck => rw [eg] at h; cases h
theorem gv_tup {gs : List D → HEnv → R HEnv} (h1 : GVs gs) : GV (gTupD gs) := fun d env e h j x hx => by
  cases d with
  | tup ds => exact h1 _ _ _ h j x hx
  | _ => cases h
theorem wipeE_own {env : HEnv} {j : Nat} {e : D} : ∀ {vs : List Nat}, (wipeE env vs)[j]?.bind oL = some e → env[j]?.bind oL = some e ∧ j ∉ vs
  | [], h => ⟨h, by simp⟩
  | v :: vs, h => by
    unfold wipeE at h
    by_cases hj : v = j
    · subst hj
      by_cases hl : v < (wipeE env vs).length
      · rw [List.getElem?_set_self hl] at h
        cases h
      · rw [List.getElem?_eq_none (by simp; omega)] at h
        cases h
    · rw [List.getElem?_set_ne hj] at h
      obtain ⟨h1, h2⟩ := wipeE_own h
      exact ⟨h1, by simp only [List.mem_cons, not_or]; exact ⟨Ne.symm hj, h2⟩⟩
section
variable {X : Cx} {cl : Cl} {W : WX} {pos : Pos}
theorem read_comp2 {own : List (Str × Nat)} {src src1 : HEnv → R (List D)} {is is1 vs1 : List Nat} {g g1 : D → HEnv → R HEnv} {t t1 : HEnv → R Bool} {el : HEnv → R D} (hi : ∀ i ∈ is, i ∈ own.map (·.2)) (hi1 : ∀ i ∈ is1, i ∈ vs1) (hgv : GV g) {σ : L2.St} {H : Hp} {Q : VK}
    (q : tN cl W (mComp2 (own.map (·.2)) src g t src1 vs1 g1 t1 el) σ H Q) : tLc2 (tK cl W src) (tTg cl is g) (tT cl WNo t) (tI cl WNo src1) (tTg cl is1 g1) (tT cl WNo t1) (tF cl WNo el) (own.map (·.2)) vs1 σ H Q := by
  unfold mComp2 at q
  refine bindG (k := fun ds env => match comp2L g t src1 vs1 g1 t1 el (wipeE env (own.map (·.2))) ds with
    | .ok ys => if ys.length ≤ sizeLine then .ok (.lst ys) else .stuck
    | _ => .stuck) oldN q fun ds J F0 H0 F1 env Hs H1 s it p A hA => ?_
  have sw := s.wiped (own.map (·.2))
  generalize hew : wipeE env (own.map (·.2)) = envw at p sw
  cases ec : comp2L g t src1 vs1 g1 t1 el envw ds with
  | er x => rw [ec] at p; exact p.elim
  | stuck => rw [ec] at p; exact p.elim
  | ok ys =>
    rw [ec] at p
    replace p : PostG cl (relN cl) W (if ys.length ≤ sizeLine then R.ok (D.lst ys) else R.stuck) F1 σ H1 Q := p
    by_cases zys : ys.length ≤ sizeLine
    case neg => rw [if_neg zys] at p; exact p.elim
    rw [if_pos zys] at p
    have h0A : H0 A = none := s.kp.same.free hA
    have wn0 : ∀ (j : Nat) (e : D), envw[j]?.bind oL = some e → (wipe σ (own.map (·.2)))[j]? ≠ some (some (.ref A)) := fun j e h z => by
      obtain ⟨q, a, _, _, u, hu, _⟩ := sw.own j e h
      rw [a] at z
      cases z
      rw [hA] at hu
      cases hu
    refine ⟨fun i m H => m = ds.length - i ∧ i ≤ ds.length ∧ ∃ F2 acc vs zs, Kp F1 H1 F2 H ∧ HSt cl F0 H0 F2 envw (wipe σ (own.map (·.2))) H ∧ F2 A = none ∧ H A = some (.lst vs) ∧ RepL cl F2 acc vs ∧ comp2L g t src1 vs1 g1 t1 el envw (ds.drop i) = .ok zs ∧ acc ++ zs = ys,
      ⟨ds.length, by simp, Nat.zero_le _, F1, [], [], ys, kp_new hA, sw.other (sub_none s.sub hA) h0A wn0, sub_none s.sub hA, upd_same, by simp only [RepL], by simpa using ec, rfl⟩, fun i m H2 ⟨em, hi2, F2, acc, vs, zs, k2, s2, f2, e2, r2, c2, z2⟩ => ?_⟩
    subst em
    by_cases hl : i < ds.length
    · refine .inr ⟨it.go i _ F2 H2 (List.getElem?_eq_getElem hl) k2 s2.sub, fun H' => i + 1 ≤ ds.length ∧ ∃ F2 acc vs zs, Kp F1 H1 F2 H' ∧ HSt cl F0 H0 F2 envw (wipe σ (own.map (·.2))) H' ∧ F2 A = none ∧ H' A = some (.lst vs) ∧ RepL cl F2 acc vs ∧ comp2L g t src1 vs1 g1 t1 el envw (ds.drop (i + 1)) = .ok zs ∧ acc ++ zs = ys,
        fun H' ⟨h1, h2⟩ => ⟨ds.length - (i + 1), by omega, rfl, h1, h2⟩, fun x H' y => ?_⟩
      obtain ⟨F3, k3, s3, r3⟩ := it.yld i _ F2 H2 x H' (List.getElem?_eq_getElem hl) k2 s2.sub y
      refine ⟨F0, H0, F3, envw, _, s2.step k3 s3, r3, ?_⟩
      rw [List.drop_eq_getElem_cons hl] at c2
      simp only [comp2L] at c2
      cases eg : g ds[i] envw with
      | er x => simp only [eg] at c2; cases c2
      | stuck => simp only [eg] at c2; cases c2
      | ok e1 =>
        simp only [eg] at c2 ⊢
        intro σ4 s4 l4 n4
        refine ⟨wipe_eq (by rw [l4, wipe_length]) hi n4, ?_⟩
        refine ⟨F0, H0, F3, e1, s4, ?_⟩
        cases et : t e1 with
        | er x => simp only [et] at c2; cases c2
        | stuck => simp only [et] at c2; cases c2
        | ok c =>
          simp only [et] at c2
          intro c' F5 H5 k5 s5 ec'
          obtain rfl : c' = c := ec'
          have k25 : Kp F2 H2 F5 H5 := k3.trans k5
          cases c' with
          | false =>
            rw [if_neg (by decide)]
            exact ⟨hl, F5, acc, vs, zs, k2.trans k25, s2.step k25 s5, k25.fr A _ e2 f2, k25.same _ _ e2, r2.ext k25.ext, c2, z2⟩
          | true =>
            rw [if_pos rfl]
            simp only at c2
            refine ⟨F0, H0, F5, e1, s4.step k5 s5, ?_⟩
            cases es : src1 e1 with
            | er x => simp only [es] at c2; cases c2
            | stuck => simp only [es] at c2; cases c2
            | ok xs =>
              simp only [es] at c2
              cases ei : compL g1 t1 el (wipeE e1 vs1) xs with
              | er x => simp only [ei] at c2; cases c2
              | stuck => simp only [ei] at c2; cases c2
              | ok yi =>
                simp only [ei] at c2
                cases er : comp2L g t src1 vs1 g1 t1 el envw (ds.drop (i + 1)) with
                | er x => simp only [er] at c2; cases c2
                | stuck => simp only [er] at c2; cases c2
                | ok zs' =>
                  simp only [er] at c2
                  cases c2
                  intro J1 F6 H6 k6 s6 it1
                  have k26 : Kp F2 H2 F6 H6 := k25.trans k6
                  have f6 : F6 A = none := k26.fr A _ e2 f2
                  have e6 : H6 A = some (.lst vs) := k26.same _ _ e2
                  have s46 : HSt cl F0 H0 F6 e1 σ4 H6 := (s4.step k5 s5).step k6 s6
                  have sw1 := s46.wiped vs1
                  have wn1 : ∀ (j : Nat) (e : D), (wipeE e1 vs1)[j]?.bind oL = some e → (wipe σ4 vs1)[j]? ≠ some (some (.ref A)) := fun j e h => by
                    obtain ⟨h1, h2⟩ := wipeE_own h
                    have h3 := hgv _ _ _ eg j e h1
                    obtain ⟨_, h4⟩ := wipeE_own (by rw [hew]; exact h3)
                    rw [wipe_get h2, n4 j fun z => h4 (hi j z)]
                    exact wn0 j e h3
                  generalize wipeE e1 vs1 = ew1 at ei sw1 wn1
                  refine ⟨fun j k H => k = xs.length - j ∧ j ≤ xs.length ∧ ∃ F7 acc7 vs7 zs7, Kp F1 H1 F7 H ∧ Ext F6 F7 ∧ HSt cl F0 H0 F7 envw (wipe σ (own.map (·.2))) H ∧ HSt cl F0 H0 F7 ew1 (wipe σ4 vs1) H ∧ F7 A = none ∧ H A = some (.lst vs7) ∧ RepL cl F7 acc7 vs7 ∧ compL g1 t1 el ew1 (xs.drop j) = .ok zs7 ∧ acc7 ++ zs7 = acc ++ yi,
                    ⟨xs.length, by simp, Nat.zero_le _, F6, acc, vs, yi, k2.trans k26, Ext.refl _, s2.step k26 s6, sw1, f6, e6, r2.ext k26.ext, by simpa using ei, rfl⟩, fun j k H7 ⟨ek, hj, F7, acc7, vs7, zs7, k7, x7, s7, t7, f7, e7, r7, c7, z7⟩ => ?_⟩
                  subst ek
                  by_cases hlj : j < xs.length
                  · refine .inr ⟨it1.go j _ F7 H7 (List.getElem?_eq_getElem hlj) x7 s7.sub, fun H' => j + 1 ≤ xs.length ∧ ∃ F7 acc7 vs7 zs7, Kp F1 H1 F7 H' ∧ Ext F6 F7 ∧ HSt cl F0 H0 F7 envw (wipe σ (own.map (·.2))) H' ∧ HSt cl F0 H0 F7 ew1 (wipe σ4 vs1) H' ∧ F7 A = none ∧ H' A = some (.lst vs7) ∧ RepL cl F7 acc7 vs7 ∧ compL g1 t1 el ew1 (xs.drop (j + 1)) = .ok zs7 ∧ acc7 ++ zs7 = acc ++ yi,
                      fun H' ⟨h1, h2⟩ => ⟨xs.length - (j + 1), by omega, rfl, h1, h2⟩, fun x' H' y' => ?_⟩
                    obtain ⟨F8, k8, s8, r8⟩ := it1.yld j _ F7 H7 x' H' (List.getElem?_eq_getElem hlj) x7 s7.sub y'
                    refine ⟨F0, H0, F8, ew1, _, t7.step k8 s8, r8, ?_⟩
                    rw [List.drop_eq_getElem_cons hlj] at c7
                    simp only [compL] at c7
                    cases eg1 : g1 xs[j] ew1 with
                    | er x => simp only [eg1] at c7; cases c7
                    | stuck => simp only [eg1] at c7; cases c7
                    | ok e2' =>
                      simp only [eg1] at c7 ⊢
                      intro σ9 s9 l9 n9
                      refine ⟨wipe_eq (by rw [l9, wipe_length]) hi1 n9, ?_⟩
                      refine ⟨F0, H0, F8, e2', s9, ?_⟩
                      cases et1 : t1 e2' with
                      | er x => simp only [et1] at c7; cases c7
                      | stuck => simp only [et1] at c7; cases c7
                      | ok c =>
                        simp only [et1] at c7
                        intro c' F9 H9 k9 s9' ec'
                        obtain rfl : c' = c := ec'
                        have k89 : Kp F7 H7 F9 H9 := k8.trans k9
                        cases c' with
                        | false =>
                          rw [if_neg (by decide)]
                          exact ⟨hlj, F9, acc7, vs7, zs7, k7.trans k89, x7.trans k89.ext, s7.step k89 s9', t7.step k89 s9', k89.fr A _ e7 f7, k89.same _ _ e7, r7.ext k89.ext, c7, z7⟩
                        | true =>
                          rw [if_pos rfl]
                          simp only at c7
                          refine ⟨F0, H0, F9, e2', s9.step k9 s9', ?_⟩
                          cases ee : el e2' with
                          | er x => simp only [ee] at c7; cases c7
                          | stuck => simp only [ee] at c7; cases c7
                          | ok yd =>
                            simp only [ee] at c7
                            cases er' : compL g1 t1 el ew1 (xs.drop (j + 1)) with
                            | er x => simp only [er'] at c7; cases c7
                            | stuck => simp only [er'] at c7; cases c7
                            | ok zs8 =>
                              simp only [er'] at c7
                              cases c7
                              intro v FA HA kA sA rA
                              have kk : Kp F7 H7 FA HA := k89.trans kA
                              have fA : FA A = none := kk.fr A _ e7 f7
                              refine ⟨vs7, kk.same _ _ e7, ?_, ?_⟩
                              · rw [r7.len]
                                have h1 := congrArg List.length z7
                                have h2 := congrArg List.length z2
                                simp only [List.length_append, List.length_cons] at h1 h2
                                omega
                              · refine ⟨hlj, FA, acc7 ++ [yd], vs7 ++ [v], zs8, ⟨(k7.trans kk).ext, fun b o e => ?_, (k7.trans kk).fr⟩, x7.trans kk.ext, (s7.step kk sA).other fA h0A wn0, (t7.step kk sA).other fA h0A wn1, fA, upd_same, (r7.ext kk.ext).app (by simp only [RepL]; exact ⟨v, [], rfl, rA, rfl⟩), rfl, by simp [← z7]⟩
                                rw [upd_ne (ne_of_none e hA)]
                                exact (k7.trans kk).same b o e
                  · have ej : j = xs.length := by omega
                    subst ej
                    refine .inl ⟨it1.stop F7 H7 x7 s7.sub, ?_⟩
                    simp only [List.drop_length, compL] at c7
                    cases c7
                    rw [List.append_nil] at z7
                    exact ⟨hl, F7, acc7, vs7, zs', k7, s7, f7, e7, r7, rfl, by rw [z7, ← z2, List.append_assoc]⟩
    · have e : i = ds.length := by omega
      subst e
      refine .inl ⟨it.stop F2 H2 k2 s2.sub, ?_⟩
      simp only [List.drop_length, comp2L] at c2
      cases c2
      rw [List.append_nil] at z2
      subst z2
      exact p _ F2 H2 k2 s2.sub ⟨A, rfl, hA, f2, _, e2, ⟨vs, rfl, r2, zys⟩, rfl⟩
end
end HL
namespace HL
open PySem PySem.Spec PyProof.Rows L2
section
variable {X : Cx} {cl : Cl} {W : WX} {pos : Pos}
theorem dn_comp2 {elt tg iter tg1 iter1 : Expr} {ifs ifs1 : List Expr} {scope : Scope} {own : List (Str × Nat)} {src src1 : HEnv → R (List D)} {is is1 vs1 : List Nat} {g g1 : D → HEnv → R HEnv} {t t1 : HEnv → R Bool} {el : HEnv → R D} (hc : X.calm = true) (hN : X.N.Nodup) (hi : PI X tg iter (tK cl W src))
    (ok : BlkOk X.N X.env.scope scope own) (hin : ∀ i ∈ is, i ∈ own.map (·.2)) (hv : ∀ i ∈ vs1, i ∈ own.map (·.2)) (hin1 : ∀ i ∈ is1, i ∈ vs1) (hgv : GV g) (hg : ∀ (s : Shared) (H : Hp) (C : Addr) (c : List (Str × Addr)) (fp : List Addr), PG (X.blk s H scope (compEnvC scope c C X.env) fp) tg (tTg cl is g))
    (ht : ∀ (s : Shared) (H : Hp) (C : Addr) (c : List (Str × Addr)) (fp : List Addr), PTs (X.blk s H scope (compEnvC scope c C X.env) fp) ifs (tT cl WNo t))
    (hi1 : ∀ (s : Shared) (H : Hp) (C : Addr) (c : List (Str × Addr)) (fp : List Addr), PI (X.blk s H scope (compEnvC scope c C X.env) fp) tg1 iter1 (tI cl WNo src1))
    (hg1 : ∀ (s : Shared) (H : Hp) (C : Addr) (c : List (Str × Addr)) (fp : List Addr), PG (X.blk s H scope (compEnvC scope c C X.env) fp) tg1 (tTg cl is1 g1))
    (ht1 : ∀ (s : Shared) (H : Hp) (C : Addr) (c : List (Str × Addr)) (fp : List Addr), PTs (X.blk s H scope (compEnvC scope c C X.env) fp) ifs1 (tT cl WNo t1))
    (he : ∀ (s : Shared) (H : Hp) (C : Addr) (c : List (Str × Addr)) (fp : List Addr), PE (X.blk s H scope (compEnvC scope c C X.env) fp) elt (tF cl WNo el)) (hs : ∀ x, foldedSetIterable iter X.env x = pure x := by intro _; rfl) (hs1 : ∀ env x, foldedSetIterable iter1 env x = pure x := by intro _ _; rfl) :
    PE X (.ListComp elt [⟨tg, iter, ifs, 0⟩, ⟨tg1, iter1, ifs1, 0⟩] scope pos) (tN cl W (mComp2 (own.map (·.2)) src g t src1 vs1 g1 t1 el)) := pe_weak (pe_lc2 hc hN hi ok hv hg ht hi1 hg1 ht1 he hs hs1) fun σ H Q q => read_comp2 hin hin1 hgv q
theorem ds_setLc2 {i : Nat} {y : Str} {py : Pos} {spos : Pos} {elt tg iter tg1 iter1 : Expr} {ifs ifs1 : List Expr} {scope : Scope} {own : List (Str × Nat)} {src src1 : HEnv → R (List D)} {is is1 vs1 : List Nat} {g g1 : D → HEnv → R HEnv} {t t1 : HEnv → R Bool} {el : HEnv → R D} (hc : X.calm = true) (hN : X.N.Nodup)
    (hy : X.N[i]? = some y) (hyl : X.env.scope.names.lookup y = some .local) (hsw : swapsWith (.ListComp elt [⟨tg, iter, ifs, 0⟩, ⟨tg1, iter1, ifs1, 0⟩] scope pos) (some (.Name y py)) spos.line X.env = pure true) (hi : PI X tg iter (tK cl W src))
    (ok : BlkOk X.N X.env.scope scope own) (hin : ∀ i ∈ is, i ∈ own.map (·.2)) (hv : ∀ i ∈ vs1, i ∈ own.map (·.2)) (hin1 : ∀ i ∈ is1, i ∈ vs1) (hgv : GV g) (hg : ∀ (s : Shared) (H : Hp) (C : Addr) (c : List (Str × Addr)) (fp : List Addr), PG (X.blk s H scope (compEnvC scope c C X.env) fp) tg (tTg cl is g))
    (ht : ∀ (s : Shared) (H : Hp) (C : Addr) (c : List (Str × Addr)) (fp : List Addr), PTs (X.blk s H scope (compEnvC scope c C X.env) fp) ifs (tT cl WNo t))
    (hi1 : ∀ (s : Shared) (H : Hp) (C : Addr) (c : List (Str × Addr)) (fp : List Addr), PI (X.blk s H scope (compEnvC scope c C X.env) fp) tg1 iter1 (tI cl WNo src1))
    (hg1 : ∀ (s : Shared) (H : Hp) (C : Addr) (c : List (Str × Addr)) (fp : List Addr), PG (X.blk s H scope (compEnvC scope c C X.env) fp) tg1 (tTg cl is1 g1))
    (ht1 : ∀ (s : Shared) (H : Hp) (C : Addr) (c : List (Str × Addr)) (fp : List Addr), PTs (X.blk s H scope (compEnvC scope c C X.env) fp) ifs1 (tT cl WNo t1))
    (he : ∀ (s : Shared) (H : Hp) (C : Addr) (c : List (Str × Addr)) (fp : List Addr), PE (X.blk s H scope (compEnvC scope c C X.env) fp) elt (tF cl WNo el)) (hs : ∀ x, foldedSetIterable iter X.env x = pure x := by intro _; rfl) (hs1 : ∀ env x, foldedSetIterable iter1 env x = pure x := by intro _ _; rfl) :
    PS X (.Assign [.Name y py] (.ListComp elt [⟨tg, iter, ifs, 0⟩, ⟨tg1, iter1, ifs1, 0⟩] scope pos) spos) (tS cl W (mSetN i (mComp2 (own.map (·.2)) src g t src1 vs1 g1 t1 el))) := by
  refine ps_weak (ps_setLc2 hc hN hy hyl hsw hi ok hv hg ht hi1 hg1 ht1 he hs hs1) fun Dn σ H q => ?_
  exact read_comp2 (Q := fun x H1 => gName i x σ H1 Dn.nx) hin hin1 hgv (read_setN q)
theorem ds_setLc2F {i : Nat} {y : Str} {py : Pos} {spos : Pos} {elt tg iter tg1 iter1 : Expr} {ifs ifs1 : List Expr} {scope : Scope} {own : List (Str × Nat)} {src src1 : HEnv → R (List D)} {is is1 vs1 : List Nat} {g g1 : D → HEnv → R HEnv} {t t1 : HEnv → R Bool} {el : HEnv → R D} (hc : X.calm = true) (hN : X.N.Nodup)
    (hy : X.N[i]? = some y) (hyl : X.env.scope.names.lookup y = some .local) (hsw : swapsWith (.ListComp elt [⟨tg, iter, ifs, 0⟩, ⟨tg1, iter1, ifs1, 0⟩] scope pos) (some (.Name y py)) spos.line X.env = pure true) (hi : PI X tg iter (tK cl W src))
    (ok : BlkOk X.N X.env.scope scope own) (hin : ∀ i ∈ is, i ∈ own.map (·.2)) (hv : ∀ i ∈ vs1, i ∈ own.map (·.2)) (hin1 : ∀ i ∈ is1, i ∈ vs1) (hgv : GV g) (hg : ∀ (s : Shared) (H : Hp) (C : Addr) (c : List (Str × Addr)) (fp : List Addr), PG (X.blk s H scope (compEnvC scope c C X.env) fp) tg (tTg cl is g))
    (ht : ∀ (s : Shared) (H : Hp) (C : Addr) (c : List (Str × Addr)) (fp : List Addr), PTs (X.blk s H scope (compEnvC scope c C X.env) fp) ifs (tT cl WNo t))
    (hi1 : ∀ (s : Shared) (H : Hp) (C : Addr) (c : List (Str × Addr)) (fp : List Addr), PI (X.blk s H scope (compEnvC scope c C X.env) fp) tg1 iter1 (tI cl WNo src1))
    (hg1 : ∀ (s : Shared) (H : Hp) (C : Addr) (c : List (Str × Addr)) (fp : List Addr), PG (X.blk s H scope (compEnvC scope c C X.env) fp) tg1 (tTg cl is1 g1))
    (ht1 : ∀ (s : Shared) (H : Hp) (C : Addr) (c : List (Str × Addr)) (fp : List Addr), PTs (X.blk s H scope (compEnvC scope c C X.env) fp) ifs1 (tT cl WNo t1))
    (he : ∀ (s : Shared) (H : Hp) (C : Addr) (c : List (Str × Addr)) (fp : List Addr), PE (X.blk s H scope (compEnvC scope c C X.env) fp) elt (tF cl WNo el)) (hs : ∀ x, foldedSetIterable iter X.env x = pure x := by intro _; rfl) (hs1 : ∀ env x, foldedSetIterable iter1 env x = pure x := by intro _ _; rfl) :
    PS X (.Assign [.Name y py] (.ListComp elt [⟨tg, iter, ifs, 0⟩, ⟨tg1, iter1, ifs1, 0⟩] scope pos) spos) (tS cl W (mSet i (mComp2 (own.map (·.2)) src g t src1 vs1 g1 t1 el))) := by
  refine ps_weak (ps_setLc2 hc hN hy hyl hsw hi ok hv hg ht hi1 hg1 ht1 he hs hs1) fun Dn σ H q => ?_
  exact read_comp2 (Q := fun x H1 => gName i x σ H1 Dn.nx) hin hin1 hgv (nf_read (read_set q))

/-! ### a module's constant -/
theorem d_glob {x : Str} {d : D} {v : V} {u : Value} (hg : Gl X x) (hm : X.mg x = some u) (r : RelV v u) (hv : vD d = some v := by rfl) (hd : (x == ("__debug__" : Str)) = false := by decide) : PE X (.Name x pos) (tF cl W (mC d)) := d_c (pe_glob hg hm r hd) hv

/-! ### calls of defs -/
/-- what is known of a def, by its name: n parameters, no defaults; f what it answers -/
structure Df (P : Program) (w : World) (K : PySem.W.Frag) (mg : Str → Option Value) (base : Heap) (cl : Cl) (k : Nat) (x : Str) (n : Nat) (f : List D → R (Bool × D)) : Prop where
  ex : ∃ (fa : Addr) (fd : FuncData) (ps : List Str), FnOk P w K mg base (L2.CX P w) k fa fd ps (spD cl n f) ∧ mg x = some (.ref fa) ∧ PySem.W.keepIn K (.ref fa) = true ∧ Binds K fd ps []
def mCall (f : List D → R (Bool × D)) (ms : HEnv → R (List D)) : HEnv → R D := fun env => (ms env).bind fun ds => (f ds).bind fun r => .ok r.2
def mCallN (f : List D → R (Bool × D)) (ms : HEnv → R (List D)) : HEnv → R D := fun env => (ms env).bind fun ds => (f ds).bind fun r => if r.1 = true then .ok r.2 else .stuck
variable {k n : Nat} {f : List D → R (Bool × D)} {x : Str} {p : Pos} {e : Expr} {es : List Expr} {ms : HEnv → R (List D)}
theorem call_len_n {ds : List D} {vs : List V} {F : Hp} {c : Nat} (r : RepL cl F ds vs) (h : ds.length = c) : vs.length = c := by rw [r.len]; exact h
theorem read_call {rel : Rel D V} {gg : Bool × D → R D} (ho : Old rel) (hn : Ln ms n) (hr : ∀ (Hs F1 H1 F' H' : Hp) (r : Bool × D) (d : D) (v : V), gg r = .ok d → Kp F1 H1 F' H' → Sub F' H' → RetR cl H1 F' H' r.1 r.2 v → ∃ F2, Kp F1 H1 F2 H' ∧ Sub F2 H' ∧ rel H1 F2 H' d v)
    (hne : ∀ r e, gg r ≠ .er e) {σ : L2.St} {H : Hp} {Q : VK} (q : tG cl rel W (fun env => (ms env).bind fun ds => (f ds).bind gg) σ H Q) : tCallS (spD cl n f) (WE W) (tA cl W ms) σ H Q := by
  obtain ⟨F0, H0, F, env, s, q⟩ := q
  refine ⟨F0, H0, F, env, s, ?_⟩
  replace q : PostG cl rel W ((ms env).bind fun ds => (f ds).bind gg) F σ H Q := q
  cases em : ms env with
  | er y => rw [em] at q; exact q
  | stuck => rw [em] at q; exact q.elim
  | ok ds =>
    rw [em] at q
    simp only [R.bind_ok] at q
    intro vs F1 H1 k1 s1 r1
    have hl := hn.len em
    refine ⟨call_len_n r1 hl, F1, ds, s1, r1, ?_⟩
    have q1 := PostG.step ho q k1
    cases ef : f ds with
    | er y => rw [ef] at q1; exact q1
    | stuck => rw [ef] at q1; exact q1.elim
    | ok r =>
      rw [ef] at q1
      simp only [R.bind_ok] at q1
      intro v F' H' k' s' rr
      cases eg : gg r with
      | er y => exact (hne _ _ eg).elim
      | stuck => rw [eg] at q1; exact q1.elim
      | ok d =>
        rw [eg] at q1
        obtain ⟨F2, k2, s2, r2⟩ := hr H F1 H1 F' H' r d v eg k' s' rr
        exact q1 v F2 H' k2 s2 r2
theorem ret_frz {F1 H1 F' H' : Hp} {o : Bool} {d : D} {v : V} (k' : Kp F1 H1 F' H') (s' : Sub F' H') (rr : RetR cl H1 F' H' o d v) : ∃ F2, Kp F1 H1 F2 H' ∧ Sub F2 H' ∧ Rep cl F2 d v := by
  cases o with
  | false => exact ⟨F', k', s', by simpa [RetR] using rr⟩
  | true =>
    obtain ⟨p, rfl, h0, hf, ho⟩ : relN cl H1 F' H' d v := by simpa [RetR] using rr
    obtain ⟨F2, _, k2, s2, r2, _⟩ := freeze k' s' h0 hf ho
    exact ⟨F2, k2, s2, r2⟩
/-- f(e, ..) -/
theorem d_call (F : Df X.prog X.w X.K X.mg X.base cl k x n f) (hr : Room k X.A) (tk : Takes X W) (hg : Gl X x) (ha : PA X (e :: es) (tA cl W ms)) (hn : Ln ms n := by repeat constructor)
    (hdb : (x == ("__debug__" : Str)) = false := by decide) (he : starEach (e :: es) X.env = (false, eval e X.env) :: starEach es X.env := by rfl) (hpl : (backTo pos (starEach es X.env)).any (·.1) = false := by rfl) :
    PE X (.Call (.Name x p) (e :: es) [] pos) (tF cl W (mCall f ms)) := by
  obtain ⟨fa, fd, ps, hF, hm, hk, hb⟩ := F.ex
  refine pe_weak (pe_callS hF hr hg hm hk hb (fun σ => passAt tk σ) ha hdb he hpl) fun σ H Q q => ?_
  refine read_call (gg := fun r => .ok r.2) (rel := relF cl) oldF hn (fun Hs F1 H1 F' H' r d v eg k' s' rr => ?_) (fun _ _ z => nomatch z) q
  cases eg
  exact ret_frz k' s' rr
theorem dn_call (F : Df X.prog X.w X.K X.mg X.base cl k x n f) (hr : Room k X.A) (tk : Takes X W) (hg : Gl X x) (ha : PA X (e :: es) (tA cl W ms)) (hn : Ln ms n := by repeat constructor)
    (hdb : (x == ("__debug__" : Str)) = false := by decide) (he : starEach (e :: es) X.env = (false, eval e X.env) :: starEach es X.env := by rfl) (hpl : (backTo pos (starEach es X.env)).any (·.1) = false := by rfl) :
    PE X (.Call (.Name x p) (e :: es) [] pos) (tN cl W (mCallN f ms)) := by
  obtain ⟨fa, fd, ps, hF, hm, hk, hb⟩ := F.ex
  refine pe_weak (pe_callS hF hr hg hm hk hb (fun σ => passAt tk σ) ha hdb he hpl) fun σ H Q q => ?_
  refine read_call (gg := fun r => if r.1 = true then .ok r.2 else .stuck) (rel := relN cl) oldN hn (fun Hs F1 H1 F' H' r d v eg k' s' rr => ?_) (fun r e z => by split at z <;> cases z) q
  split at eg
  · rename_i h
    cases eg
    rw [h] at rr
    exact ⟨F', k', s', by simpa [RetR] using rr⟩
  · cases eg
/-- x = f(..), return f(..): own or not, as f says -/
def relX (cl : Cl) : Rel (Bool × D) V := fun Hs F H r v => RetR cl Hs F H r.1 r.2 v
def mCallX (f : List D → R (Bool × D)) (ms : HEnv → R (List D)) : HEnv → R (Bool × D) := fun env => (ms env).bind f
theorem oldX : Old (relX cl) := fun H H1 F' H' d v k h => by
  unfold relX RetR at h ⊢
  split at h
  · rename_i e
    rw [if_pos e]
    exact oldN _ _ _ _ _ _ k h
  · rename_i e
    rw [if_neg e]
    exact h
abbrev tX (cl : Cl) (W : WX) (m : HEnv → R (Bool × D)) : TE := tG cl (relX cl) W m
theorem dx_call (F : Df X.prog X.w X.K X.mg X.base cl k x n f) (hr : Room k X.A) (tk : Takes X W) (hg : Gl X x) (ha : PA X (e :: es) (tA cl W ms)) (hn : Ln ms n := by repeat constructor)
    (hdb : (x == ("__debug__" : Str)) = false := by decide) (he : starEach (e :: es) X.env = (false, eval e X.env) :: starEach es X.env := by rfl) (hpl : (backTo pos (starEach es X.env)).any (·.1) = false := by rfl) :
    PE X (.Call (.Name x p) (e :: es) [] pos) (tX cl W (mCallX f ms)) := by
  obtain ⟨fa, fd, ps, hF, hm, hk, hb⟩ := F.ex
  refine pe_weak (pe_callS hF hr hg hm hk hb (fun σ => passAt tk σ) ha hdb he hpl) fun σ H Q q => ?_
  obtain ⟨F0, H0, F, env, s, q⟩ := q
  refine ⟨F0, H0, F, env, s, ?_⟩
  unfold mCallX at q
  cases em : ms env with
  | er y => rw [em] at q; exact q
  | stuck => rw [em] at q; exact q.elim
  | ok ds =>
    rw [em] at q
    simp only [R.bind_ok] at q
    intro vs F1 H1 k1 s1 r1
    refine ⟨call_len_n r1 (hn.len em), F1, ds, s1, r1, ?_⟩
    have q1 := PostG.step oldX q k1
    cases ef : f ds with
    | er y => rw [ef] at q1; exact q1
    | stuck => rw [ef] at q1; exact q1.elim
    | ok r =>
      rw [ef] at q1
      exact q1
def mSetX (i : Nat) (m : HEnv → R (Bool × D)) : HEnv → SO := sB m fun r env => .nx (env.set i (if r.1 = true then .own r.2 else .val r.2))
def mRetX (m : HEnv → R (Bool × D)) : HEnv → SO := sB m fun r _ => .rt r.1 r.2
theorem ds_setX {i : Nat} {y : Str} {e : Expr} {m : HEnv → R (Bool × D)} {pos' : Pos} (hN : X.N.Nodup) (hi : X.N[i]? = some y) (hx : Loc X.env.scope y) (he : PE X e (tX cl W m)) (hs : swapsWith e (some (.Name y pos')) pos.line X.env = pure false := by rfl)
    (hf : X.fn y = true ∨ X.env.scope.names.lookup y = some .local := by first | exact .inl rfl | exact .inr rfl | assumption) : PS X (.Assign [.Name y pos'] e pos) (tS cl W (mSetX i m)) :=
  ps_weak (ps_set hN hi hx he hs hf) fun Dn σ H q => stB q fun d v F0 H0 F env Hs H1 s0 F1 kp s r p => by
    obtain ⟨o, d⟩ := d
    cases o with
    | false => exact HSt.get (W := W) (s.set (show Rep cl F1 d v by simpa [relX, RetR] using r)) p
    | true =>
      obtain ⟨a, rfl, h1, h2, h3⟩ : relN cl Hs F1 H1 d v := by simpa [relX, RetR] using r
      exact HSt.get (W := W) (s.setOwn h2 (s0.kp.same.free h1) h3 fun j e _ h => s0.newOwn h1 j e h) p
theorem ds_retX {e : Expr} {m : HEnv → R (Bool × D)} (he : PE X e (tX cl W m)) : PS X (.Return (some e) pos) (tS cl W (mRetX m)) :=
  ps_weak (ps_ret he) fun Dn σ H q => stB (α := Bool × D) (k := fun r _ => .rt r.1 r.2) q fun d v F0 H0 F env Hs H1 s0 F1 kp s r p => p v F1 H1 s.kp s.sub (by
    unfold relX RetR at r
    unfold RetR
    split at r
    · rename_i e
      rw [if_pos e]
      exact oldN _ _ _ _ _ _ s0.kp.same r
    · rename_i e
      rw [if_neg e]
      exact r)

/-! ### truth, not, and, or -/
def truD : D → R Bool
  | .non => .ok false
  | .bl b => .ok b
  | .int i => .ok (i != 0)
  | .str y => if y.length ≤ sizeLine then .ok ((y.length : Int) != 0) else .stuck
  | .tup xs => .ok (!xs.isEmpty)
  | .lst xs => .ok (!xs.isEmpty)
  | _ => .stuck
theorem isEmpty_rep {F : Hp} : ∀ {ds : List D} {vs : List V}, RepL cl F ds vs → (!vs.isEmpty) = !ds.isEmpty
  | [], vs, h => by simp only [RepL] at h; rw [h]; rfl
  | d :: ds, vs, h => by
    simp only [RepL] at h
    obtain ⟨v, r, rfl, _, _⟩ := h
    rfl
theorem dt_truth {a : Expr} {m : HEnv → R D} (ha : PE X a (tB cl W m)) (he : ∀ whole, isTrue a X.env whole = (do let v ← whole; standAt a.pos; holding [v] (truthy v)) := by intro _; rfl) : PT X a (tT cl W (m1 truD m)) := by
  refine pt_weak (pt_truth ha he) fun σ H Q q => ?_
  refine read1 (rel := relB cl) (r := fun x H1 Q => ∃ k, TruV X.K x H1 k ∧ Q k H1) oldT (fun Hs F H d v Q σ s r p => ?_) q
  cases d with
  | non => exact ⟨false, by rw [BRep.non r]; rfl, PostG.done p s rfl⟩
  | bl b => exact ⟨b, by rw [BRep.bl r]; rfl, PostG.done p s rfl⟩
  | int i => exact ⟨_, by rw [BRep.int r]; rfl, PostG.done p s rfl⟩
  | str y =>
    simp only [truD] at p
    split at p
    · rename_i h
      exact ⟨_, by rw [BRep.str r]; exact ⟨h, rfl⟩, PostG.done p s rfl⟩
    · exact p.elim
  | tup xs =>
    obtain ⟨a, vs, rfl, h1, l1, z1⟩ := BRep.tup' r s
    exact ⟨_, .inr (.inl ⟨vs, .inl h1, rfl⟩), PostG.done p s (isEmpty_rep l1)⟩
  | lst xs =>
    obtain ⟨a, vs, rfl, h1, l1, z1⟩ := BRep.lst' r s
    exact ⟨_, .inl ⟨vs, .inl h1, rfl⟩, PostG.done p s (isEmpty_rep l1)⟩
  | _ => exact p.elim
def mNotT (t : HEnv → R Bool) : HEnv → R Bool := m1 (fun c => .ok (!c)) t
def mAndT (t u : HEnv → R Bool) : HEnv → R Bool := fun env => (t env).bind fun c => if c = true then u env else .ok false
def mOrT (t u : HEnv → R Bool) : HEnv → R Bool := fun env => (t env).bind fun c => if c = true then .ok true else u env
variable {a b : Expr} {rest : List Expr} {ta tb : HEnv → R Bool}
theorem dt_not (h : PT X a (tT cl W ta)) : PT X (.UnaryOp .Not a pos) (tT cl W (mNotT ta)) := by
  refine pt_weak (pt_not h) fun σ H Q q => ?_
  exact read1 (rel := relT) (r := fun c H1 Q => Q (!c) H1) oldT (fun Hs F H d v Q σ s r p => by cases r; exact PostG.done p s rfl) q
theorem tT_at {t : HEnv → R Bool} {F0 : Bs} {H0 F1 H1 : Hp} {env : HEnv} {σ : L2.St} {Q : Bool → Hp → Prop} (s : HSt cl F0 H0 F1 env σ H1) (p : PostG cl relT W (t env) F1 σ H1 Q) : tT cl W t σ H1 Q := ⟨F0, H0, F1, env, s, p⟩
theorem read_and {σ : L2.St} {H : Hp} {Q : Bool → Hp → Prop} (q : tT cl W (mAndT ta tb) σ H Q) : tAnd (tT cl W ta) (tT cl W tb) σ H Q := by
  refine bindG (k := fun c env => if c = true then tb env else .ok false) oldT q fun c v F0 H0 F1 env Hs H1 s r p => ?_
  obtain rfl : v = c := r
  cases v with
  | true => rw [if_pos rfl]; exact tT_at s p
  | false => rw [if_neg (by decide)]; exact PostG.done (rel := relT) p s.sub rfl
theorem read_or {σ : L2.St} {H : Hp} {Q : Bool → Hp → Prop} (q : tT cl W (mOrT ta tb) σ H Q) : tOr (tT cl W ta) (tT cl W tb) σ H Q := by
  refine bindG (k := fun c env => if c = true then .ok true else tb env) oldT q fun c v F0 H0 F1 env Hs H1 s r p => ?_
  obtain rfl : v = c := r
  cases v with
  | true => rw [if_pos rfl]; exact PostG.done (rel := relT) p s.sub rfl
  | false => rw [if_neg (by decide)]; exact tT_at s p
theorem dw_and1 (h : PT X a (tT cl W ta)) : PW X (.BoolOp .And [a] pos) (tT cl W ta) := pw_and1 h
theorem dw_or1 (h : PT X a (tT cl W ta)) : PW X (.BoolOp .Or [a] pos) (tT cl W ta) := pw_or1 h
theorem dw_and (h : PT X a (tT cl W ta)) (hr : PW X (.BoolOp .And (b :: rest) pos) (tT cl W tb)) : PW X (.BoolOp .And (a :: b :: rest) pos) (tT cl W (mAndT ta tb)) := pw_weak (pw_and h hr) fun σ H Q q => read_and q
theorem dw_or (h : PT X a (tT cl W ta)) (hr : PW X (.BoolOp .Or (b :: rest) pos) (tT cl W tb)) : PW X (.BoolOp .Or (a :: b :: rest) pos) (tT cl W (mOrT ta tb)) := pw_weak (pw_or h hr) fun σ H Q q => read_or q
/-- .. as values: bools -/
def mAndV (ma mb : HEnv → R D) : HEnv → R D := fun env => (ma env).bind fun d => (truB d).bind fun c => if c = true then mb env else .ok (.bl false)
def mOrV (ma mb : HEnv → R D) : HEnv → R D := fun env => (ma env).bind fun d => (truB d).bind fun c => if c = true then .ok (.bl true) else mb env
def notD : D → R D
  | .bl b => .ok (.bl (!b))
  | _ => .stuck
variable {ma mb : HEnv → R D}
theorem de_one {op} (h : PE X a (tF cl W ma)) : PE X (.BoolOp op [a] pos) (tF cl W ma) := pe_one h
theorem tF_at {m : HEnv → R D} {F0 : Bs} {H0 F1 H1 : Hp} {env : HEnv} {σ : L2.St} {Q : VK} (s : HSt cl F0 H0 F1 env σ H1) (p : PostG cl (relF cl) W (m env) F1 σ H1 Q) : tF cl W m σ H1 Q := ⟨F0, H0, F1, env, s, p⟩
theorem de_and (h : PE X a (tF cl W ma)) (hr : PE X (.BoolOp .And (b :: rest) pos) (tF cl W mb)) : PE X (.BoolOp .And (a :: b :: rest) pos) (tF cl W (mAndV ma mb)) := by
  refine pe_weak (pe_and h hr) fun σ H Q q => ?_
  refine bindG (k := fun d env => (truB d).bind fun c => if c = true then mb env else .ok (.bl false)) oldF q fun d v F0 H0 F1 env Hs H1 s r p => ?_
  cases d with
  | bl c =>
    refine ⟨c, RepIn.bl r, ?_⟩
    cases c with
    | true => rw [if_pos rfl]; exact tF_at s p
    | false => rw [if_neg (by decide)]; exact PostG.done (rel := relF cl) p s.sub (by simp only [relF, Rep])
  | _ => exact p.elim
theorem de_or (h : PE X a (tF cl W ma)) (hr : PE X (.BoolOp .Or (b :: rest) pos) (tF cl W mb)) : PE X (.BoolOp .Or (a :: b :: rest) pos) (tF cl W (mOrV ma mb)) := by
  refine pe_weak (pe_or h hr) fun σ H Q q => ?_
  refine bindG (k := fun d env => (truB d).bind fun c => if c = true then .ok (.bl true) else mb env) oldF q fun d v F0 H0 F1 env Hs H1 s r p => ?_
  cases d with
  | bl c =>
    refine ⟨c, RepIn.bl r, ?_⟩
    cases c with
    | true => rw [if_pos rfl]; exact PostG.done (rel := relF cl) p s.sub (by simp only [relF, Rep])
    | false => rw [if_neg (by decide)]; exact tF_at s p
  | _ => exact p.elim
theorem de_not (h : PE X a (tF cl W ma)) : PE X (.UnaryOp .Not a pos) (tF cl W (m1 notD ma)) := by
  refine pe_weak (pe_not h) fun σ H Q q => ?_
  refine read1 (rel := relF cl) (r := fun x H1 Q => ∃ c, x = V.bl c ∧ Q (.bl (!c)) H1) oldF (fun Hs F H d v Q σ s r p => ?_) q
  cases d with
  | bl c => exact ⟨c, RepIn.bl r, PostG.done p s (by simp only [relF, Rep])⟩
  | _ => exact p.elim
/-- a if c else b -/
def mIfE (c : HEnv → R Bool) (ma mb : HEnv → R D) : HEnv → R D := fun env => (c env).bind fun t => if t = true then ma env else mb env
theorem d_ife {c : Expr} {t : HEnv → R Bool} (hc : PT X c (tT cl W t)) (h1 : PE X a (tF cl W ma)) (h2 : PE X b (tF cl W mb)) : PE X (.IfExp c a b pos) (tF cl W (mIfE t ma mb)) := by
  refine pe_weak (pe_ifExp hc h1 h2) fun σ H Q q => ?_
  refine bindG (k := fun t env => if t = true then ma env else mb env) oldF q fun c v F0 H0 F1 env Hs H1 s r p => ?_
  obtain rfl : v = c := r
  cases v with
  | true => rw [if_pos rfl]; exact tF_at s p
  | false => rw [if_neg (by decide)]; exact tF_at s p
theorem dts_one {t : Expr} {tt : HEnv → R Bool} (h : PT X t (tT cl W tt)) : PTs X [t] (tT cl W tt) := pts_one h
end
end HL

namespace HL
open PySem PySem.Spec PyProof.Rows L2
section
variable {X : Cx} {cl : Cl} {W : WX} {pos : Pos} {tg e : Expr}
/-! ### reversed -/
theorem rev_at {α : Type} {xs : List α} {i : Nat} {x : α} (h : xs.reverse[i]? = some x) : i < xs.length ∧ xs[xs.length - 1 - i]? = some x := by
  have hi : i < xs.length := by
    have := (List.getElem?_eq_some_iff.mp h).1
    simpa using this
  refine ⟨hi, ?_⟩
  rw [List.getElem?_reverse hi] at h
  exact h
theorem itd_revL {K : PySem.W.Frag} {F : Hp} {p : Addr} {ds : List D} {vs : List V} (hp : F p = some (.lst vs)) (r : RepL cl F ds vs) (z : ds.length ≤ sizeLine) : ItD cl (Itv K p vs.length) ds.reverse F where
  few := by rw [List.length_reverse]; exact z
  stop := fun F1 H1 x s => by
    show vs.length ≤ ds.reverse.length
    rw [List.length_reverse, r.len]
    exact Nat.le_refl _
  go := fun i d F1 H1 e x s => by
    obtain ⟨h1, h2⟩ := rev_at e
    obtain ⟨v, a, _⟩ := r.at h2
    rw [← r.len] at h1 a
    exact ⟨h1, vs, v, .inl (s.rd (x p _ hp)), a⟩
  yld := fun i d F1 H1 x H2 e k s y => by
    obtain ⟨h1, h2⟩ := rev_at e
    obtain ⟨v, a, b⟩ := r.at h2
    rw [← r.len] at a
    obtain ⟨rfl, q⟩ := y
    have := q vs (.inl (s.rd (k p _ hp)))
    rw [a] at this
    cases this
    exact ⟨F1, Kp.refl _ _, s, b.ext k⟩
theorem itd_revT {K : PySem.W.Frag} {F : Hp} {p : Addr} {ds : List D} {vs : List V} (hp : F p = some (.tup vs)) (r : RepL cl F ds vs) (z : ds.length ≤ sizeLine) : ItD cl (RT.ItvT K p vs.length) ds.reverse F where
  few := by rw [List.length_reverse]; exact z
  stop := fun F1 H1 x s => by
    show vs.length ≤ ds.reverse.length
    rw [List.length_reverse, r.len]
    exact Nat.le_refl _
  go := fun i d F1 H1 e x s => by
    obtain ⟨h1, h2⟩ := rev_at e
    obtain ⟨v, a, _⟩ := r.at h2
    rw [← r.len] at h1 a
    exact ⟨h1, vs, v, .inl (s.rd (x p _ hp)), a⟩
  yld := fun i d F1 H1 x H2 e k s y => by
    obtain ⟨h1, h2⟩ := rev_at e
    obtain ⟨v, a, b⟩ := r.at h2
    rw [← r.len] at a
    obtain ⟨rfl, q⟩ := y
    have := q vs (.inl (s.rd (k p _ hp)))
    rw [a] at this
    cases this
    exact ⟨F1, Kp.refl _ _, s, b.ext k⟩
def revItems : D → R (List D)
  | .lst ds => .ok ds.reverse
  | .tup ds => .ok ds.reverse
  | _ => .stuck
/-- for x in reversed(list or tuple) -/
theorem di_rev {m : HEnv → R D} {p : Pos} (hg : Gl X "reversed") (hm : X.mg "reversed" = none) (h : PE X e (tF cl W m)) (hs : starEach [e] X.env = (false, eval e X.env) :: starEach [] X.env := by rfl) : PI X tg (.Call (.Name "reversed" p) [e] [] pos) (tI cl W (m1 revItems m)) := by
  refine pi_weak (RT.pi_revA hg hm h hs) fun σ H Q q => ?_
  refine read1 (rel := relF cl) (r := fun v H1 R => ∃ (a : Addr) (xs : List V), v = .ref a ∧ ((SqL X.K H1 a xs ∧ R (Itv X.K a xs.length) H1) ∨ (SqT X.K H1 a xs ∧ R (RT.ItvT X.K a xs.length) H1))) (rel' := relI cl) (fun _ _ _ _ _ _ _ z => z) (fun Hs F H d v Q σ s r p => ?_) q
  cases d with
  | lst ds =>
    obtain ⟨a, vs, rfl, ha, rl, z⟩ := RepIn.lst r
    exact ⟨a, vs, rfl, .inl ⟨.inl (s.rd ha), PostG.done p s (itd_revL ha rl z)⟩⟩
  | tup ds =>
    obtain ⟨a, vs, rfl, ha, rl, z⟩ := RepIn.tup r
    exact ⟨a, vs, rfl, .inr ⟨.inl (s.rd ha), PostG.done p s (itd_revT ha rl z)⟩⟩
  | _ => exact p.elim

/-! ### isinstance of data -/
def tyD : D → Option String
  | .non => some "NoneType"
  | .bl _ => some "bool"
  | .int _ => some "int"
  | .str _ => some "str"
  | .tup _ => some "tuple"
  | .lst _ => some "list"
  | .dic _ _ => none
  | .ins _ _ => none
def isiD (T : String) (d : D) : R D := match tyD d with
  | some t => match kitB t T with
    | some b => .ok (.bl b)
    | none => .stuck
  | none => .stuck
theorem tyx_of {K : PySem.W.Frag} {F H : Hp} {d : D} {v : V} {t : String} (s : Sub F H) (r : BRep cl F H d v) (h : tyD d = some t) : TyX K H v (.type t) := by
  cases d with
  | non => cases h; rw [BRep.non r]; exact .base .non
  | bl b => cases h; rw [BRep.bl r]; exact .base (.bl _)
  | int b => cases h; rw [BRep.int r]; exact .base (.int _)
  | str b => cases h; rw [BRep.str r]; exact .base (.str _)
  | tup xs =>
    cases h
    obtain ⟨a, vs, rfl, h1, _⟩ := BRep.tup' r s
    rcases h1 with h1 | ⟨o, h1⟩
    · exact .base (.tup h1)
    · exact .fTuple h1
  | lst xs =>
    cases h
    obtain ⟨a, vs, rfl, h1, _⟩ := BRep.lst' r s
    rcases h1 with h1 | ⟨o, h1⟩
    · exact .base (.lst h1)
    · exact .base (.frz h1)
  | _ => cases h
theorem boot_isi' : bootBuiltins "isinstance" = some (.builtin "isinstance") := by decide +kernel
/-- isinstance(x, T), T a built-in type -/
theorem d_isi {T : String} {tn : Str} {m : HEnv → R D} {p p2 : Pos} (hg : Gl X "isinstance") (hm : X.mg "isinstance" = none) (hg2 : Gl X tn) (hm2 : X.mg tn = none) (hb : bootBuiltins tn = some (.type T)) (he : PE X e (tB cl W m))
    (hs1 : starEach [e, .Name tn p2] X.env = (false, eval e X.env) :: starEach [.Name tn p2] X.env := by rfl) (hs2 : starEach [.Name tn p2] X.env = (false, eval (.Name tn p2) X.env) :: starEach [] X.env := by rfl) (hpl : (backTo pos (starEach [.Name tn p2] X.env)).any (·.1) = false := by rfl)
    (hn : tn ≠ "__name__" := by decide) (hd : (tn == ("__debug__" : Str)) = false := by decide) :
    PE X (.Call (.Name "isinstance" p) [e, .Name tn p2] [] pos) (tF cl W (m1 (isiD T) m)) := by
  refine pe_weak (pe_callB call_isi hg hm boot_isi' (pa_cons he (pa_cons (pe_bltn (v := .ty T) hg2 hm2 hb rfl hn hd) pa_nil hs2) hs1) (by decide) (by decide) hs1 hpl) fun σ H Q q => ?_
  refine read1 (rel := relB cl) (r := fun x H1 Q => rIsi X.K [x, .ty T] H1 Q) oldF (fun Hs F H d v Q σ s r p => ?_) q
  unfold isiD at p
  split at p
  · rename_i t ht
    split at p
    · rename_i b hb'
      exact ⟨v, .ty T, _, _, b, rfl, .ty T, tyx_of s r ht, kit_ty hb', PostG.done p s (by simp only [relF, Rep])⟩
    · exact p.elim
  · exact p.elim

/-! ### list.clear, list.pop as statements; ghost freezing -/
def clearD : D → R D
  | .lst _ => .ok (.lst [])
  | _ => .stuck
theorem ds_clear {o : Expr} {apos cpos : Pos} {i : Nat} (ho : PE X o (tVar i)) (h1 : attributeBase o "clear" X.env (eval o X.env) = eval o X.env := by rfl) (h3 : (apos.endLine == cpos.line) = true := by rfl)
    (hs : swapsWith (.Call (.Attribute o "clear" apos) [] [] cpos) none pos.line X.env = pure false := by rfl) : PS X (.Expr (.Call (.Attribute o "clear" apos) [] [] cpos) pos) (tS cl W (mOwn0 i clearD)) := by
  refine ds_own0 (T := "list") PySem.F.plainAttrs_list PySem.F.slot_list_clear PySem.F.type_list_clear mt_clear (fun F H p c c' u Q s hu ob ef q => ?_) (fun c c' ef => ?_) ho h1 h3 hs
  · cases c with
    | lst ds =>
      cases ef
      obtain ⟨vs, rfl, rl, z⟩ := ob
      exact ⟨p, vs, rfl, rfl, hu, q _ ⟨[], rfl, by simp only [RepL], Nat.zero_le _⟩ rfl⟩
    | _ => cases ef
  · cases c with
    | lst ds => rfl
    | _ => cases ef
/-- from here on the slot's thing stays -/
def mFrzS (i : Nat) (a : HEnv → SO) : HEnv → SO := fun env => match env[i]? with
  | some (.own d) => a (env.set i (.val d))
  | some (.val _) => a env
  | _ => .stuck
theorem read_frzS {a : HEnv → SO} {i : Nat} {Dn : Ends} {σ : L2.St} {H : Hp} (q : tS cl W (mFrzS i a) Dn σ H) : tS cl W a Dn σ H := by
  obtain ⟨F0, H0, F, env, s, q⟩ := q
  unfold mFrzS at q
  split at q
  · rename_i d e
    refine read_frz (i := i) ⟨F0, H0, F, env, s, ?_⟩
    unfold mFrz
    rw [e]
    exact q
  · exact ⟨F0, H0, F, env, s, q⟩
  · exact q.elim
theorem ds_frzS {a : HEnv → SO} {i : Nat} {st : Stmt} (h : PS X st (tS cl W a)) : PS X st (tS cl W (mFrzS i a)) := ps_weak h fun _ _ _ q => read_frzS q
end
/-! ### for x in a list of one's own: it is lent -/
def forB (i : Nat) (g : D → HEnv → R HEnv) (body : HEnv → SO) : Nat → Nat → HEnv → SO
  | 0, _, _ => .stuck
  | n + 1, j, env => match env[i]? with
    | some (.lent (.lst ds)) => match ds[j]? with
      | none => .nx env
      | some d => match g d env with
        | .ok e1 => match body e1 with
          | .nx e2 => forB i g body n (j + 1) e2
          | .ct e2 => forB i g body n (j + 1) e2
          | .bk e2 => .nx e2
          | .rt o r => .rt o r
          | .er x e2 => .er x e2
          | .stuck => .stuck
        | _ => .stuck
    | _ => .stuck
def giveBack (i : Nat) : SO → SO
  | .nx e => match e[i]? with
    | some (.lent d) => .nx (e.set i (.own d))
    | _ => .stuck
  | .er x e => match e[i]? with
    | some (.lent d) => .er x (e.set i (.own d))
    | _ => .stuck
  | .rt o d => .rt o d
  | _ => .stuck
def mForB (i : Nat) (g : D → HEnv → R HEnv) (body : HEnv → SO) : HEnv → SO := fun env => match env[i]? with
  | some (.own (.lst ds)) => giveBack i (forB i g body (ds.length + 1) 0 (env.set i (.lent (.lst ds))))
  | some (.val _) => mFor (m1 itemsD (mVar i)) g body env
  | _ => .stuck
def lendBs (F0 : Bs) (i : Nat) (p : Addr) : Bs := (F0.1, fun j => if j = i then some p else F0.2 j)
section
variable {cl : Cl}
theorem HSt.lend {F0 : Bs} {H0 F H : Hp} {env : HEnv} {σ : L2.St} (s : HSt cl F0 H0 F env σ H) {i : Nat} {d : D} {p : Addr} (he : env[i]? = some (.own d)) (hp : σ[i]? = some (some (.ref p))) : HSt cl (lendBs F0 i p) H0 F (env.set i (.lent d)) σ H := by
  have hl : i < env.length := (List.getElem?_eq_some_iff.mp he).1
  have back : ∀ (j : Nat) (e : D), (env.set i (.lent d))[j]?.bind oL = some e → env[j]?.bind oL = some e := fun j e h => by
    by_cases hj : i = j
    · subst hj
      rw [List.getElem?_set_self hl] at h
      rw [he]
      exact h
    · rwa [List.getElem?_set_ne hj] at h
  refine ⟨by simp [s.len], s.sub, s.kp, fun j e h => ?_, fun j e h => s.own j e (back j e h), fun j e h => ?_, fun j k e g q h1 h2 => s.dis j k e g q (back j e h1) (back k g h2)⟩
  · by_cases hj : i = j
    · subst hj
      rw [List.getElem?_set_self hl] at h
      cases h
    · rw [List.getElem?_set_ne hj] at h
      exact s.val j e h
  · by_cases hj : i = j
    · subst hj
      exact ⟨p, if_pos rfl, hp⟩
    · rw [List.getElem?_set_ne hj] at h
      obtain ⟨q, a, b⟩ := s.lnt j e h
      exact ⟨q, (if_neg (Ne.symm hj)).trans a, b⟩
theorem HSt.give {F0 : Bs} {H0 F H : Hp} {env : HEnv} {σ : L2.St} {i : Nat} {d : D} {p : Addr} (s : HSt cl (lendBs F0 i p) H0 F env σ H) (he : env[i]? = some (.lent d)) : HSt cl F0 H0 F (env.set i (.own d)) σ H := by
  have hl : i < env.length := (List.getElem?_eq_some_iff.mp he).1
  have back : ∀ (j : Nat) (e : D), (env.set i (.own d))[j]?.bind oL = some e → env[j]?.bind oL = some e := fun j e h => by
    by_cases hj : i = j
    · subst hj
      rw [List.getElem?_set_self hl] at h
      rw [he]
      exact h
    · rwa [List.getElem?_set_ne hj] at h
  refine ⟨by simp [s.len], s.sub, s.kp, fun j e h => ?_, fun j e h => s.own j e (back j e h), fun j e h => ?_, fun j k e g q h1 h2 => s.dis j k e g q (back j e h1) (back k g h2)⟩
  · by_cases hj : i = j
    · subst hj
      rw [List.getElem?_set_self hl] at h
      cases h
    · rw [List.getElem?_set_ne hj] at h
      exact s.val j e h
  · by_cases hj : i = j
    · subst hj
      rw [List.getElem?_set_self hl] at h
      cases h
    · rw [List.getElem?_set_ne hj] at h
      obtain ⟨q, a, b⟩ := s.lnt j e h
      exact ⟨q, (if_neg (Ne.symm hj)).symm.trans a, b⟩
variable {X : Cx} {W : WX} {pos : Pos}
theorem ds_forB {tg iter : Expr} {body : List Stmt} {i : Nat} {is : List Nat} {g : D → HEnv → R HEnv} {b : HEnv → SO} (hp : PassesOwn (model X.prog X.w) X.A X.env X.xe) (hc : X.calm = true)
    (hi : PE X iter (tVar i)) (hg : PG X tg (tTg cl is g)) (hb : PSs X body (tS cl W b)) (hs : ∀ x, foldedSetIterable iter X.env x = pure x := by intro _; rfl) : PS X (.For tg iter body [] pos) (tS cl W (mForB i g b)) := by
  refine ⟨fun pins s σ H Dn I q => ?_⟩
  obtain ⟨F0, H0, F, env, st, q⟩ := q
  unfold mForB at q
  split at q
  case h_2 d ei => exact (ds_for hp hc (di_any (d_var hi)) hg hb hs).run pins s σ H Dn I ⟨F0, H0, F, env, st, q⟩
  case h_3 => exact q.elim
  rename_i ds ei
  refine (ps_for hp hc (pi_list hi) hg hb hs).run pins s σ H Dn I ?_
  obtain ⟨p, hsi, hf, h0, u, hu, ⟨vs, rfl, rl, z⟩, mu⟩ := st.own i _ (oL_own ei)
  have sl := st.lend ei hsi
  refine ⟨.ref p, hsi, p, rfl, ⟨vs, .inl (.inl hu)⟩, ?_⟩
  refine ⟨fun j m σ H => ∃ F2 env2, Ext F F2 ∧ HSt cl (lendBs F0 i p) H0 F2 env2 σ H ∧ PostS cl W Dn F0 H0 F2 (giveBack i (forB i g b m j env2)), ⟨_, F, _, Ext.refl F, sl, q⟩, fun j m σ2 H2 ⟨F2, env2, x2, s2, p2⟩ => ?_⟩
  cases m with
  | zero => exact p2.elim
  | succ k =>
    simp only [forB] at p2
    cases e2 : env2[i]? with
    | none => simp only [e2] at p2; exact p2.elim
    | some sl2 =>
      cases sl2 with
      | no => simp only [e2] at p2; exact p2.elim
      | val d => simp only [e2] at p2; exact p2.elim
      | own d => simp only [e2] at p2; exact p2.elim
      | lent d2 =>
        cases d2 with
        | lst ds2 =>
          simp only [e2] at p2
          obtain ⟨p', a1, a2⟩ := s2.lnt i _ e2
          have ep : p' = p := by
            have : (lendBs F0 i p).2 i = some p := if_pos rfl
            rw [this] at a1
            exact (Option.some.inj a1).symm
          subst ep
          obtain ⟨p3, b1, b2, b3, u3, b4, ⟨vs2, rfl, rl2, z2⟩, _⟩ := s2.own i _ (oL_lent e2)
          rw [a2] at b1
          cases b1
          cases ed : ds2[j]? with
          | none =>
            simp only [ed] at p2
            refine .inl ⟨⟨vs2, .inl (.inl b4), ?_⟩, ?_⟩
            · rw [rl2.len]
              exact List.getElem?_eq_none_iff.mp ed
            · simp only [giveBack, e2] at p2
              exact p2 σ2 F2 H2 (Ext.refl F2) (s2.give e2)
          | some d =>
            simp only [ed] at p2
            obtain ⟨v, hv, rv⟩ := rl2.at ed
            refine .inr ⟨⟨vs2, v, .inl (.inl b4), hv⟩, fun σ' H' => ∃ F3 env3, Ext F F3 ∧ HSt cl (lendBs F0 i p') H0 F3 env3 σ' H' ∧ PostS cl W Dn F0 H0 F3 (giveBack i (forB i g b k (j + 1) env3)),
              fun σ' H' h => ⟨k, Nat.lt_succ_self k, h⟩, fun x H' y => ?_⟩
            obtain ⟨rfl, y⟩ := y
            have ex := y vs2 (.inl (.inl b4))
            rw [hv] at ex
            cases ex
            refine ⟨_, H0, F2, env2, d, s2, rv, ?_⟩
            cases eg : g d env2 with
            | er x => simp only [eg] at p2; exact p2.elim
            | stuck => simp only [eg] at p2; exact p2.elim
            | ok e1 =>
              simp only [eg] at p2 ⊢
              intro σ4 s4 l4 n4
              refine ⟨_, H0, F2, e1, s4, ?_⟩
              cases eb : b e1 with
              | nx e5 =>
                simp only [eb] at p2
                exact fun σ5 F5 H5 x5 s5 => ⟨F5, e5, x2.trans x5, s5, p2.ext x5⟩
              | ct e5 =>
                simp only [eb] at p2
                exact fun σ5 F5 H5 x5 s5 => ⟨F5, e5, x2.trans x5, s5, p2.ext x5⟩
              | bk e5 =>
                simp only [eb] at p2
                intro σ5 F5 H5 x5 s5
                simp only [giveBack] at p2
                split at p2
                · rename_i dd hh
                  exact p2 σ5 F5 H5 x5 (s5.give hh)
                · exact p2.elim
              | rt o r =>
                simp only [eb] at p2
                exact p2
              | er x e5 =>
                simp only [eb] at p2
                intro cls dd σ5 F5 H5 x5 s5 r5
                simp only [giveBack] at p2
                split at p2
                · rename_i d6 hh
                  exact p2 cls dd σ5 F5 H5 x5 (s5.give hh) r5
                · exact p2.elim
              | stuck =>
                simp only [eb] at p2
                exact p2.elim
        | _ => simp only [e2] at p2; exact p2.elim
end
end HL

namespace HL
open PySem PySem.Spec PyProof.Rows L2
section
variable {X : Cx} {cl : Cl} {W : WX} {pos apos cpos : Pos} {a b c e o i : Expr} {ma mb mc : HEnv → R D}
/-! ### a < b < c -/
def mChain (f g : D → D → R D) (ma mb mc : HEnv → R D) : HEnv → R D := fun env => (ma env).bind fun x => (mb env).bind fun y => (f x y).bind fun r => (truB r).bind fun k => if k = true then (mc env).bind fun z => g y z else .ok (.bl false)
theorem PostG.bind_ok {α γ δ : Type} {rel : Rel γ δ} {r : R α} {f : α → R γ} {a : α} {F H : Hp} {σ : L2.St} {Q : δ → Hp → Prop} (h : PostG cl rel W (r.bind f) F σ H Q) (e : r = .ok a) : PostG cl rel W (f a) F σ H Q := by rw [e] at h; exact h
theorem read_chain {f g : D → D → R D} {r r' : R2} (hf : Op2 cl (relF cl) f r) (hg : Op2 cl (relF cl) g r') {σ : L2.St} {H : Hp} {Q : VK} (q : tF cl W (mChain f g ma mb mc) σ H Q) : tChain r r' (tB cl W ma) (tB cl W mb) (tB cl W mc) σ H Q := by
  obtain ⟨F0, H0, F, env, s, q⟩ := q
  refine ⟨F0, H0, F, env, s, ?_⟩
  unfold mChain at q
  cases em : ma env with
  | er x => rw [em] at q; exact q
  | stuck => rw [em] at q; exact q.elim
  | ok x =>
    replace q := PostG.bind_ok q em
    intro v F1 H1 k1 s1 r1
    refine ⟨F0, H0, F1, env, s.step k1 s1, ?_⟩
    replace q := PostG.step oldF q k1
    cases en : mb env with
    | er x => rw [en] at q; exact q
    | stuck => rw [en] at q; exact q.elim
    | ok y =>
      replace q := PostG.bind_ok q en
      intro u F2 H2 k2 s2 r2
      replace q := PostG.step oldF q k2
      refine hf W F2 H2 x y v u _ σ s2 (BRep.kp k2 r1) r2 ?_
      cases ef : f x y with
      | er z => rw [ef] at q; exact q
      | stuck => rw [ef] at q; exact q.elim
      | ok d =>
        replace q := PostG.bind_ok q ef
        intro w F3 H3 k3 s3 r3
        replace q := PostG.step oldF q k3
        cases d with
        | bl k =>
          refine ⟨k, RepIn.bl r3, ?_⟩
          cases k with
          | false =>
            rw [if_neg (by decide)]
            exact PostG.done (rel := relF cl) (d := .bl false) q s3 (by simp only [relF, Rep])
          | true =>
            rw [if_pos rfl]
            refine ⟨F0, H0, F3, env, ((s.step k1 s1).step k2 s2).step k3 s3, ?_⟩
            replace q : PostG cl (relF cl) W ((mc env).bind fun z => g y z) F3 σ H3 Q := q
            cases eo : mc env with
            | er z => rw [eo] at q; exact q
            | stuck => rw [eo] at q; exact q.elim
            | ok z =>
              replace q := PostG.bind_ok q eo
              intro t F4 H4 k4 s4 r4
              exact hg W F4 H4 y z u t _ σ s4 (BRep.kp k4 (BRep.kp k3 r2)) r4 (PostG.step oldF q k4)
        | _ => exact q.elim
theorem d_chain {op op' : CmpOp} {f g : D → D → R D} {r r' : R2} (ho : OpR X (compareOp op) r) (hf : Op2 cl (relF cl) f r) (ho' : OpR X (compareOp op') r') (hg : Op2 cl (relF cl) g r') (ha : PE X a (tB cl W ma)) (hb : PE X b (tB cl W mb)) (hc : PE X c (tB cl W mc))
    (hm : lastMarks [op, op'] [b, c] = false := by with_unfolding_all rfl) : PE X (.Compare a [op, op'] [b, c] pos) (tF cl W (mChain f g ma mb mc)) := pe_weak (pe_chain ho ho' ha hb hc hm) fun σ H Q q => read_chain hf hg q
theorem dt_chain {op op' : CmpOp} {f g : D → D → R D} {r r' : R2} (ho : OpR X (compareOp op) r) (hf : Op2 cl (relF cl) f r) (ho' : OpR X (compareOp op') r') (hg : Op2 cl (relF cl) g r') (ha : PE X a (tB cl W ma)) (hb : PE X b (tB cl W mb)) (hc : PE X c (tB cl W mc))
    (hm : lastMarks [op, op'] [b, c] = false := by with_unfolding_all rfl) : PT X (.Compare a [op, op'] [b, c] pos) (tT cl W (m1 truB (mChain f g ma mb mc))) := by
  refine pt_weak (pt_chain ho ho' ha hb hc hm) fun σ H Q q => ?_
  refine read_chain hf hg ?_
  refine read1 (rel := relF cl) (r := fun x H1 Q => ∃ c, x = V.bl c ∧ Q c H1) oldT (fun Hs F H d v Q σ s r p => ?_) q
  cases d with
  | bl b => exact ⟨b, RepIn.bl r, PostG.done p s rfl⟩
  | _ => exact p.elim

/-! ### methods of a text -/
def StrR (cl : Cl) (f : D → R D) (r : V → List V → Hp → VK → Prop) : Prop := ∀ (W : WX) (F H : Hp) (y : Str) (Q : VK) (σ : L2.St), Sub F H → PostG cl (relF cl) W (f (.str y)) F σ H Q → r (.str y) [] H Q
def onStr (f : Str → R D) : D → R D
  | .str x => f x
  | _ => .stuck
theorem d_str0 {id : String} {name : Str} {r : V → List V → Hp → VK → Prop} {f : Str → R D} (slot : PySem.Slot "str" name id) (hty : typeOf (.builtin id) = pure (.type "method_descriptor")) (hm : MtR X id r) (hf : StrR cl (onStr f) r) (ho : PE X o (tB cl W ma))
    (h1 : attributeBase o name X.env (eval o X.env) = eval o X.env := by rfl) (h3 : (apos.endLine == cpos.line) = true := by rfl) : PE X (.Call (.Attribute o name apos) [] [] cpos) (tF cl W (m1 (onStr f) ma)) := by
  refine pe_weak (pe_bm0 PySem.F.plainAttrs_str slot hty hm ho h1 h3) fun σ H Q q => ?_
  refine read1 (rel := relB cl) (r := fun x H1 Q => tyV X.K "str" x H1 ∧ r x [] H1 Q) oldF (fun Hs F H d v Q σ s rr p => ?_) q
  cases d with
  | str y =>
    obtain rfl := BRep.str rr
    exact ⟨rfl, hf W F H y Q σ s p⟩
  | _ => exact p.elim
def isalphaS (x : Str) : R D := .ok (.bl (Txt.isalpha x))
def islowerS (x : Str) : R D := .ok (.bl (Txt.islower x))
def isdigitS (x : Str) : R D := .ok (.bl (Txt.isdigit x))
def lowerS (x : Str) : R D := if x.length ≤ 5592405 then .ok (.str (Txt.lower x)) else .stuck
theorem isalpha_s : StrR cl (onStr isalphaS) (fun x xs H Q => ∃ a, x = .str a ∧ xs = [] ∧ True ∧ Q (.bl (Txt.isalpha a)) H) := fun W F H y Q σ s p => ⟨y, rfl, rfl, trivial, PostG.done p s (by simp only [relF, Rep])⟩
theorem islower_s : StrR cl (onStr islowerS) (fun x xs H Q => ∃ a, x = .str a ∧ xs = [] ∧ True ∧ Q (.bl (Txt.islower a)) H) := fun W F H y Q σ s p => ⟨y, rfl, rfl, trivial, PostG.done p s (by simp only [relF, Rep])⟩
theorem isdigit_s : StrR cl (onStr isdigitS) (fun x xs H Q => ∃ a, x = .str a ∧ xs = [] ∧ True ∧ Q (.bl (Txt.isdigit a)) H) := fun W F H y Q σ s p => ⟨y, rfl, rfl, trivial, PostG.done p s (by simp only [relF, Rep])⟩
theorem lower_s : StrR cl (onStr lowerS) (fun x xs H Q => ∃ a, x = .str a ∧ xs = [] ∧ a.length ≤ 5592405 ∧ Q (.str (Txt.lower a)) H) := fun W F H y Q σ s p => by
  replace p : PostG cl (relF cl) W (if y.length ≤ 5592405 then R.ok (D.str (Txt.lower y)) else R.stuck) F σ H Q := p
  split at p
  · rename_i h
    exact ⟨y, rfl, rfl, h, PostG.done p s (by simp only [relF, Rep])⟩
  · exact p.elim

/-! ### xs[i] = e, of one's own -/
def putL (i : Nat) (ds : List D) (v k : D) (env : HEnv) : SO := match k with
  | .int j => match ixN ds.length j with
    | some n => .nx (env.set i (.own (.lst (ds.set n v))))
    | none => .stuck
  | _ => .stuck
def mPutL (i : Nat) (mk mv : HEnv → R D) : HEnv → SO := fun env => match env[i]? with
  | some (.own (.lst ds)) => sB mv (fun v env => sB mk (fun k env => putL i ds v k env) env) env
  | _ => .stuck
theorem RepL.set {F : Hp} : ∀ {ds : List D} {vs : List V} {n : Nat} {d : D} {v : V}, RepL cl F ds vs → Rep cl F d v → RepL cl F (ds.set n d) (vs.set n v)
  | [], vs, n, d, v, h, r => by simp only [RepL] at h; subst h; simp only [List.set_nil, RepL]
  | c :: ds, vs, 0, d, v, h, r => by
    simp only [RepL] at h
    obtain ⟨u, s, rfl, a, b⟩ := h
    simp only [List.set_cons_zero, RepL]
    exact ⟨v, s, rfl, r, b⟩
  | c :: ds, vs, n + 1, d, v, h, r => by
    simp only [RepL] at h
    obtain ⟨u, s, rfl, a, b⟩ := h
    simp only [List.set_cons_succ, RepL]
    exact ⟨u, s.set n v, rfl, a, RepL.set b r⟩
theorem ds_putL {k : Nat} {tp : Pos} (he : PE X e (tF cl W mb)) (ho : PE X o (tVar k)) (hi : PE X i (tF cl W ma)) (hs : swapsWithSole [.Subscript o i tp] e pos.line X.env = pure false := by rfl) (hw : swappedStores [.Subscript o i tp] e X.env = pure none := by rfl)
    (h1 : (assignEach [.Subscript o i tp] X.env).map (·.2) = [assign (.Subscript o i tp) X.env] := by rfl) (h2 : ∀ v, assign (.Subscript o i tp) X.env v = (do
      let ov ← holding [v] (eval o X.env)
      let iv ← holding [v, ov] (eval i X.env)
      standAt tp
      holding [v, ov, iv] (setItem ov iv v)
      release [v, ov, iv] []) := by intro _; rfl) : PS X (.Assign [.Subscript o i tp] e pos) (tS cl W (mPutL k ma mb)) := by
  refine ps_weak (ps_asg he (pg_sub ho hi set_list h2) hs hw h1) fun Dn σ H q => ?_
  obtain ⟨F0, H0, F, env, s, q⟩ := q
  refine ⟨F0, H0, F, env, s, ?_⟩
  unfold mPutL at q
  split at q
  case h_2 => exact q.elim
  rename_i ds ei
  unfold sB at q
  cases em : mb env with
  | er x =>
    rw [em] at q
    exact fun cls dd F' H' k' s' r => q cls dd σ F' H' k'.ext (s.step k' s') r
  | stuck => rw [em] at q; exact q.elim
  | ok d =>
    rw [em] at q
    simp only at q
    intro v F1 H1 k1 s1 r1
    replace q := PostS.ext q k1.ext
    have st1 := s.step k1 s1
    obtain ⟨p, hsi, hf, h0, u, hu, ⟨vs, rfl, rl, z⟩, mu⟩ := st1.own k _ (oL_own ei)
    refine ⟨.ref p, hsi, ?_⟩
    refine ⟨F0, H0, F1, env, st1, ?_⟩
    cases en : ma env with
    | er x =>
      rw [en] at q
      exact fun cls dd F' H' k' s' r => q cls dd σ F' H' k'.ext (st1.step k' s') r
    | stuck => rw [en] at q; exact q.elim
    | ok kd =>
      rw [en] at q
      simp only at q
      intro w F2 H2 k2 s2 r2
      have st2 := st1.step k2 s2
      unfold putL at q
      split at q
      case h_2 => exact q.elim
      rename_i j
      split at q
      case h_2 => exact q.elim
      rename_i n hn
      refine ⟨p, vs, j, n, rfl, RepIn.int r2, k2.same _ _ hu, by rw [rl.len]; exact hn, ?_⟩
      have q2 := PostS.ext q k2.ext
      exact q2 σ F2 _ (Ext.refl F2) (st2.writeOwn ei hsi (k2.fr p _ hu hf) h0 ⟨_, rfl, (rl.ext k2.ext).set (r1.ext k2.ext), by rw [List.length_set]; exact z⟩ rfl)
end
end HL

namespace HL
open PySem PySem.Spec PyProof.Rows L2
/-! ### several except clauses with a name -/
/-- a suite's ends: its name at slot i goes -/
abbrev goneE (i : Nat) (Dn : Ends) : Ends := { nx := fun σ' H' => Dn.nx (σ'.set i none) H', rt := Dn.rt, bk := fun σ' H' => Dn.bk (σ'.set i none) H', ct := fun σ' H' => Dn.ct (σ'.set i none) H' }
abbrev Clause := Value × (Addr → Value → Option Addr → TS)
def wAll (K : PySem.W.Frag) (i : Nat) (Wout : WX) (Dn : Ends) : List Clause → WX
  | [] => Wout
  | q :: r => fun cls d σ H => ∃ b, PySem.W.exmOne K cls q.1 = some b ∧ if b = true then ∀ a, H a = none → q.2 a cls d (goneE i Dn) (σ.set i (some (.ref a))) H else wAll K i Wout Dn r cls d σ H
inductive ClausesOk (X : Cx) (n : Str) : List ExceptHandler → List Clause → Prop
  | nil : ClausesOk X n [] []
  | cons {x : Str} {q : Clause} {st : Stmt} {sts : List Stmt} {np ps : Pos} {hds : List ExceptHandler} {l : List Clause} (hc : Names X x q.1)
      (hsu : ∀ (a : Addr) (oe : Obj) (cls : Value) (d : Option Addr) (pn : List (Addr × Obj)), Zc cls d oe → (∃ vs, oe.data = .fields vs) → PSs (X.suite a ((a, oe) :: pn)) (st :: sts) (q.2 a cls d)) (r : ClausesOk X n hds l) :
      ClausesOk X n (.ExceptHandler (some (.Name x np)) (some n) (st :: sts) ps :: hds) (q :: l)
section
variable {X : Cx} {n : Str} {i : Nat} {Wout : WX}
/-- an exception that has come to this frame's clauses -/
structure Come (X : Cx) (pins : List (Addr × Obj)) (σ : L2.St) (H : Hp) (cls : Value) (d : Option Addr) (a : Addr) (B : Heap) (sI s' s3 : Shared) : Prop where
  J : L2.Inv X pins σ H sI
  nb : ∀ (b : Addr) (o : Obj), sI.heap.get? b = some o → ¬ b ∈ frs X.stack → B.get? b = some o
  up : sI.heap.UpToSlots s3.heap
  os : s3.os = sI.os
  ag : AllBare s3.gens
  na : H a = none
  fl : HandSPX.FlyingZ B (X.env :: X.outer) a (Zc cls d) s3.heap
theorem Come.inv {pins : List (Addr × Obj)} {σ : L2.St} {H : Hp} {cls : Value} {d : Option Addr} {a : Addr} {B : Heap} {sI s' s3 : Shared} (c : Come X pins σ H cls d a B sI s' s3) : L2.Inv X pins σ H s3 := c.J.landed c.nb c.fl.1 c.up c.os c.ag
theorem Come.far {pins : List (Addr × Obj)} {σ : L2.St} {H : Hp} {cls : Value} {d : Option Addr} {a : Addr} {B : Heap} {sI s' s3 : Shared} (c : Come X pins σ H cls d a B sI s' s3) (hf : X.env.frame = some X.env.locals) : a ≠ X.env.locals ∧ a ∉ X.fs := by
  obtain ⟨oe, vs, he, _, hd⟩ := c.fl.there
  have nfr : a ∉ frs (X.env :: X.outer) := fun hm => by
    obtain ⟨_, o2, e2, hnf⟩ := c.fl.2.2.1.mem hm
    rw [he] at e2
    cases e2
    exact hnf _ hd
  constructor
  · intro z
    exact nfr (List.mem_filterMap.mpr ⟨X.env, List.mem_cons_self, by rw [hf, z]⟩)
  · intro hm
    obtain ⟨e, h1, h2⟩ := List.mem_filterMap.mp hm
    exact nfr (List.mem_filterMap.mpr ⟨e, List.mem_cons_of_mem _ h1, h2⟩)
theorem clauses_run (hs : X.stack = X.env :: X.outer) (hf : X.env.frame = some X.env.locals) (hN : X.N.Nodup) (hi : X.N[i]? = some n) (hln : X.env.kindOf n = some .local) (tk : Takes X Wout) {Dn : Ends} {hds : List ExceptHandler} {l : List Clause} (hk : ClausesOk X n hds l) :
    ∀ {pins : List (Addr × Obj)} {σ : L2.St} {H : Hp} {cls : Value} {d : Option Addr} {a : Addr} {B : Heap} {sI s' s3 : Shared}, Come X pins σ H cls d a B sI s' s3 → wAll X.K i Wout Dn l cls d σ H → wpAny (model X.prog X.w) X.A (handleBy (.ref a) X.env hds) (SP X pins Dn) X.xe s3 := by
  induction hk with
  | nil =>
    intro pins σ H cls d a B sI s' s3 c w
    refine wpAny_handleBy_nil ?_
    obtain ⟨_, _, _, oe, vs, T, _, _, he, _, hd, h1, _⟩ := id c.fl
    unfold PySem.passOn
    refine wpAny_bind (wpAny_field he hd h1 ?_)
    rw [if_neg (by simp : ¬ ((Value.ref T == Value.none) = true))]
    have out : wpAny (model X.prog X.w) X.A (setFlight (.ref a) X.env.frame) (fun _ s4 => wpAny (model X.prog X.w) X.A (throw (.ref a) : Sem Flow) (SP X pins Dn) X.xe s4) X.xe s3 := by
      rw [hf]
      exact HandSPX.setFlight_upZ c.fl fun h4 held up4 => wpAny_throw (tk _ _ ⟨a, B, sI, pins, σ, H, cls, d, rfl, c.J, c.nb, c.up.trans up4, .inr (.inr (by rw [hs]; exact held)), c.na, c.os, c.ag, w⟩)
    first
      | exact wpAny_bind (wpAny_pure (wpAny_bind out))
      | exact wpAny_bind out
  | cons hc hsu r ih =>
    intro pins σ H cls d a B sI s' s3 c w
    rename_i x q st sts np ps hds2 l2
    obtain ⟨b, hb1, w⟩ := w
    have I3 := c.inv
    obtain ⟨nL, nF⟩ := c.far hf
    obtain ⟨oe, vs, he, hz, hd⟩ := c.fl.there
    have S3 := I3.suite he hd c.na nL nF
    refine wpAny_handleBy_cons (codeAny_handlers_test ?_) (by intro z; cases z)
    have lt : PySem.W.Looks (model X.prog X.w) s3.heap (typeOf (.ref a)) cls := fun A Q E s k q => wpAny_typeOf_ref (k _ _ he) (by rw [hz.1]; exact q)
    have lm := PySem.W.exm_one (M := model X.prog X.w) I3.kIn lt hb1
    have named : ∀ {Q : Value → Shared → Prop} {E : Value → Shared → Prop}, Q q.1 s3 → wpAny (model X.prog X.w) (X.A.mark (some (.ref a))) (eval (.Name x np) X.env) Q E s3 := fun {Q E} z => by
      obtain ⟨g1, g2, g3⟩ := hc
      rcases g3 with g3 | ⟨g3, g4, g5⟩
      · exact ld_glob (X := X.suite a ((a, oe) :: (X.pn ++ pins))) S3 g1 g3 z g2
      · exact ld_blt (X := X.suite a ((a, oe) :: (X.pn ++ pins))) S3 g1 g3 g4 z g5 g2
    refine named (lm.here ?_)
    cases b with
    | false =>
      rw [if_neg (by decide)] at w
      exact ih (s' := s') c w
    | true =>
      rw [if_pos rfl] at w
      refine codeAny_handlers_suite_as (HandSPX.lands_againZ c.fl fun h4 fl4 up4 => ?_)
      have c4 : Come X pins σ H cls d a B sI s' { s3 with heap := h4 } := ⟨c.J, c.nb, c.up.trans up4, c.os, c.ag, c.na, fl4⟩
      obtain ⟨oe4, vs4, he4, hz4, hd4⟩ := c4.fl.there
      have S4 := c4.inv.suite he4 hd4 c.na nL nF
      refine store_ok (X := X.suite a ((a, oe4) :: (X.pn ++ pins))) (v := .ref a) S4 hN hi (.inl hln) rfl (fun s5 S5 => ?_) (.inr hln)
      refine wpAny_mono ((hsu a oe4 cls d (X.pn ++ pins) hz4 ⟨_, hd4⟩).run [] s5 _ H _ S5 (w a c.na)) (fun f s6 hsp => ?_) (fun _ _ z => z.elim)
      have fin : ∀ {σ6 : L2.St} {H6 : Hp} {Q : Shared → Prop}, L2.Inv (X.suite a ((a, oe4) :: (X.pn ++ pins))) [] σ6 H6 s6 → (∀ s7, L2.Inv X pins (σ6.set i none) H6 s7 → Q s7) →
          wpAny (model X.prog X.w) X.A (do bindName X.env n .none; unbindBehindTheSuite X.env n ps) (fun _ s7 => Q s7) X.xe s6 := fun S6 hq => gone_ok (S6.unsuite c.J.ok) hN hi hln hq
      cases f <;> first
        | (obtain ⟨σ6, H6, S6, q6⟩ := hsp; exact fin S6 fun s7 J7 => ⟨_, _, J7, q6⟩)
        | (obtain ⟨v6, σ6, H6, S6, r6, q6⟩ := hsp; exact fin S6 fun s7 J7 => ⟨_, _, _, J7, r6, q6⟩)
theorem ps_try_all {body : List Stmt} {h₀ : ExceptHandler} {hds : List ExceptHandler} {l : List Clause} {pos : Pos} {tb : WX → TS} (hs : X.stack = X.env :: X.outer) (hf : X.env.frame = some X.env.locals) (hN : X.N.Nodup) (hi : X.N[i]? = some n) (hln : X.env.kindOf n = some .local) (tk : Takes X Wout)
    (hb : ∀ (W : WX) (pn : List (Addr × Obj)) (xe : Value → Shared → Prop), Takes (X.tr pn xe) W → PassesOwn (model X.prog X.w) X.A X.env xe → PSs (X.tr pn xe) body (tb W)) (hh : ClausesOk X n (h₀ :: hds) l) :
    PS X (.Try body (h₀ :: hds) [] [] pos) (fun Dn σ H => tb (wAll X.K i Wout Dn l) Dn σ H) := by
  refine ⟨fun pins s σ H Dn I h => ?_⟩
  refine wpAny_Try_except ?_
  have hfr : X.A.frames = some (X.env :: X.outer) := by rw [I.ok.frames, hs]
  let xe1 : Value → Shared → Prop := fun e s₁ => wpAny (model X.prog X.w) X.A (noteFrame e X.env) (fun _ s₂ => wpAny (model X.prog X.w) X.A (setFlight e none) (fun _ s₃ => wpAny (model X.prog X.w) X.A (handleBy e X.env (h₀ :: hds)) (SP X pins Dn) X.xe s₃) X.xe s₂) X.xe s₁
  have tk1 : Takes (X.tr (X.pn ++ pins) xe1) (wAll X.K i Wout Dn l) := fun u s' xx => by
    obtain ⟨a, B, sI, pins', σ', H', cls, d, rfl, J', nb, up, sky, na, os, ag, w⟩ := xx
    have J : L2.Inv X pins σ' H' sI := J'.ofTry I.ok
    refine Sky.land Zc.steady hfr hf (by rw [← hs]; exact sky) fun h3 fl3 up3 => ?_
    exact clauses_run (s' := s') hs hf hN hi hln tk hh ⟨J, nb, up.trans up3, os, ag, na, fl3⟩ w
  refine wpAny_mono ((hb _ (X.pn ++ pins) xe1 tk1 PassesOwn.looking).run [] s σ H Dn (I.toTry _) h) (fun f s1 hsp => ?_) (fun e s1 he => he)
  cases f with
  | next => obtain ⟨σ2, H2, J2, q⟩ := hsp; exact wpAny_execs_nil ⟨σ2, H2, J2.ofTry I.ok, q⟩
  | brk => obtain ⟨σ2, H2, J2, q⟩ := hsp; exact ⟨σ2, H2, J2.ofTry I.ok, q⟩
  | cont => obtain ⟨σ2, H2, J2, q⟩ := hsp; exact ⟨σ2, H2, J2.ofTry I.ok, q⟩
  | ret u => obtain ⟨v, σ2, H2, J2, r, q⟩ := hsp; exact ⟨v, σ2, H2, J2.ofTry I.ok, r, q⟩
end
end HL

/-! An own error class whose __init__ says super().__init__(f'.. {a}') and self.a = a. -/
namespace PySem
namespace HLX
open PySem.W PySem.Calls PyProof.Rows PySem.HandSPX
def iA (fld : Str) (p1 p2 : Pos) : Arguments := { posonlyargs := [], args := [{ arg := "self", annotation := none, pos := p1 }, { arg := fld, annotation := none, pos := p2 }], vararg := none, kwonlyargs := [], kw_defaults := [], kwarg := none, defaults := [] }
def iB (fld pre : Str) (suf : List Expr) (q1 q2 q3 q4 q5 q6 q7 q8 q9 r1 r2 r3 r4 : Pos) : List Stmt :=
  [.Expr (.Call (.Attribute (.Call (.Name "super" q1) [] [] q2) "__init__" q3) [.JoinedStr (.Constant (.str pre) 0 q4 :: .FormattedValue (.Name fld q5) (-1) none q6 :: suf) q7] [] q8) q9, .Assign [.Attribute (.Name "self" r1) fld r2] (.Name fld r3) r4]
/-- what may stand behind the field in the text: nothing, or a text -/
def sufB : List Expr → Bool
  | [] => true
  | [.Constant (.str x) _ _] => decide (x.length ≤ 100)
  | _ => false
def iS (fld : Str) : Scope := { kind := .function, names := [(PySem.Str.ofString "self", .local), (fld, .local), (PySem.Str.ofString "__class__", .free), (PySem.Str.ofString "super", .globalImplicit)], isGenerator := false, isCoroutine := false, more := [] }
/-- the scope's answers, by rfl at a written name -/
structure FldOk (fld : Str) : Prop where
  s1 : (iS fld).names.lookup (Str.ofString "super") = some NameKind.globalImplicit
  s2 : (iS fld).names.lookup (Str.ofString "__class__") = some NameKind.free
  s3 : (iS fld).names.lookup (Str.ofString "self") = some NameKind.local
  s4 : (iS fld).names.lookup fld = some NameKind.local
  d : (fld == ("__debug__" : Str)) = false
  ne : (fld == ("self" : Str)) = false
  bd : ∀ (body : List Stmt) (qual : Str) (p1 p2 : Pos) (kV doc pm : Value) (an : Option Addr) (cdv ct : Value) (cc : Addr) (x v : Value), bindArgs (ksFn "__init__" qual (iA fld p1 p2) body (iS fld) .none kV doc pm an cdv ct cc) ⟨[x, v], []⟩ = pure [(Str.ofString "self", x), (fld, v)]
/-- what the written part says of such a class, at C, its __init__ at fI -/
structure ErrTxt (P : Program) (K : Frag) (mg : Str → Option Value) (nm fld : Str) (C fI : Addr) : Prop where
  gC : mg nm = some (.ref C)
  gS : mg "super" = none
  cls : ∃ nm q N bs bm sn sub ab col dd k0 k1 k2 k3 k5, K.lookup C = some (excClassObj nm q C N bs bm true sn sub ab col dd k0 k1 k2 k3 k5 "ValueError.__new__") ∧ refsVE bm = true
  sa : findIn K (.ref C) "__setattr__" = some (some (.builtin "object.__setattr__"))
  noN : findIn K (.ref C) fld = some none
  iC : findIn K (.ref C) "__init__" = some (some (.ref fI))
  tC : typeIn K (.ref fI) = some (.type "function")
  kC : keepIn K (.ref C) = true
  xf : L2.XfC K C
  tyC : typeIn K (.ref C) = some (.type "type")
  sup : ks_superIn K C C "__init__" = some (some (.builtin "ValueError.__init__"))
  stat : nsIn K cStatics "thirdparty.any" = some none
  sb : subIn K (.ref C) (.type "ValueError") = some true
  mr : mroIn K C (.ref C) = some true
  top : (P.main.scope.names.lookup ("super" : Str)).isSome = false
  fn : ∃ (oc : Value) (od : Option Addr) (kV doc pm : Value) (an : Option Addr) (ct : Value) (osl : Array (Option Value)) (cda cc : Addr) (qual pre : Str) (suf : List Expr) (p1 p2 q1 q2 q3 q4 q5 q6 q7 q8 q9 r1 r2 r3 r4 : Pos),
    K.lookup fI = some ⟨oc, od, .func (ksFn "__init__" qual (iA fld p1 p2) (iB fld pre suf q1 q2 q3 q4 q5 q6 q7 q8 q9 r1 r2 r3 r4) (iS fld) .none kV doc pm an (.ref cda) ct cc), osl⟩ ∧ codeIn K (.ref cda) qual = true ∧ pre.length ≤ 100 ∧ sufB suf = true ∧ (q3.endLine == q8.line) = true ∧
    (∃ ccl cdd vs ccs file tf, K.lookup cda = some ⟨ccl, cdd, .fields vs, ccs⟩ ∧ vs[2]? = some (.str file tf) ∧ (P.main.file == file) = true) ∧ (∃ cl cld csl, K.lookup cc = some ⟨cl, cld, .cell (some (.ref C)), csl⟩)
structure InitEnd (h h' : Heap) (fld : Str) (x C dx t1 : Addr) (v : Value) : Prop where
  keep : ∀ b o, b ≠ x → h.get? b = some o → h'.get? b = some o
  obj : h'.get? x = some { cls := .ref C, dict := some dx, data := .fields #[.ref t1, .none, .none, .none, .bool false, .none] }
  dbig : h.objs.size ≤ dx
  dne : dx ≠ x
  ns : h'.Ns1 dx (fun y => if y = fld then some v else none)
structure OwnMade (h h' : Heap) (fld : Str) (e C d : Addr) (v : Value) : Prop where
  keep : ∀ b o, h.get? b = some o → h'.get? b = some o
  new : h.objs.size ≤ e
  obj : ∃ oe vs, h'.get? e = some oe ∧ oe.cls = .ref C ∧ oe.dict = some d ∧ oe.data = .fields vs ∧ vs[1]? = some .none
  dbig : h.objs.size ≤ d
  dne : d ≠ e
  ns : h'.Ns1 d (fun y => if y = fld then some v else none)
/-- what an error may be made with -/
def argOk : L2.V → Prop
  | .str x => x.length ≤ 1000
  | .int i => i.natAbs.log2 < 1920
  | _ => False
section
variable {prog : Program} {w : World} {A : Around} {E : Value → Shared → Prop} {R : Result → Shared → Prop} {s : Shared} {K : Frag} {mg : Str → Option Value} {C fI : Addr} {nm fld : Str}
theorem str_len (x y : Str) : (x ++ y).length = x.length + y.length := by
  show (x.cps ++ y.cps).size = _
  rw [Array.size_append]
  rfl
theorem fmt_arg {env : Env} {pos : Pos} {x : Expr} {xv : L2.V} {v : Value} {Q : Value → Shared → Prop} (r : L2.RelV xv v) (ok : argOk xv) (he : ∀ {Q1 : Value → Shared → Prop}, Q1 v s → wpAny (model prog w) A (eval x env) Q1 E s)
    (hq : ∀ y t tk, y.length ≤ 1930 → Q (.str y t) { s with toks := tk }) : wpAny (model prog w) A (eval (.FormattedValue x (-1) none pos) env) Q E s := by
  refine wpAny_FormattedValue_plain (he ?_)
  have hz := sizeLine_eq
  cases xv with
  | str y =>
    obtain ⟨t, rfl⟩ := r
    have h1 : y.length ≤ 1000 := ok
    exact wpAny_formatField_str (hq y t s.toks (by omega)) (hq y _ _ (by omega)) (by omega)
  | int i =>
    obtain ⟨t, rfl⟩ := r
    have h1 : i.natAbs.log2 < 1920 := ok
    exact wpAny_formatField_int h1 (hq _ _ _ (by have := int_text_len_1921 h1; omega))
  | _ => exact False.elim ok
theorem boot_super' : bootBuiltins (Str.ofString "super") = some (.type "super") := by decide +kernel
theorem at_method {M : Model} {c : Code} {env : Env} {o : Expr} {name : Str} {apos pos : Pos} {args : List Expr} {Q : Value → Shared → Prop} (hform : methodCallForm (args.length + ([] : List Keyword).length) (backTo pos (starEach args env)) (backToKw pos (keywordEach [] env)) = true) (hline : (apos.endLine == pos.line) = true)
    (h : PySem.wpAt M A c (attributeBase o name env (eval o env)) (fun ov s₁ => ∀ pl, wpAny M A (getMethod ov name pl) (fun fx s₂ => wpAny M A (callWith pos fx.1 fx.2 (backTo pos (starEach args env)) []) Q E s₂) E s₁) E s) :
    PySem.wpAt M A c (eval (.Call (.Attribute o name apos) args [] pos) env) Q E s := by
  have hpos : methodCallPos true o env apos pos = pure pos := by unfold methodCallPos; simp [hline]
  rw [arm_eval_Call]
  refine wpAt_bind (wpAt_mono h (fun ov s₁ h₁ => wpAt_of_wpAny (wpAny_bind (wpAny_standAt ?_))) fun _ _ z => z)
  unfold methodCall
  rw [hform]
  refine wpAny_bind (wpAny_holding (wpAny_mono (h₁ _) (fun fx s₂ h₂ => ?_) fun _ _ z => z))
  exact wpAny_bind (wpAny_of_eq hpos h₂)
theorem joins_suf {M : Model} {env : Env} {suf : List Expr} {acc : Str} {Q : Str → Shared → Prop} (hs : sufB suf = true) (ha : acc.length ≤ 2100) (h : ∀ out tk, out.length ≤ 2300 → Q out { s with toks := tk }) : Joins M A E (evalEach suf env) acc Q s := by
  have hz := sizeLine_eq
  unfold sufB at hs
  split at hs
  · exact h acc s.toks (by omega)
  · rename_i x k p
    have hx : x.length ≤ 100 := of_decide_eq_true hs
    have hl : (acc ++ x).length ≤ 2300 := by
      rw [str_len]
      omega
    show wpAny _ _ (eval (.Constant (.str x) k p) env) _ _ _
    exact Constant_str ⟨x, _, rfl, by omega, h _ _ hl⟩
  · cases hs
theorem err_init (T : ErrTxt prog K mg nm fld C fI) (fo : FldOk fld) {x t0 : Addr} {xv : L2.V} {v : Value} {mb : Str → Option Value} (X : K.In s.heap) (hg : s.heap.Ns mainGlobals mg) (hb : s.heap.Ns builtinsNs mb) (hbb : ∀ x : Str, x ≠ "__name__" → mb x = bootBuiltins x) (hlim : s.heap.NoLimit)
    (hx : s.heap.get? x = some (excO C t0)) (hnx : K.lookup x = none) (r : L2.RelV xv v) (ok : argOk xv) (hroom : A.depth < recursionLimit)
    (hq : ∀ h' tk dx t1, InitEnd s.heap h' fld x C dx t1 v → R (.ok (.ret .none)) { s with heap := h', toks := tk }) :
    codeAny (model prog w) A (.call (.ref fI) ⟨[.ref x, v], []⟩) R s := by
  obtain ⟨oc, od, kV, doc, pm, an, ct, osl, cda, cc, qual, pre, suf, p1, p2, q1, q2, q3, q4, q5, q6, q7, q8, q9, r1, r2, r3, r4, ho, hcd, hpre, hsuf, hql, ⟨ccl, cdd, vs, ccs, file, tf, hcda, hvs, hfile⟩, ⟨cl, cld, csl, hcell⟩⟩ := T.fn
  obtain ⟨nm', q, N, bs, bm, sn, sub, ab, col, dd, k0, k1, k2, k3, k5, hC, hbm⟩ := T.cls
  have hcl : clsIn K C = some { name := nm', bases := bs, mro := .ref C :: bm, ns := N, qualname := q, hasDict := true, slotNames := sn, subclasses := sub, abstract := ab, collection := col, hasDel := false } := by unfold clsIn; rw [hC] <;> rfl
  have hbind : BindsTo s (ksFn "__init__" qual (iA fld p1 p2) (iB fld pre suf q1 q2 q3 q4 q5 q6 q7 q8 q9 r1 r2 r3 r4) (iS fld) .none kV doc pm an (.ref cda) ct cc) ⟨[.ref x, v], []⟩ [("self", .ref x), (fld, v)] := BindsTo.of_eq (fo.bd _ _ _ _ _ _ _ _ _ _ _ _ _)
  have hloc : ∀ y ∈ [(("self" : Str), Value.ref x), (fld, v)], (iS fld).names.lookup y.1 = some .local := fun y hy => by
    rcases List.mem_cons.mp hy with rfl | hy
    · exact fo.s3
    · rcases List.mem_cons.mp hy with rfl | hy
      · exact fo.s4
      · cases hy
  refine ks_codeAny_call_defAt (fd := ksFn "__init__" qual (iA fld p1 p2) (iB fld pre suf q1 q2 q3 q4 q5 q6 q7 q8 q9 r1 r2 r3 r4) (iS fld) .none kV doc pm an (.ref cda) ct cc) (body := iB fld pre suf q1 q2 q3 q4 q5 q6 q7 q8 q9 r1 r2 r3 r4) (binds := [("self", .ref x), (fld, v)]) hroom (X _ _ ho) rfl hlim (codeRec_of X hcd) rfl hbind ?_ hloc (fun h₁ hns hk₁ => ?_) rfl rfl rfl
  · intro y hy e
    simp only [iS, List.mem_cons, List.not_mem_nil, or_false] at hy
    rcases hy with rfl | rfl | rfl | rfl <;> cases e
  · have X₁ : K.In h₁ := X.keeps hk₁
    have hx₁ := hk₁ _ _ hx
    have hxL : s.heap.objs.size ≠ x := Nat.ne_of_gt (Heap.lt_size hx)
    obtain ⟨hh, g, d, t, os⟩ := s
    generalize hen : callEnv (ksFn "__init__" qual (iA fld p1 p2) (iB fld pre suf q1 q2 q3 q4 q5 q6 q7 q8 q9 r1 r2 r3 r4) (iS fld) .none kV doc pm an (.ref cda) ct cc) (⟨hh, g, d, t, os⟩ : Shared).heap.objs.size fI = env
    have k1 : env.kindOf (Str.ofString "super") = some .globalImplicit := by rw [← hen]; exact fo.s1
    have k2 : env.kindOf (Str.ofString "__class__") = some .free := by rw [← hen]; exact fo.s2
    have k3 : env.kindOf (Str.ofString "self") = some .local := by rw [← hen]; exact fo.s3
    have k4 : env.kindOf fld = some .local := by rw [← hen]; exact fo.s4
    have e1 : env.func = some fI := by rw [← hen]; rfl
    have e2 : env.code = .ref cda := by rw [← hen]; rfl
    have e3 : env.scope.kind = .function := by rw [← hen]; rfl
    have e4 : env.locals = hh.objs.size := by rw [← hen]; rfl
    have e5 : List.lookup (Str.ofString "__class__") env.cells = some cc := by rw [← hen]; rfl
    have e6 : env.globals = mainGlobals := by rw [← hen]; rfl
    have e7 : env.builtins = builtinsNs := by rw [← hen]; rfl
    have e8 : interactive env = false := by rw [← hen]; rfl
    have hns' : h₁.Ns env.locals (fun y => List.lookup y [(("self" : Str), Value.ref x), (fld, v)].reverse) := by rw [e4]; exact hns
    have vself : List.lookup (Str.ofString "self") [(("self" : Str), Value.ref x), (fld, v)].reverse = some (.ref x) := by
      show List.lookup (Str.ofString "self") [(fld, v), (("self" : Str), Value.ref x)] = _
      rw [List.lookup_cons]
      have : (Str.ofString "self" == fld) = false := by rw [BEq.comm]; exact fo.ne
      rw [this]
      rfl
    have vfld : List.lookup fld [(("self" : Str), Value.ref x), (fld, v)].reverse = some v := by
      show List.lookup fld [(fld, v), (("self" : Str), Value.ref x)] = _
      rw [List.lookup_cons, beq_self_eq_true]
    have g₁ : h₁.Ns mainGlobals mg := hg.keeps hk₁
    have b₁ : h₁.Ns builtinsNs mb := hb.keeps hk₁
    have xC : x ≠ C := fun z => by rw [z, hC] at hnx; cases hnx
    refine ks_wpAt_execs_cons (ks_wpAt_Expr_any (at_method (by first | rfl | decide) hql ?_) e8 (by first | rfl | with_unfolding_all rfl))
    refine ks_wpAt_super_base k1 k2 rfl e1 (X₁ _ _ ho) rfl rfl e2 (X₁ _ _ hcda) rfl hvs hfile T.top ?_
    refine ks_loadName_global e3 k1 (loadGlobal_builtin (by rw [e6]; exact g₁) T.gS (by rw [e7]; exact b₁) ((hbb _ (by decide +kernel)).trans boot_super') ⟨rfl, ?_⟩)
    refine wpAny_loadName_free e3 k2 e5 ⟨_, X₁ _ _ hcell, rfl⟩ ?_
    refine wpAny_loadName_local e3 k3 hns' vself ?_
    refine ks_wpAny_isType_cls (X₁ _ _ hC) rfl ⟨rfl, ?_⟩
    refine ks_wpAny_call_super (X₁ _ _ hC) rfl hx₁ rfl (fun c e => by cases e) (looks_mroIn X₁ T.mr) (fun h₂ e₂ kk₂ => ?_)
    have X₂ : K.In h₂ := X₁.keeps kk₂
    have hx₂ := kk₂ _ _ hx₁
    intro pl
    have I₂ : InstAt h₂ x (excO C t0) C none := ⟨hx₂, rfl, rfl, trivial⟩
    have hsup := T.sup
    unfold ks_superIn at hsup
    rw [hcl] at hsup
    refine kxs_getMethod kxs_ValueError e₂ (looks_opaque X₂ T.stat) (l₀ := .ref C :: bm) (fun A Q E s k q => wpAny_bind ((looks_clsIn X₂ hcl) A _ E s k (wpAny_pure q))) rfl X₂ hsup (I₂.type.andThen (looks_subIn X₂ T.sb)) xC (by decide) ?_
    have kk₃ : ∀ b o, h₂.get? b = some o → (h₂.push (kxs_mw "ValueError.__init__" x)).get? b = some o := fun b o e => Heap.get?_push_of_some _ e
    have hu₃ : (h₂.push (kxs_mw "ValueError.__init__" x)).get? h₂.objs.size = some (kxs_mw "ValueError.__init__" x) := Heap.get?_push_at rfl rfl
    generalize hh₃ : h₂.push (kxs_mw "ValueError.__init__" x) = h₃ at kk₃ hu₃
    generalize hu : h₂.objs.size = u at hu₃
    have X₃ : K.In h₃ := X₂.keeps kk₃
    have hx₃ := kk₃ _ _ hx₂
    have kk₀₃ : ∀ b o, h₁.get? b = some o → h₃.get? b = some o := fun b o e => kk₃ b o (kk₂ b o e)
    have ns₃ : h₃.Ns env.locals (fun y => List.lookup y [(("self" : Str), Value.ref x), (fld, v)].reverse) := hns'.keeps kk₀₃
    have he : starEach [Expr.JoinedStr (.Constant (.str pre) 0 q4 :: .FormattedValue (.Name fld q5) (-1) none q6 :: suf) q7] env = (false, eval (Expr.JoinedStr (.Constant (.str pre) 0 q4 :: .FormattedValue (.Name fld q5) (-1) none q6 :: suf) q7) env) :: starEach [] env := rfl
    show wpAny _ _ (callWith q8 (.ref u) [] (backTo q8 (starEach [Expr.JoinedStr (.Constant (.str pre) 0 q4 :: .FormattedValue (.Name fld q5) (-1) none q6 :: suf) q7] env)) []) _ _ _
    rw [he]
    refine kxs_callWith (i := "ValueError.__init__") (x := x) rfl (evalArgs_plain ?_)
    rw [show ((false, _) :: _ : List (Bool × Sem Value)) = backTo q8 (starEach [Expr.JoinedStr (.Constant (.str pre) 0 q4 :: .FormattedValue (.Name fld q5) (-1) none q6 :: suf) q7] env) from rfl]
    have hz := sizeLine_eq
    have ee : (Str.empty ++ pre).length ≤ 100 := by
      rw [str_len]
      show 0 + pre.length ≤ 100
      omega
    refine args_cons ?_ he
    refine wpAny_JoinedStr ?_
    show wpAny _ _ (eval (.Constant (.str pre) 0 q4) env) _ _ _
    refine Constant_str ?_
    refine ⟨pre, _, rfl, by omega, ?_⟩
    show wpAny _ _ (eval (.FormattedValue (.Name fld q5) (-1) none q6) env) _ _ _
    refine fmt_arg (xv := xv) r ok (fun {Q1} q1 => wpAny_Name (wpAny_loadName_local e3 k4 ns₃ vfld q1) fo.d) fun y tk tk2 hy => ?_
    have hlen : (Str.empty ++ pre ++ y).length ≤ 2100 := by
      rw [str_len]
      omega
    refine ⟨y, tk, rfl, by omega, joins_suf hsuf hlen fun out tk3 ho => ⟨by omega, args_nil ⟨hu₃, ?_⟩⟩⟩
    show wpAny _ _ (call (.ref u) [_]) _ _ _
    refine wpAny_call (codeAny_of_tree ?_)
    show wpAny _ _ (callAny (.ref u) ⟨[_], []⟩) _ _ _
    simp only [callAny]
    refine wpAny_bind (wpAny_load hu₃ ?_)
    simp only [kxs_mw, show (Value.type "method-wrapper" == Value.type "method" || Value.type "method-wrapper" == Value.type "builtin_function_or_method" || Value.type "method-wrapper" == Value.type "method-wrapper") = true by decide, if_true]
    refine KFB.if_so (by decide) ?_
    refine wpAny_bind (check_bound_init F.excBase_ValueError.toExcCallFacts (X₃ _ _ hC) hx₃ rfl ?_)
    refine wpAny_bind (wpAny_pure (wpAny_pure ?_))
    refine ⟨plainId_quiet F.excBase_ValueError.init.plain _, codeAny_builtin F.excBase_ValueError.initEntry ?_⟩
    refine exc_init_tree (cls := .ref C) (t0 := t0) (dv := none) (c2 := .none) (c3 := .none) (b4 := .bool false) hx₃ (by simp; omega) fun h₄ k₄ hx₄ _ => ?_
    have kk₄ : ∀ b o, b ≠ x → hh.get? b = some o → h₄.get? b = some o := fun b o hb e => k₄ b o hb (kk₀₃ b o (hk₁ b o e))
    have X₄ : K.In h₄ := fun a o e => k₄ a o (fun z => by rw [z, hnx] at e; cases e) (X₃ a o e)
    have ns₄ : h₄.Ns env.locals (fun y => List.lookup y [(("self" : Str), Value.ref x), (fld, v)].reverse) := by
      obtain ⟨oL, es, ep, hL, rL⟩ := ns₃
      exact ⟨oL, es, ep, k₄ _ _ (by rw [e4]; exact hxL) hL, rL⟩
    show PySem.wpAt _ _ _ (execs _ env) _ _ _
    refine wpAt_of_wpAny (wpAny_execs_cons (plainObj_wpAny_Assign_Attribute ?_ (by first | rfl | with_unfolding_all rfl)))
    refine wpAny_Name (wpAny_loadName_local e3 k4 ns₄ vfld ?_) fo.d
    refine wpAny_Name (wpAny_loadName_local e3 k3 ns₄ vself ?_) (by decide)
    refine set_plain X₄ (ox := { cls := .ref C, data := .fields #[.ref h₃.objs.size, .none, .none, .none, .bool false, .none] }) (od := none) ⟨hx₄, rfl, rfl, trivial⟩ T.sa ?_
    refine exc_osa X₄ hx₄ hcl (show refsVE (.ref C :: bm) = true from hbm) rfl T.noN (fun h₅ tk₅ dx k₅ dn dne hx₅ hn₅ => ?_)
    refine wpAny_execs_nil (hq h₅ tk₅ dx h₃.objs.size ⟨fun b o hb e => k₅ b o hb (kk₄ b o hb e), hx₅, ?_, dne, hn₅⟩)
    have z : hh.objs.size < h₄.objs.size := by
      have := ns₄.lt
      rw [e4] at this
      exact this
    exact Nat.le_of_lt (Nat.lt_of_lt_of_le z dn)
theorem err_made (T : ErrTxt prog K mg nm fld C fI) (fo : FldOk fld) {xv : L2.V} {v : Value} {mb : Str → Option Value} (X : K.In s.heap) (hg : s.heap.Ns mainGlobals mg) (hb : s.heap.Ns builtinsNs mb) (hbb : ∀ x : Str, x ≠ "__name__" → mb x = bootBuiltins x) (hlim : s.heap.NoLimit)
    (r : L2.RelV xv v) (ok : argOk xv) (hroom : A.depth + 1 < recursionLimit)
    (hq : ∀ h' tk e d, OwnMade s.heap h' fld e C d v → R (.ok (.ret (.ref e))) { s with heap := h', toks := tk }) :
    codeAny (model prog w) A (.call (.ref C) ⟨[v], []⟩) R s := by
  obtain ⟨nm', q, N, bs, bm, sn, sub, ab, col, dd, k0, k1, k2, k3, k5, hC, hbm⟩ := T.cls
  obtain ⟨hp, g, dr, tk, os⟩ := s
  have k : ∀ b o, hp.get? b = some o → ((hp.push (kdv_tup [v])).push (excO C hp.objs.size)).get? b = some o := fun b o e => Heap.get?_push_of_some _ (Heap.get?_push_of_some _ e)
  have hget : ((hp.push (kdv_tup [v])).push (excO C hp.objs.size)).get? (hp.objs.size + 1) = some (excO C hp.objs.size) := by heap_get
  have hnx : K.lookup (hp.objs.size + 1) = none := by
    cases e : K.lookup (hp.objs.size + 1) with
    | none => rfl
    | some o =>
      have z : hp.get? (hp.objs.size + 1) = some o := X _ _ e
      exact absurd (Nat.lt_of_succ_lt (Heap.lt_size z)) (Nat.lt_irrefl _)
  refine call_own F.excBase_ValueError (fun X => refsVE_contains X bm hbm) (X _ _ hC) (looks_findIn X T.iC) (fun self => bind_fn X self T.tC) (by show 1 ≤ sizeLine; rw [sizeLine_eq]; omega) ?_
  refine err_init (s := ⟨(hp.push (kdv_tup [v])).push (excO C hp.objs.size), g, dr, tk, os⟩) T fo (X.keeps k) (hg.keeps k) (hb.keeps k) hbb (hlim.keeps k) hget hnx r ok ?_ fun h' tk' dx t1 ⟨k', hx, dn, dne, hns⟩ => ?_
  · show A.depth + 1 < recursionLimit
    exact hroom
  · have old : ∀ b o, hp.get? b = some o → h'.get? b = some o := fun b o e => k' b o (Nat.ne_of_lt (Nat.lt_succ_of_lt (Heap.lt_size e))) (k b o e)
    have z : hp.objs.size + 1 + 1 ≤ dx := by
      first
        | (simpa only [Heap.size_push] using dn)
        | exact dn
        | (have q := dn; rw [Heap.size_push, Heap.size_push] at q; exact q)
    exact ⟨rfl, hq h' tk' (hp.objs.size + 1) dx ⟨old, Nat.le_succ _, ⟨_, _, hx, rfl, rfl, rfl, rfl⟩, Nat.le_trans (Nat.le_trans (Nat.le_succ _) (Nat.le_succ _)) z, dne, hns⟩⟩
end
end HLX
end PySem
namespace HL
open PySem PySem.Spec PyProof.Rows L2
theorem relO_one {v : V} {v' : Value} (r : RelV v v') (fld f : Str) : RelO (List.lookup f [(fld, v)]) (if f = fld then some v' else none) := by
  by_cases hw : f = fld
  · subst hw
    rw [if_pos rfl]
    have q : List.lookup f [(f, v)] = some v := by simp [List.lookup]
    rw [q]
    exact r
  · rw [if_neg hw]
    have qw : (f == fld) = false := by simpa using hw
    have q2 : List.lookup f [(fld, v)] = none := by simp [List.lookup, qw]
    rw [q2]
    trivial
section
variable {X : Cx} {C fI : Addr} {nm fld : Str}
/-- C(e) -/
def tMkErr (fld : Str) (C : Addr) (ta : TA) : L2.St → Hp → XK → Prop := fun σ H Q => ta σ H fun vs H1 => ∃ v, vs = [v] ∧ HLX.argOk v ∧ ∀ d, H1 d = none → Q (.ref C) (some d) (upd H1 d (.xd [(fld, v)]))
theorem pmk_err {a : Expr} {ta : TA} {p pos : Pos} {k : Nat} (T : HLX.ErrTxt X.prog X.K X.mg nm fld C fI) (fo : HLX.FldOk fld) (hr : Room (k + 1) X.A) (ha : PA X [a] ta) (hg : Gl X nm) (hd : (nm == ("__debug__" : Str)) = false := by decide)
    (he : starEach (a :: []) X.env = (false, eval a X.env) :: starEach [] X.env := by rfl) (hpl : (backTo pos (starEach [] X.env)).any (·.1) = false := by rfl) :
    PMk X (.Call (.Name nm p) [a] [] pos) (tMkErr fld C ta) := by
  intro pins s σ H Q I h
  refine wpAny_Call_Name_kw (ld_glob I hg T.gC ?_ hd)
  refine PySem.W.callWith_K (h₀ := X.base) I.ok.mod.kin T.kC (thn (ha.run pos pins s σ H _ I h) fun us s1 hh => ?_) he hpl
  obtain ⟨vs, H1, I1, r1, v, ev, ok, q1⟩ := hh
  subst ev
  refine ⟨I1.kIn, ?_⟩
  cases r1 with
  | cons rv rn =>
    rename_i v' us'
    cases rn
    show wpAny _ _ (call (.ref C) [v']) _ _ _
    have hlim := I1.nolimit
    obtain ⟨mb, hmb, hbb⟩ := I1.ok.mod.blt
    have hb1 : s1.heap.Ns builtinsNs mb := hmb.keeps fun b o e => (I1.bs b o e).1
    have hg1 : s1.heap.Ns mainGlobals X.mg := I1.ok.mod.glob.keeps fun b o e => (I1.bs b o e).1
    obtain ⟨hp, g, dr, tk, os⟩ := s1
    refine wpAny_call (HLX.err_made T fo I1.kIn hg1 hb1 hbb hlim rv ok (by have := hr.dp; omega) fun h' tk' e d M => ?_)
    show MkP X pins σ Q (.ref e) ⟨h', g, dr, tk', os⟩
    obtain ⟨oe, fv, hoe, hc, hd, hdat, h1⟩ := M.obj
    have hns := M.ns
    obtain ⟨G', g1, g2⟩ := restrict h' fun b => decide (b ≠ e)
    have gk : ∀ b, b ≠ e → G'.get? b = h'.get? b := fun b hb => g1 b (decide_eq_true hb)
    have ge : G'.get? e = none := g2 e (by simp)
    have old : ∀ b o, hp.get? b = some o → G'.get? b = some o := fun b o q => (gk b (Nat.ne_of_lt (Nat.lt_of_lt_of_le (Heap.lt_size q) M.new))).trans (M.keep b o q)
    have ob : ObjOk X.prog X.w (upd H1 d (.xd [(fld, v)])) G' d (.xd [(fld, v)]) :=
      ⟨_, hns.at (fun o q => (gk d M.dne).trans q), fun f => relO_one rv fld f⟩
    have J : Inv X pins σ (upd H1 d (.xd [(fld, v)])) ⟨G', g, dr, tk', os⟩ := I1.laid (t' := tk') old M.dbig ob
    refine ⟨e, oe, fv, ⟨G', g, dr, tk', os⟩, _, .ref C, some d, rfl, J, fun b o q => ?_, ge, hoe, ⟨hc, hd⟩, hdat, h1, ?_, rfl, I1.bare, raises_own T.xf.exC T.tyC, q1 d (I1.hok.fresh M.dbig)⟩
    · by_cases hb : b = e
      · have q' : G'.get? b = some o := q
        rw [hb, ge] at q'; cases q'
      · exact (gk b hb).symm.trans q
    · rw [upd_ne (Ne.symm M.dne)]
      exact I1.hok.fresh M.new
/-- what an error may carry, as data -/
def argD : D → Bool
  | .str x => decide (x.length ≤ 1000)
  | .int i => decide (i.natAbs.log2 < 1920)
  | _ => false
theorem argD_ok {cl : Cl} {F : Hp} {d : D} {v : V} (h : argD d = true) (r : Rep cl F d v) : HLX.argOk v ∧ Rep cl (fun _ => none) d v := by
  cases d with
  | str x => exact ⟨by rw [RepIn.str r]; exact (of_decide_eq_true (p := x.length ≤ 1000) h), r.atom rfl⟩
  | int i => exact ⟨by rw [RepIn.int r]; exact (of_decide_eq_true (p := i.natAbs.log2 < 1920) h), r.atom rfl⟩
  | _ => cases h
/-- raise C(e) -/
def mRaise (nm fld : Str) (m : HEnv → R D) : HEnv → SO := sB m fun d env => if argD d = true then .er ⟨nm, fld, d⟩ env else .stuck
theorem ds_raise {cl : Cl} {W : WX} {a : Expr} {m : HEnv → R D} {p pos pos2 : Pos} {k : Nat} (hc : X.calm = true) (T : HLX.ErrTxt X.prog X.K X.mg nm fld C fI) (hcl : cl nm = some C) (fo : HLX.FldOk fld) (hr : Room (k + 1) X.A) (tk : Takes X W) (ha : PE X a (tF cl W m)) (hg : Gl X nm) (hd : (nm == ("__debug__" : Str)) = false := by decide)
    (hs : starEach [a] X.env = (false, eval a X.env) :: starEach [] X.env := by rfl) (hpl : (backTo pos (starEach [] X.env)).any (·.1) = false := by rfl) :
    PS X (.Raise (some (.Call (.Name nm p) [a] [] pos)) none pos2) (tS cl W (mRaise nm fld m)) := by
  refine ps_weak (ps_raise hc tk (pmk_err T fo hr (pa_cons ha pa_nil hs) hg hd hs hpl)) fun Dn σ H q => ?_
  refine stB (k := fun d env => if argD d = true then .er ⟨nm, fld, d⟩ env else .stuck) q fun d v F0 H0 F env Hs H1 s0 F1 kp s r p => ?_
  refine ⟨v, rfl, ?_⟩
  by_cases h : argD d = true
  · rw [if_pos h] at p
    obtain ⟨h1, h2⟩ := argD_ok h r
    refine ⟨h1, fun dx hdx => ?_⟩
    have hf := sub_none s.sub hdx
    exact p _ _ σ F1 _ (Ext.refl F1) (s.step (kp_new hdx) (sub_upd s.sub hf)) ⟨C, dx, v, rfl, hcl, rfl, upd_same, h2⟩
  · rw [if_neg h] at p
    exact p.elim
end
end HL

/-! try: .. except X as e: return ('X', e.f, isinstance(e, (..))) -/
namespace HL
open PySem PySem.Spec PyProof.Rows L2
theorem boot_isi : bootBuiltins "isinstance" = some (.builtin "isinstance") := by decide +kernel
/-- what an own error class must have, beside XfC, for isinstance -/
structure XkC (K : PySem.W.Frag) (C : Addr) : Prop where
  hcl : (PySem.W.clsIn K C).isSome = true
  ha : PySem.W.findIn K (.ref C) "__class__" = some (some (.builtin "object.__class__"))
  hn : PySem.W.specialIn K (.builtin "object.__class__") "__get__" = some (some (.builtin "getset_descriptor.__get__"))
  htk : PySem.W.takesIn K (.builtin "object.__class__") = some true
  hm : PySem.W.mroIn K C (.type "object") = some true
def rIsE (K : PySem.W.Frag) (a : Addr) (cls : Value) (d : Option Addr) : List V → Hp → VK → Prop := fun xs H Q => ∃ (tp : Addr) (cs : List V) (us : List Value) (b : Bool) (dd : Addr) (fs : List (Str × V)) (C : Addr),
  xs = [.ref a, .ref tp] ∧ H tp = some (.tup cs) ∧ Paired ClsV cs us ∧ cls = .ref C ∧ d = some dd ∧ H dd = some (.xd fs) ∧ PySem.W.kitAny K (.ref C) us = some b ∧ L2.XfC K C ∧ XkC K C ∧ Q (.bl b) H
section
variable {X : Cx} {a : Addr} {oe : Obj} {cls : Value} {d : Option Addr} {pn : List (Addr × Obj)}
theorem call_isE (hz : Zc cls d oe) (hf : ∃ vs, oe.data = .fields vs) : CallR (X.suite a ((a, oe) :: pn)) (.builtin "isinstance") (rIsE X.K a cls d) := by
  intro pins s σ H xs us Q I r h
  obtain ⟨tp, cs, ws, b, dd, fs, C, rfl, hT, k, ec, ed, hd, hk, T, T2, q⟩ := h
  subst ec
  subst ed
  obtain ⟨u1, u2, rfl, r1, r2⟩ := vals2 r
  cases (show u1 = Value.ref a from r1)
  cases (show u2 = Value.ref tp from r2)
  obtain ⟨ha, _⟩ := I.pin (a, oe) (List.mem_append_left _ List.mem_cons_self)
  obtain ⟨vs, hdat⟩ := hf
  have hx : ObjOk X.prog X.w H s.heap dd (.xd fs) := I.hok dd _ hd
  obtain ⟨mA, hns, hr⟩ := hx
  obtain ⟨od, ho, hl⟩ := lookIn_ns hns
  have J : PySem.W.InstAt s.heap a oe C (some od) := ⟨ha, hz.1, by unfold PySem.W.notCls; rw [hdat] <;> rfl, by rw [hz.2]; exact ho⟩
  obtain ⟨_, its, rv, o, h1, h2, n, h3⟩ := (show ObjOk X.prog X.w H s.heap tp (.tup cs) from I.hok tp _ hT)
  have e3 := ClsV.all k rv
  subst e3
  obtain ⟨oc, ood, dt, sl⟩ := o
  simp only at h2 h3
  subst h2 h3
  exact PySem.W.kia_tup (PySem.W.kitx_exc T2.hcl T.ga T.gg T.exC T2.ha T2.hn T2.htk T2.hm) I.kIn J h1 hk (fun z => nomatch z) fun tk => ⟨.bl b, H, I.tok tk, rfl, q⟩
/-- names of classes, as arguments -/
inductive Clss (X : Cx) : List Expr → List Addr → Prop where
  | nil : Clss X [] []
  | cons {x : Str} {p : Pos} {es : List Expr} {C : Addr} {Cs : List Addr} (hg : Gl X x) (hm : X.mg x = some (.ref C)) (hd : (x == ("__debug__" : Str)) = false) (hs : starEach (.Name x p :: es) X.env = (false, eval (.Name x p) X.env) :: starEach es X.env) (r : Clss X es Cs) : Clss X (.Name x p :: es) (C :: Cs)
theorem Clss.pa {es : List Expr} {Cs : List Addr} (h : Clss X es Cs) : PA X es (fun _ H Q => Q (Cs.map V.ref) H) := by
  induction h with
  | nil => exact pa_weak pa_nil fun _ _ _ q => q
  | cons hg hm hd hs r ih => exact pa_weak (pa_cons (pe_glob (v := .ref _) hg hm rfl hd) ih hs) fun _ _ _ q => q
theorem Clss.paired : ∀ (Cs : List Addr), Paired ClsV (Cs.map V.ref) (Cs.map Value.ref)
  | [] => .nil
  | C :: r => .cons (.own C) (Clss.paired r)
end

/-! ### the clauses -/
def errNames : List Str := ["HeadlessError", "Unread", "BadHead", "BadRow", "NoTable", "TooMany", "Refused"]
/-- the facts about the error classes -/
structure ExF (cl : Cl) (K : PySem.W.Frag) : Prop where
  exm : ∀ c ∈ errNames, ∀ c' ∈ errNames, ∀ C C', cl c = some C → cl c' = some C' → c ≠ "HeadlessError" → c' ≠ "HeadlessError" → PySem.W.exmOne K (.ref C) (.ref C') = some (c == c')
  xf : ∀ c ∈ errNames, ∀ C, cl c = some C → L2.XfC K C ∧ XkC K C
/-- a clause: its class, the field, the tag -/
abbrev Cla := Str × Str × Str
def hOut : List Cla → Er → HEnv → SO
  | [], x, e => .er x e
  | (c, fld, tag) :: r, x, e => if errNames.contains x.cls = true ∧ x.cls ≠ "HeadlessError" then (if (x.cls == c) = true then (if x.fld = fld then .rt false (.tup [.str tag, x.arg, .bl false]) else .stuck) else hOut r x e) else .stuck
def mTry (i : Nat) (b : HEnv → SO) (hds : List Cla) : HEnv → SO := fun env => match b env with
  | .er x e => if i < e.length then hOut hds x e else .stuck
  | .nx e => .nx e
  | .rt o d => .rt o d
  | .bk e => .bk e
  | .ct e => .ct e
  | .stuck => .stuck
/-- the suite's reading -/
def tTell (cl : Cl) (K : PySem.W.Frag) (i : Nat) (C : Addr) (fld tag : Str) (Cs : List Addr) : Addr → Value → Option Addr → TS := fun a cls d Dn σ H => ∃ (F0 : Bs) (H0 F : Hp) (dd : Addr) (v : V) (arg : D), σ[i]? = some (some (.ref a)) ∧ Kp F0.1 H0 F H ∧ Sub F H ∧ cls = .ref C ∧ d = some dd ∧ H dd = some (.xd [(fld, v)]) ∧ Rep cl F arg v ∧ PySem.W.kitAny K (.ref C) (Cs.map Value.ref) = some false ∧
  PostS cl WNo Dn F0 H0 F (.rt false (.tup [.str tag, arg, .bl false]))
section
variable {X : Cx} {a : Addr} {oe : Obj} {cls : Value} {d : Option Addr} {pn : List (Addr × Obj)} {cl : Cl}
theorem suite_tell {i : Nat} {C : Addr} {fld tag : Str} {Cs : List Addr} {en1 en2 : Expr} {es : List Expr} {j : Nat} {ps p1 p2 p3 p4 p5 p6 : Pos} {x1 x2 : _} (T : L2.XfC X.K C) (T2 : XkC X.K C) (hno : PySem.W.findIn X.K (.ref C) fld = some none) (hz : Zc cls d oe) (hf : ∃ vs, oe.data = .fields vs)
    (h1 : PE (X.suite a ((a, oe) :: pn)) en1 (tVar i)) (h2 : PE (X.suite a ((a, oe) :: pn)) en2 (tVar i)) (hc : Clss (X.suite a ((a, oe) :: pn)) es Cs) (hg : Gl X "isinstance") (hm : X.mg "isinstance" = none) (few : decide (Cs.length ≤ 60) = true)
    (hb : attributeBase en1 fld X.env (eval en1 X.env) = eval en1 X.env := by rfl)
    (hs1 : starEach [.Constant (.str tag) j p1, .Attribute en1 fld p2, .Call (.Name "isinstance" p3) [en2, .Tuple es x1 p4] [] p5] X.env = (false, eval (.Constant (.str tag) j p1) X.env) :: starEach [.Attribute en1 fld p2, .Call (.Name "isinstance" p3) [en2, .Tuple es x1 p4] [] p5] X.env := by rfl)
    (hs2 : starEach [.Attribute en1 fld p2, .Call (.Name "isinstance" p3) [en2, .Tuple es x1 p4] [] p5] X.env = (false, eval (.Attribute en1 fld p2) X.env) :: starEach [.Call (.Name "isinstance" p3) [en2, .Tuple es x1 p4] [] p5] X.env := by rfl)
    (hs3 : starEach [.Call (.Name "isinstance" p3) [en2, .Tuple es x1 p4] [] p5] X.env = (false, eval (.Call (.Name "isinstance" p3) [en2, .Tuple es x1 p4] [] p5) X.env) :: starEach [] X.env := by rfl)
    (hs4 : starEach [en2, .Tuple es x1 p4] X.env = (false, eval en2 X.env) :: starEach [.Tuple es x1 p4] X.env := by rfl) (hs5 : starEach [.Tuple es x1 p4] X.env = (false, eval (.Tuple es x1 p4) X.env) :: starEach [] X.env := by rfl)
    (hpl : (backTo p5 (starEach [.Tuple es x1 p4] X.env)).any (·.1) = false := by rfl) :
    PSs (X.suite a ((a, oe) :: pn)) [.Return (some (.Tuple [.Constant (.str tag) j p1, .Attribute en1 fld p2, .Call (.Name "isinstance" p3) [en2, .Tuple es x1 p4] [] p5] x2 p6)) ps] (tTell cl X.K i C fld tag Cs a cls d) := by
  refine pss_weak (pss_one (ps_ret (pe_tup (pa_cons pe_str (pa_cons (pe_xf T hno hz hf h1 hb) (pa_cons (pe_callB (call_isE hz hf) hg hm boot_isi (pa_cons h2 (pa_cons (pe_tup hc.pa) pa_nil hs5) hs4) (by decide) (by decide) hs4 hpl) pa_nil hs3) hs2) hs1)))) fun Dn σ H q => ?_
  obtain ⟨F0, H0, F, dd, v, arg, hi, k, s, rfl, rfl, hd, r, hk, p⟩ := q
  refine ⟨.ref a, hi, rfl, rfl, dd, _, v, rfl, hd, by simp [List.lookup], ?_⟩
  refine ⟨.ref a, hi, ?_⟩
  have zl : (Cs.map V.ref).length ≤ sizeLine := by rw [List.length_map]; exact few_line few
  refine ⟨zl, fun tp htp => ?_⟩
  have ft := sub_none s htp
  have s1 : Sub F (upd H tp (.tup (Cs.map V.ref))) := sub_upd s ft
  have k1 : Kp F0.1 H0 F (upd H tp (.tup (Cs.map V.ref))) := k.trans (kp_new htp)
  have hdt : dd ≠ tp := ne_of_none hd htp
  refine ⟨tp, _, _, false, dd, _, C, rfl, upd_same, Clss.paired Cs, rfl, rfl, by rw [upd_ne hdt]; exact hd, hk, T, T2, ?_⟩
  refine ⟨by show 3 ≤ sizeLine; rw [sizeLine_eq]; omega, fun p' hp' => ?_⟩
  obtain ⟨F2, x2, k2, s2, r2, _⟩ := freezeO (u := .tup [.str tag, v, .bl false]) (cl := cl) (d := .tup [.str tag, arg, .bl false]) (k1.trans (kp_new hp')) (sub_upd s1 (sub_none s1 hp')) (k1.same.free hp') (sub_none s1 hp') upd_same
    ⟨_, rfl, by simp only [RepL, Rep]; exact ⟨_, _, rfl, rfl, _, _, rfl, r, _, _, rfl, rfl, rfl⟩, by show 3 ≤ sizeLine; rw [sizeLine_eq]; omega⟩
  exact p _ F2 _ k2 s2 (by unfold RetR; rw [if_neg (by decide)]; exact r2)
end
/-- the clauses' data against the text's -/
inductive ClaOk (cl : Cl) (X : Cx) (n : Str) (i : Nat) : List ExceptHandler → List Cla → List Clause → Prop
  | nil : ClaOk cl X n i [] [] []
  | cons {x fld tag : Str} {C : Addr} {Cs : List Addr} {st : Stmt} {sts : List Stmt} {np ps : Pos} {hds : List ExceptHandler} {l : List Cla} {q : List Clause} (hx : x ∈ errNames) (hne : x ≠ "HeadlessError") (hcl : cl x = some C) (hc : Names X x (.ref C)) (hk : PySem.W.kitAny X.K (.ref C) (Cs.map Value.ref) = some false)
      (hsu : ∀ (a : Addr) (oe : Obj) (cls : Value) (d : Option Addr) (pn : List (Addr × Obj)), Zc cls d oe → (∃ vs, oe.data = .fields vs) → PSs (X.suite a ((a, oe) :: pn)) (st :: sts) (tTell cl X.K i C fld tag Cs a cls d)) (r : ClaOk cl X n i hds l q) :
      ClaOk cl X n i (.ExceptHandler (some (.Name x np)) (some n) (st :: sts) ps :: hds) ((x, fld, tag) :: l) ((.ref C, tTell cl X.K i C fld tag Cs) :: q)
section
variable {X : Cx} {cl : Cl} {n : Str} {i : Nat} {W : WX} {pos : Pos}
theorem ClaOk.ok {hds : List ExceptHandler} {l : List Cla} {q : List Clause} (h : ClaOk cl X n i hds l q) : ClausesOk X n hds q := by
  induction h with
  | nil => exact .nil
  | cons hx hne hcl hc hk hsu r ih => exact .cons hc hsu ih
theorem ClaOk.all (T : ExF cl X.K) {hds : List ExceptHandler} {l : List Cla} {q : List Clause} (h : ClaOk cl X n i hds l q) {Dn : Ends} {F0 : Bs} {H0 F : Hp} {e : HEnv} {σ : L2.St} {H : Hp} {x : Er} {cls : Value} {dd : Option Addr} (hi : i < σ.length) (s : HSt cl F0 H0 F e σ H) (r : ERep cl H x cls dd)
    (p : PostS cl W Dn F0 H0 F (hOut l x e)) : wAll X.K i W Dn q cls dd σ H := by
  induction h with
  | nil => exact p cls dd σ F H (Ext.refl F) s r
  | cons hx hne hcl hc hk hsu rr ih =>
    rename_i c fld tag C Cs st sts np ps hds l q
    unfold hOut at p
    split at p
    case isFalse => exact p.elim
    rename_i h1
    obtain ⟨C', dx, v, e1, e2, e3, e4, e5⟩ := id r
    subst e1
    refine ⟨(x.cls == c), T.exm _ (by simpa using h1.1) _ hx _ _ e2 hcl h1.2 hne, ?_⟩
    by_cases hb : (x.cls == c) = true
    · rw [if_pos hb] at p ⊢
      split at p
      case isFalse => exact p.elim
      rename_i hfld
      have ec : x.cls = c := eq_of_beq hb
      have eC : C' = C := by rw [ec, hcl] at e2; exact (Option.some.inj e2).symm
      subst eC
      intro a ha
      refine ⟨F0, H0, F, dx, v, x.arg, ?_, s.kp, s.sub, rfl, e3, by rw [← hfld]; exact e4, e5.ext (fun p u z => by cases z), hk, p⟩
      rw [List.getElem?_set_self hi]
    · rw [if_neg hb] at p ⊢
      exact ih p
theorem ds_try {body : List Stmt} {h₀ : ExceptHandler} {hds : List ExceptHandler} {l : List Cla} {q : List Clause} {b : HEnv → SO} (T : ExF cl X.K) (hs : X.stack = X.env :: X.outer) (hf : X.env.frame = some X.env.locals) (hN : X.N.Nodup) (hi : X.N[i]? = some n) (hln : X.env.kindOf n = some .local) (tk : Takes X W)
    (hb : ∀ (W : WX) (pn : List (Addr × Obj)) (xe : Value → Shared → Prop), Takes (X.tr pn xe) W → PassesOwn (model X.prog X.w) X.A X.env xe → PSs (X.tr pn xe) body (tS cl W b)) (hh : ClaOk cl X n i (h₀ :: hds) l q) :
    PS X (.Try body (h₀ :: hds) [] [] pos) (tS cl W (mTry i b l)) := by
  have base := ps_try_all (pos := pos) (tb := fun W => tS cl W b) hs hf hN hi hln tk hb hh.ok
  refine ⟨fun pins s σ H Dn I q => base.run pins s σ H Dn I ?_⟩
  obtain ⟨F0, H0, F, env, st, q⟩ := q
  refine ⟨F0, H0, F, env, st, ?_⟩
  unfold mTry at q
  cases eb : b env with
  | er x e =>
    rw [eb] at q
    simp only at q
    split at q
    case isFalse => exact q.elim
    rename_i hl
    intro cls dd σ' F' H' k s' r
    exact hh.all T (by rw [s'.len]; exact hl) s' r (q.ext k)
  | nx e => rw [eb] at q; exact q
  | rt o d => rw [eb] at q; exact q
  | bk e => rw [eb] at q; exact q
  | ct e => rw [eb] at q; exact q
  | stuck => rw [eb] at q; exact q.elim
end
end HL

/-! What a law's text asks of the written part: constants, error classes. -/
namespace HL
open PySem PySem.Spec PyProof.Rows L2
theorem hu64 {k : Nat} {A : Around} (hr : Room k A) : A.units + 64 < cLine := by have := hr.un; omega
theorem hu65 {k : Nat} {A : Around} (hr : Room k A) : A.units + 65 < cLine := by have := hr.un; omega
/-- a module's constant -/
def Cst (mg : Str → Option Value) (x : Str) (d : D) : Prop := ∃ (u : Value) (v : V), vD d = some v ∧ mg x = some u ∧ RelV v u
theorem d_cst {X : Cx} {cl : Cl} {W : WX} {x : Str} {d : D} {pos : Pos} (hg : Gl X x) (h : Cst X.mg x d) (hd : (x == ("__debug__" : Str)) = false := by decide) : PE X (.Name x pos) (tF cl W (mC d)) := by
  obtain ⟨u, v, h1, h2, h3⟩ := h
  exact d_glob hg h2 h3 h1 hd
theorem cst_int {K : PySem.W.Frag} {h : Heap} {mg : Str → Option Value} {x : Str} {i : Int} {t : Tok} (X : K.In h) (G : h.Ns mainGlobals mg) (a : PySem.W.nsIn K mainGlobals x = some (some (.int i t))) : Cst mg x (.int i) := ⟨_, _, rfl, PySem.W.mg_of X G a, ⟨t, rfl⟩⟩
theorem cst_str {K : PySem.W.Frag} {h : Heap} {mg : Str → Option Value} {x : Str} {i : Str} {t : Tok} (X : K.In h) (G : h.Ns mainGlobals mg) (a : PySem.W.nsIn K mainGlobals x = some (some (.str i t))) : Cst mg x (.str i) := ⟨_, _, rfl, PySem.W.mg_of X G a, ⟨t, rfl⟩⟩
/-! ### the error classes -/
def fileB (P : Program) (vs : Array Value) : Bool := match vs[2]? with
  | some (Value.str file _) => P.main.file == file
  | _ => false
theorem fileB_ok {P : Program} {vs : Array Value} (h : fileB P vs = true) : ∃ file tf, vs[2]? = some (Value.str file tf) ∧ (P.main.file == file) = true := by
  unfold fileB at h
  split at h
  · rename_i file tf hv
    exact ⟨file, tf, hv, h⟩
  · cases h
open PySem.W in
def errB (P : Program) (K : PySem.W.Frag) (fld : Str) (C fI cda : Addr) (vs : Array Value) (bm : List Value) (qual pre : Str) (suf : List Expr) (q3 q8 : Pos) : Bool :=
  HandSPX.refsVE bm && decide (findIn K (.ref C) "__setattr__" = some (some (.builtin "object.__setattr__"))) && decide (findIn K (.ref C) fld = some none) && decide (typeIn K (.ref fI) = some (.type "function")) && keepIn K (.ref C) && L2.xfB K C &&
  decide (typeIn K (.ref C) = some (.type "type")) && decide (ks_superIn K C C "__init__" = some (some (.builtin "ValueError.__init__"))) && decide (nsIn K cStatics "thirdparty.any" = some none) && decide (subIn K (.ref C) (.type "ValueError") = some true) && decide (mroIn K C (.ref C) = some true) &&
  !(P.main.scope.names.lookup ("super" : Str)).isSome && codeIn K (.ref cda) qual && decide (pre.length ≤ 100) && HLX.sufB suf && (q3.endLine == q8.line) && fileB P vs &&
  (clsIn K C).isSome && decide (findIn K (.ref C) "__class__" = some (some (.builtin "object.__class__"))) && decide (specialIn K (.builtin "object.__class__") "__get__" = some (some (.builtin "getset_descriptor.__get__"))) && decide (takesIn K (.builtin "object.__class__") = some true) && decide (mroIn K C (.type "object") = some true)
structure ErrAll (P : Program) (K : PySem.W.Frag) (mg : Str → Option Value) (cl : Cl) (nm fld : Str) : Prop where
  ex : ∃ C fI, HLX.ErrTxt P K mg nm fld C fI ∧ XkC K C ∧ cl nm = some C
theorem err_mk {P : Program} {K : PySem.W.Frag} {h : Heap} {mg : Str → Option Value} {cl : Cl} {nm fld : Str} {C fI cda cc : Addr} {nm' q : Str} {N : Addr} {bs bm : List Value} {sn : List Str} {sub : List Value} {ab : Bool} {col : Option Bool} {dd : Option Addr} {k0 k1 k2 k3 k5 : Option Value}
    {oc : Value} {od : Option Addr} {kV doc pm : Value} {an : Option Addr} {ct : Value} {osl : Array (Option Value)} {qual pre : Str} {suf : List Expr} {p1 p2 q1 q2 q3 q4 q5 q6 q7 q8 q9 r1 r2 r3 r4 : Pos} {ccl : Value} {cdd : Option Addr} {vs : Array Value} {ccs : Array (Option Value)} {cl' : Value} {cld : Option Addr} {csl : Array (Option Value)}
    (X : K.In h) (G : h.Ns mainGlobals mg) (zs : PySem.W.nsIn K mainGlobals "super" = some none) (hcl : cl nm = some C)
    (a : PySem.W.nsIn K mainGlobals nm = some (some (.ref C)))
    (l : K.lookup C = some (excClassObj nm' q C N bs bm true sn sub ab col dd k0 k1 k2 k3 k5 "ValueError.__new__"))
    (i : PySem.W.findIn K (.ref C) "__init__" = some (some (.ref fI)))
    (lf : K.lookup fI = some ⟨oc, od, .func (PySem.W.ksFn "__init__" qual (HLX.iA fld p1 p2) (HLX.iB fld pre suf q1 q2 q3 q4 q5 q6 q7 q8 q9 r1 r2 r3 r4) (HLX.iS fld) .none kV doc pm an (.ref cda) ct cc), osl⟩)
    (lc : K.lookup cda = some ⟨ccl, cdd, .fields vs, ccs⟩) (ll : K.lookup cc = some ⟨cl', cld, .cell (some (.ref C)), csl⟩)
    (b : errB P K fld C fI cda vs bm qual pre suf q3 q8 = true) : ErrAll P K mg cl nm fld := by
  unfold errB at b
  simp only [Bool.and_eq_true, decide_eq_true_eq, Bool.not_eq_true'] at b
  obtain ⟨⟨⟨⟨⟨⟨⟨⟨⟨⟨⟨⟨⟨⟨⟨⟨⟨⟨⟨⟨⟨b1, b2⟩, b3⟩, b4⟩, b5⟩, b6⟩, b7⟩, b8⟩, b9⟩, b10⟩, b11⟩, b12⟩, b13⟩, b14⟩, b14s⟩, b15⟩, b16⟩, b17⟩, b18⟩, b19⟩, b20⟩, b21⟩ := b
  refine ⟨C, fI, ⟨PySem.W.mg_of X G a, PySem.W.mg_none_of X G zs, ⟨_, _, _, _, _, _, _, _, _, _, _, _, _, _, _, l, b1⟩, b2, b3, i, b4, b5, L2.xfB_ok b6, b7, b8, b9, b10, b11, b12, ?_⟩, ⟨b17, b18, b19, b20, b21⟩, hcl⟩
  obtain ⟨file, tf, hv, hfl⟩ := fileB_ok b16
  exact ⟨_, _, _, _, _, _, _, _, _, _, _, _, _, _, _, _, _, _, _, _, _, _, _, _, _, _, _, _, lf, b13, b14, b14s, b15, ⟨_, _, _, _, _, _, lc, hv, hfl⟩, ⟨_, _, _, ll⟩⟩
/-- raise X(e) -/
theorem ds_raiseE {X : Cx} {nm fld : Str} {cl : Cl} {W : WX} {a : Expr} {m : HEnv → R D} {p pos pos2 : Pos} {k : Nat} (T : ErrAll X.prog X.K X.mg cl nm fld) (hc : X.calm = true) (fo : HLX.FldOk fld) (hr : Room (k + 1) X.A) (tk : Takes X W) (ha : PE X a (tF cl W m)) (hg : Gl X nm) (hd : (nm == ("__debug__" : Str)) = false := by decide)
    (hs : starEach [a] X.env = (false, eval a X.env) :: starEach [] X.env := by rfl) (hpl : (backTo pos (starEach [] X.env)).any (·.1) = false := by rfl) :
    PS X (.Raise (some (.Call (.Name nm p) [a] [] pos)) none pos2) (tS cl W (mRaise nm fld m)) := by
  obtain ⟨C, fI, h1, h2, h3⟩ := T.ex
  exact ds_raise hc h1 h3 fo hr tk ha hg hd hs hpl
theorem fo_limit : HLX.FldOk "limit" := ⟨rfl, rfl, rfl, rfl, by decide, by decide, fun _ _ _ _ _ _ _ _ _ _ _ _ _ => rfl⟩
theorem fo_at : HLX.FldOk "at" := ⟨rfl, rfl, rfl, rfl, by decide, by decide, fun _ _ _ _ _ _ _ _ _ _ _ _ _ => rfl⟩
theorem fo_name : HLX.FldOk "name" := ⟨rfl, rfl, rfl, rfl, by decide, by decide, fun _ _ _ _ _ _ _ _ _ _ _ _ _ => rfl⟩
theorem fo_column : HLX.FldOk "column" := ⟨rfl, rfl, rfl, rfl, by decide, by decide, fun _ _ _ _ _ _ _ _ _ _ _ _ _ => rfl⟩

/-! ### the classes' table -/
def clOf (l : List (Str × Addr)) : Cl := fun c => l.lookup c
def exB (K : PySem.W.Frag) (l : List (Str × Addr)) : Bool := l.all fun p => l.all fun q => decide (PySem.W.exmOne K (.ref p.2) (.ref q.2) = some (p.1 == q.1)) && decide (PySem.W.kitOne K (.ref p.2) (.ref q.2) = some (p.1 == q.1))
theorem lookup_mem {κ α : Type} [BEq κ] [LawfulBEq κ] {x : κ} {v : α} : ∀ {l : List (κ × α)}, l.lookup x = some v → (x, v) ∈ l
  | [], h => by cases h
  | (y, u) :: r, h => by
    rw [List.lookup_cons] at h
    by_cases e : (x == y) = true
    · rw [e] at h
      cases h
      rw [eq_of_beq e]
      exact List.mem_cons_self
    · rw [Bool.not_eq_true] at e
      rw [e] at h
      exact List.mem_cons_of_mem _ (lookup_mem h)
/-- the table's facts: lE the error classes, lO further ones -/
structure ErrTab (cl : Cl) (K : PySem.W.Frag) : Prop where
  ex : ExF cl K
  kit : ∀ c ∈ errNames, ∀ c' ∈ errNames, ∀ C C', cl c = some C → cl c' = some C' → c ≠ "HeadlessError" → c' ≠ "HeadlessError" → PySem.W.kitOne K (.ref C) (.ref C') = some (c == c')
theorem errTab_mk {K : PySem.W.Frag} {l : List (Str × Addr)} (h : exB K l = true) (hx : ∀ p ∈ l, L2.XfC K p.2 ∧ XkC K p.2) : ErrTab (clOf l) K := by
  unfold exB at h
  simp only [List.all_eq_true, Bool.and_eq_true, decide_eq_true_eq] at h
  exact ⟨⟨fun c _ c' _ C C' e e' _ _ => (h _ (lookup_mem e) _ (lookup_mem e')).1, fun c _ C e => hx _ (lookup_mem e)⟩, fun c _ c' _ C C' e e' _ _ => (h _ (lookup_mem e) _ (lookup_mem e')).2⟩
theorem kit_none {K : PySem.W.Frag} {cl : Cl} (T : ErrTab cl K) {x : Str} {C : Addr} (hx : x ∈ errNames) (hne : x ≠ "HeadlessError") (hcl : cl x = some C) : ∀ {ns : List Str} {Cs : List Addr}, (ns.all fun c => errNames.contains c && (c != "HeadlessError" && x != c)) = true → ns.map cl = Cs.map some → PySem.W.kitAny K (.ref C) (Cs.map Value.ref) = some false
  | [], [], _, _ => kitAny_nil
  | [], C :: Cs, _, h => by cases h
  | c :: ns, [], _, h => by cases h
  | c :: ns, C' :: Cs, ha, h => by
    simp only [List.all_cons, Bool.and_eq_true] at ha
    simp only [List.map_cons, List.cons.injEq] at h
    obtain ⟨⟨h1, h2, h3⟩, h4⟩ := ha
    have e : (x == c) = false := by simpa [bne] using h3
    refine kitAny_cons (b := false) ?_ (fun _ => kit_none T hx hne hcl (by simpa using h4) h.2) (fun z => by cases z)
    rw [← e]
    exact T.kit x hx c (by simpa using h1) C C' hcl h.1 hne (by simpa [bne] using h2)
theorem ErrAll.xf {P : Program} {K : PySem.W.Frag} {mg : Str → Option Value} {cl : Cl} {nm fld : Str} (E : ErrAll P K mg cl nm fld) {C : Addr} (h : cl nm = some C) : L2.XfC K C ∧ XkC K C := by
  obtain ⟨C', fI, h1, h2, h3⟩ := E.ex
  rw [h] at h3
  cases h3
  exact ⟨h1.xf, h2⟩
theorem cla_cons {X : Cx} {cl : Cl} {n : Str} {i : Nat} {x fld tag : Str} {ns : List Str} {Cs : List Addr} {C : Addr} {st : Stmt} {sts : List Stmt} {np ps : Pos} {hds : List ExceptHandler} {l : List Cla} {q : List Clause} (T : ErrTab cl X.K) (E : ErrAll X.prog X.K X.mg cl x fld) (hx : x ∈ errNames) (hne : x ≠ "HeadlessError")
    (hall : (ns.all fun c => errNames.contains c && (c != "HeadlessError" && x != c)) = true) (hg : Gl X x) (hd : (x == ("__debug__" : Str)) = false) (hm : X.mg x = some (.ref C)) (hcl : cl x = some C) (hns : ns.map cl = Cs.map some)
    (hsu : ∀ (a : Addr) (oe : Obj) (cls : Value) (d : Option Addr) (pn : List (Addr × Obj)), Zc cls d oe → (∃ vs, oe.data = .fields vs) → L2.XfC X.K C → XkC X.K C → PySem.W.findIn X.K (.ref C) fld = some none → PSs (X.suite a ((a, oe) :: pn)) (st :: sts) (tTell cl X.K i C fld tag Cs a cls d))
    (r : ClaOk cl X n i hds l q) : ClaOk cl X n i (.ExceptHandler (some (.Name x np)) (some n) (st :: sts) ps :: hds) ((x, fld, tag) :: l) ((.ref C, tTell cl X.K i C fld tag Cs) :: q) := by
  obtain ⟨C', fI, h1, h2, h3⟩ := E.ex
  rw [hcl] at h3
  cases h3
  exact .cons hx hne hcl ⟨hg, hd, .inl hm⟩ (kit_none T hx hne hcl hall hns) (fun a oe cls d pn hz hf => hsu a oe cls d pn hz hf h1.xf h2 h1.noN) r
/-! ### the end -/
theorem cx_end {P : Program} {w : World} {outer : List PySem.Env} {H : Hp} {s : Shared} {e : Value} {s' : Shared} (h : L2.CX P w outer H s (fun _ _ _ => False) e s') : False := by
  obtain ⟨_, _, _, _, _, _, _, _, _, _, _, _, z⟩ := h
  exact z
def noLst (K : PySem.W.Frag) : Bool := K.all fun p => match p.2.cls with
  | .type t => t != "list"
  | _ => true
theorem noLst_of {K : PySem.W.Frag} (h : noLst K = true) {a : Addr} {o : Obj} (e : K.lookup a = some o) : o.cls ≠ .type "list" := fun z => by
  have := List.all_eq_true.mp h _ (lookup_mem e)
  simp [z] at this
theorem ints_rep {cl : Cl} {F : Hp} : ∀ ns : List Int, RepL cl F (ns.map D.int) (ns.map V.int)
  | [] => by simp only [List.map_nil, RepL]
  | n :: r => by simp only [List.map_cons, RepL, Rep]; exact ⟨_, _, rfl, rfl, ints_rep r⟩
theorem script_ok {cl : Cl} {f : List D → R (Bool × D)} {K : PySem.W.Frag} {n : Nat} (hn : n ≤ 1000) (hlaw : ∀ ns : List Int, ns.length ≤ n → ∃ o, f [.lst (ns.map D.int)] = .ok (o, .bl true)) (hK : noLst K = true) {H : Hp} {a : Addr} {ns : List Int} (hl : ns.length ≤ n) (hS : SqL K H a (ns.map V.int)) :
    spD cl 1 f [.ref a] H (fun v _ => v = .bl true) fun _ _ _ => False := by
  obtain ⟨o, hf⟩ := hlaw ns hl
  rcases hS with hR | ⟨o, its, m, e, c, _⟩
  case inr => exact (noLst_of hK e c).elim
  refine ⟨rfl, fun b => if b = a then some (.lst (ns.map V.int)) else none, [.lst (ns.map D.int)], fun p u e => ?_, ?_, ?_⟩
  · by_cases hp : p = a
    · subst hp
      have e' := (if_pos rfl).symm.trans e
      cases e'
      exact ⟨hR, fun z => by cases z⟩
    · have e' := (if_neg hp).symm.trans e
      cases e'
  · simp only [RepL, Rep]
    refine ⟨_, _, rfl, ⟨a, _, rfl, if_pos rfl, ints_rep ns, ?_⟩, rfl⟩
    rw [List.length_map, sizeLine_eq]
    omega
  · rw [hf]
    intro v F' H' k s r
    cases o with
    | false => exact RepIn.bl (by simpa [RetR] using r)
    | true =>
      obtain ⟨p, rfl, h0, hff, u, hu, ob, mu⟩ : relN cl H F' H' (.bl true) v := by simpa [RetR] using r
      exact ob.elim
end HL

/-! Plain lemmas: how a text's meaning is reckoned. -/
namespace HL
open PySem PySem.Spec PyProof.Rows L2
theorem mSeq_nx {a b : HEnv → SO} {env e : HEnv} (h : a env = .nx e) : mSeq a b env = b e := by unfold mSeq; rw [h]
theorem mSeq_rt {a b : HEnv → SO} {env : HEnv} {o : Bool} {d : D} (h : a env = .rt o d) : mSeq a b env = .rt o d := by unfold mSeq; rw [h]
theorem mSeq_er {a b : HEnv → SO} {env e : HEnv} {x : Er} (h : a env = .er x e) : mSeq a b env = .er x e := by unfold mSeq; rw [h]
theorem sB_ok {α : Type} {m : HEnv → R α} {k : α → HEnv → SO} {env : HEnv} {a : α} (h : m env = .ok a) : sB m k env = k a env := by unfold sB; rw [h]
theorem mSet_ok {i : Nat} {m : HEnv → R D} {env : HEnv} {d : D} (h : m env = .ok d) : mSet i m env = .nx (env.set i (.val d)) := sB_ok h
theorem mSetN_ok {i : Nat} {m : HEnv → R D} {env : HEnv} {d : D} (h : m env = .ok d) : mSetN i m env = .nx (env.set i (.own d)) := sB_ok h
theorem mRet_ok {m : HEnv → R D} {env : HEnv} {d : D} (h : m env = .ok d) : mRet m env = .rt false d := sB_ok h
theorem mRetN_ok {m : HEnv → R D} {env : HEnv} {d : D} (h : m env = .ok d) : mRetN m env = .rt true d := sB_ok h
theorem mIf_tt {t : HEnv → R Bool} {a b : HEnv → SO} {env : HEnv} (h : t env = .ok true) : mIfS t a b env = a env := (sB_ok h).trans (if_pos rfl)
theorem mIf_ff {t : HEnv → R Bool} {a b : HEnv → SO} {env : HEnv} (h : t env = .ok false) : mIfS t a b env = b env := (sB_ok h).trans (if_neg (by decide))
theorem mFor_ok {src : HEnv → R (List D)} {g : D → HEnv → R HEnv} {b : HEnv → SO} {env : HEnv} {ds : List D} (h : src env = .ok ds) : mFor src g b env = forL g b ds env := sB_ok h
theorem m1_ok {α β : Type} {f : α → R β} {m : HEnv → R α} {env : HEnv} {a : α} (h : m env = .ok a) : m1 f m env = f a := by unfold m1; rw [h]; rfl
theorem m2_ok {α β γ : Type} {f : α → β → R γ} {ma : HEnv → R α} {mb : HEnv → R β} {env : HEnv} {a : α} {b : β} (h : ma env = .ok a) (k : mb env = .ok b) : m2 f ma mb env = f a b := by unfold m2; rw [h, R.bind_ok, k]; rfl
theorem mComp_ok {vs : List Nat} {src : HEnv → R (List D)} {g : D → HEnv → R HEnv} {t : HEnv → R Bool} {el : HEnv → R D} {env : HEnv} {ds ys : List D} (h : src env = .ok ds) (k : compL g t el (wipeE env vs) ds = .ok ys) : mComp vs src g t el env = .ok (.lst ys) := by
  unfold mComp
  rw [h, R.bind_ok, k]
theorem fnS_rt {n : Nat} {body : HEnv → SO} {ds : List D} {o : Bool} {d : D} (h : body (ds.map Slot.val ++ List.replicate (n - ds.length) Slot.no) = .rt o d) : fnS n body ds = .ok (o, d) := by unfold fnS; rw [h]
theorem fnS_er {n : Nat} {body : HEnv → SO} {ds : List D} {x : Er} {e : HEnv} (h : body (ds.map Slot.val ++ List.replicate (n - ds.length) Slot.no) = .er x e) : fnS n body ds = .er x := by unfold fnS; rw [h]
theorem fnS_nx {n : Nat} {body : HEnv → SO} {ds : List D} {e : HEnv} (h : body (ds.map Slot.val ++ List.replicate (n - ds.length) Slot.no) = .nx e) : fnS n body ds = .ok (false, .non) := by unfold fnS; rw [h]
/-- a comprehension that keeps all -/
theorem compL_map {α : Type} {i : Nat} {el : HEnv → R D} {env : HEnv} {f h : α → D} : ∀ {xs : List α}, (∀ x ∈ xs, el (env.set i (.val (f x))) = .ok (h x)) → compL (gN i) mYes el env (xs.map f) = .ok (xs.map h)
  | [], _ => rfl
  | x :: xs, k => by
    have e1 := k x List.mem_cons_self
    have e2 := compL_map (i := i) (el := el) (env := env) (f := f) (h := h) (xs := xs) fun y hy => k y (List.mem_cons_of_mem _ hy)
    simp only [List.map_cons, compL, gN, mYes, e1, e2]
/-- one that keeps those with p -/
theorem compL_filter {α : Type} {i : Nat} {t : HEnv → R Bool} {el : HEnv → R D} {env : HEnv} {f h : α → D} {p : α → Bool} : ∀ {xs : List α}, (∀ x ∈ xs, t (env.set i (.val (f x))) = .ok (p x)) → (∀ x ∈ xs, p x = true → el (env.set i (.val (f x))) = .ok (h x)) →
    compL (gN i) t el env (xs.map f) = .ok ((xs.filter p).map h)
  | [], _, _ => rfl
  | x :: xs, kt, k => by
    have e0 := kt x List.mem_cons_self
    have e2 := compL_filter (i := i) (t := t) (el := el) (env := env) (f := f) (h := h) (p := p) (xs := xs) (fun y hy => kt y (List.mem_cons_of_mem _ hy)) fun y hy => k y (List.mem_cons_of_mem _ hy)
    cases hp : p x with
    | true =>
      have e1 := k x List.mem_cons_self hp
      rw [hp] at e0
      simp only [List.map_cons, compL, gN, e0, e1, e2, List.filter_cons, hp, if_true]
    | false =>
      rw [hp] at e0
      simp only [List.map_cons, compL, gN, e0, e2, List.filter_cons, hp]
      rfl
/-- a loop's invariant -/
theorem forL_ind {g : D → HEnv → R HEnv} {b : HEnv → SO} (P : Nat → HEnv → Prop) : ∀ {ds : List D} {j : Nat} {env : HEnv}, P j env → (∀ (i : Nat) (d : D) (env : HEnv), ds[i]? = some d → P (j + i) env → ∃ e1 e, g d env = .ok e1 ∧ (b e1 = .nx e ∨ b e1 = .ct e) ∧ P (j + i + 1) e) → ∃ e, forL g b ds env = .nx e ∧ P (j + ds.length) e
  | [], j, env, h0, _ => ⟨env, rfl, h0⟩
  | d :: ds, j, env, h0, hs => by
    obtain ⟨e1, e, h1, h2, h3⟩ := hs 0 d env rfl h0
    obtain ⟨e', k1, k2⟩ := forL_ind P (ds := ds) (j := j + 1) (env := e) h3 fun i d env hi hp => by
      have e : j + 1 + i = j + (i + 1) := by omega
      rw [e] at hp ⊢
      exact hs (i + 1) d env (by simpa using hi) hp
    refine ⟨e', ?_, ?_⟩
    · unfold forL
      simp only [h1]
      rcases h2 with h2 | h2 <;> simp only [h2] <;> exact k1
    · have e : j + (d :: ds).length = j + 1 + ds.length := by simp only [List.length_cons]; omega
      rw [e]
      exact k2
theorem rangeD_ok {n : Nat} (h : n ≤ 16777216) : rangeD 0 n = .ok ((List.range n).map fun i => D.int (i : Nat)) := by
  unfold rangeD
  have e : ((n : Int) - 0).toNat = n := by omega
  rw [if_pos ⟨by decide, by decide, by omega, by omega, by omega⟩, e]
  congr 1
  refine List.map_congr_left fun i _ => ?_
  rw [Int.zero_add]
theorem atI_nat' {α : Type} {xs : List α} {j : Nat} {x : α} (h : xs[j]? = some x) : atI xs (j : Int) = some x := atI_nat h
theorem append_ok {i : Nat} {m : HEnv → R D} {env : HEnv} {ds : List D} {d : D} (he : env[i]? = some (.own (.lst ds))) (hm : m env = .ok d) (hz : ds.length < sizeLine) : mOwn1 i (tyL "list") appD m env = .nx (env.set i (.own (.lst (ds ++ [d])))) := by
  unfold mOwn1
  rw [he]
  have ht : tyL "list" (.lst ds) = true := by simp [tyL]
  simp only [ht, if_true]
  rw [sB_ok hm]
  unfold appD
  simp only [hz, if_true]
theorem small_line {n : Nat} (h : n ≤ 1000000) : n < sizeLine := by rw [sizeLine_eq]; omega
theorem le_line {n : Nat} (h : n ≤ 1000000) : n ≤ sizeLine := Nat.le_of_lt (small_line h)
theorem mCons_ok {m : HEnv → R D} {ms : HEnv → R (List D)} {env : HEnv} {d : D} {ds : List D} (h : m env = .ok d) (k : ms env = .ok ds) : mCons m ms env = .ok (d :: ds) := m2_ok h k
theorem mCall_ok {f : List D → R (Bool × D)} {ms : HEnv → R (List D)} {env : HEnv} {ds : List D} {o : Bool} {d : D} (h : ms env = .ok ds) (k : f ds = .ok (o, d)) : mCall f ms env = .ok d := by
  unfold mCall
  rw [h, R.bind_ok, k]
  rfl
theorem mCallX_ok {f : List D → R (Bool × D)} {ms : HEnv → R (List D)} {env : HEnv} {ds : List D} {r : R (Bool × D)} (h : ms env = .ok ds) (k : f ds = r) : mCallX f ms env = r := by
  unfold mCallX
  rw [h, R.bind_ok, k]
/-- a loop over what is lent: P says what holds between the turns -/
theorem forB_all {i : Nat} {g : D → HEnv → R HEnv} {b : HEnv → SO} {ds : List D} (P : HEnv → Prop) (hP : ∀ env, P env → env[i]? = some (.lent (.lst ds))) (hs : ∀ d ∈ ds, ∀ env, P env → ∃ e1 e, g d env = .ok e1 ∧ b e1 = .nx e ∧ P e) :
    ∀ (n j : Nat) (env : HEnv), ds.length < n + j → P env → j ≤ ds.length → ∃ e, forB i g b n j env = .nx e ∧ P e
  | 0, j, env, h, _, hj => by omega
  | n + 1, j, env, h, h0, hj => by
    unfold forB
    rw [hP env h0]
    simp only
    by_cases hlt : j < ds.length
    · rw [List.getElem?_eq_getElem hlt]
      simp only
      obtain ⟨e1, e, h1, h2, h3⟩ := hs _ (List.getElem_mem hlt) env h0
      simp only [h1, h2]
      exact forB_all P hP hs n (j + 1) e (by omega) h3 hlt
    · rw [List.getElem?_eq_none (by omega)]
      exact ⟨env, rfl, h0⟩
theorem mForB_all {i : Nat} {g : D → HEnv → R HEnv} {b : HEnv → SO} {ds : List D} {env : HEnv} (P : HEnv → Prop) (he : env[i]? = some (.own (.lst ds))) (h0 : P (env.set i (.lent (.lst ds)))) (hP : ∀ env, P env → env[i]? = some (.lent (.lst ds))) (hs : ∀ d ∈ ds, ∀ env, P env → ∃ e1 e, g d env = .ok e1 ∧ b e1 = .nx e ∧ P e) :
    ∃ e, mForB i g b env = .nx (e.set i (.own (.lst ds))) ∧ P e := by
  obtain ⟨e, h1, h2⟩ := forB_all P hP hs (ds.length + 1) 0 _ (by omega) h0 (Nat.zero_le _)
  refine ⟨e, ?_, h2⟩
  unfold mForB
  rw [he]
  simp only [h1, giveBack, hP e h2]
/-- a loop whose body leaves things as they are, in a way -/
theorem forL_all {g : D → HEnv → R HEnv} {b : HEnv → SO} (P : HEnv → Prop) {ds : List D} {env : HEnv} (h0 : P env) (hs : ∀ d ∈ ds, ∀ env, P env → ∃ e1 e, g d env = .ok e1 ∧ b e1 = .nx e ∧ P e) : ∃ e, forL g b ds env = .nx e ∧ P e := by
  obtain ⟨e, h1, h2⟩ := forL_ind (g := g) (b := b) (fun _ => P) (ds := ds) (j := 0) (env := env) h0 fun i d env hd hp => by
    obtain ⟨e1, e, k1, k2, k3⟩ := hs d (List.mem_of_getElem? hd) env hp
    exact ⟨e1, e, k1, .inl k2, k3⟩
  exact ⟨e, h1, h2⟩
/-! ### equality of plain data -/
theorem eqD_self {d : D} (h : sim d = true) : eqD d d = .ok (.bl true) := by
  unfold eqD
  rw [if_pos ⟨h, h⟩, deq_refl d (n := 50) h]
theorem neD_self {d : D} (h : sim d = true) : neD d d = .ok (.bl false) := by
  unfold neD
  rw [if_pos ⟨h, h⟩, deq_refl d (n := 50) h]
  rfl
theorem simpL_of {n : Nat} : ∀ {ds : List D}, (∀ d ∈ ds, simp? n d = true) → simpL? n ds = true
  | [], _ => rfl
  | d :: ds, h => by
    simp only [simpL?, Bool.and_eq_true]
    exact ⟨h d List.mem_cons_self, simpL_of fun x hx => h x (List.mem_cons_of_mem _ hx)⟩
theorem simpL_strs {n : Nat} (xs : List Str) : simpL? n (xs.map D.str) = true := simpL_of fun d hd => by
  obtain ⟨x, _, rfl⟩ := List.mem_map.mp hd
  cases n <;> rfl
theorem sim_lst {ds : List D} (h : simpL? 49 ds = true) : sim (.lst ds) = true := by
  show simp? (49 + 1) (.lst ds) = true
  simp only [simp?]
  exact h
theorem sim_tup {ds : List D} (h : simpL? 49 ds = true) : sim (.tup ds) = true := by
  show simp? (49 + 1) (.tup ds) = true
  simp only [simp?]
  exact h
theorem cutL_from (ds : List D) (k : Nat) : cutL ds (some (k : Int)) none = ds.drop k := by
  unfold cutL
  rw [HT.sIx_none, HT.sIx_nat]
  rcases Nat.le_total k ds.length with h | h
  · rw [Nat.min_eq_left h]
    exact List.take_of_length_le (by simp)
  · rw [Nat.min_eq_right h, List.drop_length, List.drop_eq_nil_of_le h, List.take_nil]
theorem ix_lst {ds : List D} {j : Nat} {d : D} (h : ds[j]? = some d) : ixD (.lst ds) (.int (j : Int)) = .ok d := by
  show atD ds (j : Int) = _
  unfold atD
  rw [atI_nat h]
theorem ix_tup {ds : List D} {j : Nat} {d : D} (h : ds[j]? = some d) : ixD (.tup ds) (.int (j : Int)) = .ok d := by
  show atD ds (j : Int) = _
  unfold atD
  rw [atI_nat h]
theorem allD_map {α : Type} {f : α → Bool} : ∀ (xs : List α), boolsD (xs.map fun x => D.bl (f x)) = some (xs.map f)
  | [] => rfl
  | x :: xs => by
    show (boolsD (xs.map fun x => D.bl (f x))).map (f x :: ·) = _
    rw [allD_map xs]
    rfl
end HL

namespace HL
open PySem PySem.Spec PyProof.Rows L2
def b_drawn  : HEnv → SO :=
  (mSeq (mSet 3 (mLstE (mCons (mC (.int 1234)) (mCons (mC (.int 4021)) (mCons (mC (.int 777)) (mCons (mC (.int 2906)) (mCons (mC (.int 3315)) (mCons (mC (.int 158)) (mCons (mC (.int 4712)) (mCons (mC (.int 2089)) (mCons (mC (.int 3640)) (mCons (mC (.int 915)) (mCons (mC (.int 1782)) (mCons (mC (.int 4463)) (mCons (mC (.int 2531)) mNil)))))))))))))))
  (mSeq (mSet 3 (m2 addD (mOwn 3) (mLstE (mCons (mC (.int 606)) (mCons (mC (.int 3877)) (mCons (mC (.int 1409)) (mCons (mC (.int 4950)) (mCons (mC (.int 263)) (mCons (mC (.int 3128)) (mCons (mC (.int 2214)) (mCons (mC (.int 4347)) (mCons (mC (.int 1071)) (mCons (mC (.int 3599)) (mCons (mC (.int 880)) (mCons (mC (.int 2752)) mNil)))))))))))))))
  (mSeq (mSet 3 (m2 addD (mOwn 3) (mLstE (mCons (mC (.int 4126)) (mCons (mC (.int 1513)) (mCons (mC (.int 3006)) (mCons (mC (.int 4888)) (mCons (mC (.int 391)) (mCons (mC (.int 2465)) (mCons (mC (.int 1690)) (mCons (mC (.int 3754)) (mCons (mC (.int 4219)) (mCons (mC (.int 542)) (mCons (mC (.int 2837)) (mCons (mC (.int 1176)) mNil)))))))))))))))
  (mSeq (mSet 3 (m2 addD (mOwn 3) (mLstE (mCons (mC (.int 4605)) (mCons (mC (.int 3281)) (mCons (mC (.int 98)) (mCons (mC (.int 1955)) (mCons (mC (.int 4074)) (mCons (mC (.int 2698)) (mCons (mC (.int 3433)) (mCons (mC (.int 721)) (mCons (mC (.int 4790)) (mCons (mC (.int 1347)) (mCons (mC (.int 2020)) (mCons (mC (.int 3916)) mNil)))))))))))))))
  (mSeq (mSet 3 (m2 addD (mOwn 3) (mLstE (mCons (mC (.int 1661)) (mCons (mC (.int 4532)) (mCons (mC (.int 305)) (mCons (mC (.int 2983)) (mCons (mC (.int 3702)) (mCons (mC (.int 1128)) (mCons (mC (.int 4251)) (mCons (mC (.int 2376)) (mCons (mC (.int 649)) (mCons (mC (.int 3067)) (mCons (mC (.int 1894)) (mCons (mC (.int 4813)) mNil)))))))))))))))
  (mSeq (mSet 4 (mC (.int 0)))
  (mSeq (mIfS (m1 truB (m2 ltD (mOwn 1) (m1 lenD (mOwn 0))))
  (mSet 4 (m1 intD (m2 ixD (mOwn 0) (mOwn 1))))
  mNext)
  (mSeq (mIfS (m1 truB (m2 ltD (mOwn 4) (m2 powD (mC (.int 10)) (mC (.int 18)))))
  (mSeq (mSet 5 (m2 addD (m2 modD (m1 intD (mOwn 4)) (mC (.int 1009))) (mC (.int 1))))
  (mRetN (mComp [7] (m1 range1D (mCons (mVar 2) mNil)) (gN 7) mYes (m2 modD (m1 intD (m2 mulD (mOwn 5) (m2 ixD (mOwn 3) (m2 modD (m2 addD (mOwn 7) (m2 mulD (mC (.int 7)) (mOwn 1))) (mC (.int 61)))))) (mC (.int 5039))))))
  mNext)
  (mSeq (mSetN 6 (mLstE mNil))
  (mSeq (mFor (m1 range1D (mCons (mVar 2) mNil)) (gN 7)
  (mSeq (mOwn1 6 (tyL "list") appD (m2 modD (m1 intD (mOwn 4)) (mC (.int 5040))))
  (mSet 4 (m2 divD (mOwn 4) (mC (.int 5040))))))
  (mRetOwn 6)))))))))))
/-- _law_pick_names -/
def b_pick  : HEnv → SO :=
  (mSeq (mSet 2 (mC (.str "ABCDEFGHIJKLMNOPQRSTUVWXYZ")))
  (mSeq (mSetN 3 (mLstE mNil))
  (mSeq (mFor (m1 range1D (mCons (mVar 1) mNil)) (gN 4)
  (mSeq (mSet 5 (m2 modD (m1 intD (m2 ixD (mOwn 0) (mOwn 4))) (m1 lenD (mOwn 2))))
  (mSeq (mOwn1 3 (tyL "list") appD (m2 ixD (mOwn 2) (mOwn 5)))
  (mSet 2 (m2 addD (mSl slD (mOwn 2) mNoPart (mPart (mVar 5))) (mSl slD (mOwn 2) (mPart (m2 addD (mOwn 5) (mC (.int 1)))) mNoPart))))))
  (mRetOwn 3))))
def marks : List Int := [1234, 4021, 777, 2906, 3315, 158, 4712, 2089, 3640, 915, 1782, 4463, 2531, 606, 3877, 1409, 4950, 263, 3128, 2214, 4347, 1071, 3599, 880, 2752, 4126, 1513, 3006, 4888, 391, 2465, 1690, 3754, 4219, 542, 2837, 1176, 4605, 3281, 98, 1955, 4074, 2698, 3433, 721, 4790, 1347, 2020, 3916, 1661, 4532, 305, 2983, 3702, 1128, 4251, 2376, 649, 3067, 1894, 4813]
def mk (j : Int) : Int := marks.getD j.toNat 0
theorem marks_at {j : Int} (h0 : 0 ≤ j) (h : j < 61) : ixD (.lst (marks.map D.int)) (.int j) = .ok (.int (mk j)) := by
  obtain ⟨n, rfl⟩ : ∃ n : Nat, j = n := ⟨j.toNat, by omega⟩
  have hn : n < marks.length := by show n < 61; omega
  show atD _ _ = _
  unfold atD
  rw [atI_nat (v := D.int marks[n]) (by rw [List.getElem?_map, List.getElem?_eq_getElem hn]; rfl)]
  unfold mk
  rw [Int.toNat_natCast, List.getD_eq_getElem?_getD, List.getElem?_eq_getElem hn]
  rfl
theorem drawn_ok (ns : List Int) (k m : Nat) (hk : k ≤ 1000) (hm : m ≤ 1000) : ∃ cs : List Int, cs.length = m ∧ (∀ c ∈ cs, 0 ≤ c ∧ c < 5040) ∧ fnS 8 b_drawn [.lst (ns.map D.int), .int k, .int m] = .ok (true, .lst (cs.map D.int)) := by
  let cell : Int := if h : k < ns.length then ns[k] else 0
  have hlt : ltD (.int (k : Int)) (.int (ns.length : Int)) = .ok (.bl (decide (k < ns.length))) := by
    show R.ok (D.bl (decide ((k : Int) < (ns.length : Int)))) = _
    rw [show decide ((k : Int) < (ns.length : Int)) = decide (k < ns.length) from by simp]
  -- the cell
  have cellE : (mIfS (m1 truB (m2 ltD (mOwn 1) (m1 lenD (mOwn 0)))) (mSet 4 (m1 intD (m2 ixD (mOwn 0) (mOwn 1)))) mNext) [.val (.lst (ns.map D.int)), .val (.int k), .val (.int m), .val (.lst (marks.map D.int)), .val (.int 0), .no, .no, .no] =
      .nx [.val (.lst (ns.map D.int)), .val (.int k), .val (.int m), .val (.lst (marks.map D.int)), .val (.int cell), .no, .no, .no] := by
    have ht : (m1 truB (m2 ltD (mOwn 1) (m1 lenD (mOwn 0)))) [.val (.lst (ns.map D.int)), .val (.int k), .val (.int m), .val (.lst (marks.map D.int)), .val (.int 0), .no, .no, .no] = .ok (decide (k < ns.length)) := by
      refine (m1_ok (a := D.bl (decide (k < ns.length))) ?_).trans rfl
      refine (m2_ok (a := D.int k) (b := D.int ns.length) rfl ?_).trans hlt
      show R.ok (D.int ((ns.map D.int).length : Nat)) = _
      rw [List.length_map]
    by_cases hk2 : k < ns.length
    · rw [decide_eq_true hk2] at ht
      rw [mIf_tt ht]
      have e : atI (ns.map D.int) (k : Int) = some (.int ns[k]) := atI_nat (by rw [List.getElem?_map, List.getElem?_eq_getElem hk2]; rfl)
      refine (mSet_ok (d := .int ns[k]) ?_).trans ?_
      · show (match atI (ns.map D.int) (k : Int) with | some d => R.ok d | none => R.stuck).bind intD = _
        rw [e]
        rfl
      · show SO.nx _ = SO.nx _
        rw [show cell = ns[k] from dif_pos hk2]
        rfl
    · rw [decide_eq_false hk2] at ht
      rw [mIf_ff ht]
      show SO.nx _ = SO.nx _
      rw [show cell = 0 from dif_neg hk2]
  have ht : ∀ s5 s6 s7, (m1 truB (m2 ltD (mOwn 4) (m2 powD (mC (.int 10)) (mC (.int 18))))) [.val (.lst (ns.map D.int)), .val (.int k), .val (.int m), .val (.lst (marks.map D.int)), .val (.int cell), s5, s6, s7] = .ok (decide (cell < 10 ^ 18)) := fun s5 s6 s7 => by
    refine (m1_ok (a := D.bl (decide (cell < 10 ^ 18))) ?_).trans rfl
    exact (m2_ok (a := D.int cell) (b := D.int (10 ^ 18)) rfl rfl).trans rfl
  have hrange : ∀ s3 s4 s5 s6 s7, (m1 range1D (mCons (mVar 2) mNil)) [.val (.lst (ns.map D.int)), .val (.int k), .val (.int m), s3, s4, s5, s6, s7] = .ok ((List.range m).map fun i => D.int (i : Nat)) := fun s3 s4 s5 s6 s7 => by
    refine (m1_ok (a := [D.int m]) rfl).trans ?_
    exact rangeD_ok (by omega)
  have first : ∀ (r : HEnv → SO) (o : SO), r [.val (.lst (ns.map D.int)), .val (.int k), .val (.int m), .val (.lst (marks.map D.int)), .val (.int cell), .no, .no, .no] = o →
      mSeq (mIfS (m1 truB (m2 ltD (mOwn 1) (m1 lenD (mOwn 0)))) (mSet 4 (m1 intD (m2 ixD (mOwn 0) (mOwn 1)))) mNext) r [.val (.lst (ns.map D.int)), .val (.int k), .val (.int m), .val (.lst (marks.map D.int)), .val (.int 0), .no, .no, .no] = o := fun r o h => by
    rw [mSeq_nx cellE]
    exact h
  by_cases hc : cell < 10 ^ 18
  · refine ⟨(List.range m).map fun i => ((cell % 1009 + 1) * mk (((i : Nat) + 7 * k : Int) % 61)) % 5039, by simp, fun c h => ?_, fnS_rt ?_⟩
    · obtain ⟨i, _, rfl⟩ := List.mem_map.mp h
      have h1 := Int.emod_nonneg ((cell % 1009 + 1) * mk (((i : Nat) + 7 * k : Int) % 61)) (b := 5039) (by decide)
      have h2 := Int.emod_lt_of_pos ((cell % 1009 + 1) * mk (((i : Nat) + 7 * k : Int) % 61)) (b := 5039) (by decide)
      omega
    · unfold b_drawn
      refine (mSeq_nx (mSet_ok rfl)).trans ((mSeq_nx (mSet_ok rfl)).trans ((mSeq_nx (mSet_ok rfl)).trans ((mSeq_nx (mSet_ok rfl)).trans ((mSeq_nx (mSet_ok rfl)).trans ((mSeq_nx (mSet_ok rfl)).trans (first _ _ ?_))))))
      have h0 := ht .no .no .no
      rw [decide_eq_true hc] at h0
      refine mSeq_rt ?_
      rw [mIf_tt h0]
      refine (mSeq_nx (mSet_ok (d := .int (cell % 1009 + 1)) rfl)).trans (mRetN_ok ?_)
      refine mComp_ok (hrange _ _ _ _ _) ?_
      rw [List.map_map]
      refine compL_map fun i hi => ?_
      have hs0 := Int.emod_nonneg cell (b := 1009) (by decide)
      have hs1 := Int.emod_lt_of_pos cell (b := 1009) (by decide)
      have hj0 := Int.emod_nonneg ((i : Nat) + 7 * k : Int) (b := 61) (by decide)
      have hj1 := Int.emod_lt_of_pos ((i : Nat) + 7 * k : Int) (b := 61) (by decide)
      refine (m2_ok (a := D.int ((cell % 1009 + 1) * mk (((i : Nat) + 7 * k : Int) % 61))) (b := D.int 5039) ?_ rfl).trans rfl
      refine (m1_ok (a := D.int ((cell % 1009 + 1) * mk (((i : Nat) + 7 * k : Int) % 61))) ?_).trans rfl
      refine (m2_ok (a := D.int (cell % 1009 + 1)) (b := D.int (mk (((i : Nat) + 7 * k : Int) % 61))) rfl ?_).trans (if_pos ⟨by omega, by omega⟩)
      exact (m2_ok (a := D.lst (marks.map D.int)) (b := D.int (((i : Nat) + 7 * k : Int) % 61)) rfl rfl).trans (marks_at hj0 hj1)
  · have key := forL_ind (g := gN 7) (b := mSeq (mOwn1 6 (tyL "list") appD (m2 modD (m1 intD (mOwn 4)) (mC (.int 5040)))) (mSet 4 (m2 divD (mOwn 4) (mC (.int 5040)))))
      (fun j env => ∃ (cs : List Int) (c : Int) (s7 : Slot), cs.length = j ∧ (∀ c ∈ cs, 0 ≤ c ∧ c < 5040) ∧ env = [.val (.lst (ns.map D.int)), .val (.int k), .val (.int m), .val (.lst (marks.map D.int)), .val (.int c), .no, .own (.lst (cs.map D.int)), s7])
      (ds := (List.range m).map fun i => D.int (i : Nat)) (j := 0) (env := [.val (.lst (ns.map D.int)), .val (.int k), .val (.int m), .val (.lst (marks.map D.int)), .val (.int cell), .no, .own (.lst []), .no]) ⟨[], cell, .no, rfl, by simp, rfl⟩ ?_
    · obtain ⟨e, h1, cs, c, s7, h2, h3, rfl⟩ := key
      refine ⟨cs, by simpa using h2, h3, fnS_rt ?_⟩
      unfold b_drawn
      refine (mSeq_nx (mSet_ok rfl)).trans ((mSeq_nx (mSet_ok rfl)).trans ((mSeq_nx (mSet_ok rfl)).trans ((mSeq_nx (mSet_ok rfl)).trans ((mSeq_nx (mSet_ok rfl)).trans ((mSeq_nx (mSet_ok rfl)).trans (first _ _ ?_))))))
      have h0 := ht .no .no .no
      rw [decide_eq_false hc] at h0
      refine (mSeq_nx (mIf_ff h0)).trans ?_
      refine (mSeq_nx (mSetN_ok (d := .lst []) rfl)).trans ?_
      refine (mSeq_nx ((mFor_ok (hrange _ _ _ _ _)).trans h1)).trans rfl
    · intro i d env hd ⟨cs, c, s7, h1, h2, h3⟩
      subst h3
      have hi : i < m := by
        have := (List.getElem?_eq_some_iff.mp hd).1
        simpa using this
      refine ⟨_, _, rfl, .inl ((mSeq_nx (e := [.val (.lst (ns.map D.int)), .val (.int k), .val (.int m), .val (.lst (marks.map D.int)), .val (.int c), .no, .own (.lst ((cs ++ [c % 5040]).map D.int)), .val d]) ?_).trans (mSet_ok (d := .int (c / 5040)) rfl)), cs ++ [c % 5040], c / 5040, .val d, by simp [h1], fun z hz => ?_, rfl⟩
      · refine (append_ok (ds := cs.map D.int) (d := .int (c % 5040)) rfl rfl (small_line (by rw [List.length_map]; omega))).trans ?_
        simp
      · rcases List.mem_append.mp hz with hz | hz
        · exact h2 z hz
        · simp only [List.mem_cons, List.not_mem_nil, or_false] at hz
          subst hz
          exact ⟨Int.emod_nonneg c (by decide), Int.emod_lt_of_pos c (by decide)⟩
/-! ### letters -/
def tx (cs : List Nat) : Str := ⟨cs.toArray⟩
def letters : List Nat := (List.range 26).map (65 + ·)
theorem abc : (Str.ofString "ABCDEFGHIJKLMNOPQRSTUVWXYZ") = tx letters := by decide +kernel
theorem tx_len (cs : List Nat) : (tx cs).length = cs.length := by
  show cs.toArray.size = _
  simp
theorem tx_list (cs : List Nat) : (tx cs).cps.toList = cs := by simp [tx]
theorem tx_app (a b : List Nat) : tx a ++ tx b = tx (a ++ b) := by
  show (⟨(tx a).cps ++ (tx b).cps⟩ : Str) = _
  simp [tx]
theorem len_tx {cs : List Nat} (h : cs.length ≤ 1000000) : lenD (.str (tx cs)) = .ok (.int cs.length) := by
  show (if (tx cs).length ≤ sizeLine then _ else _) = _
  rw [tx_len, if_pos (le_line h)]
theorem ix_tx {cs : List Nat} {j : Nat} {c : Nat} (h : cs.length ≤ 1000000) (hj : cs[j]? = some c) : ixD (.str (tx cs)) (.int (j : Int)) = .ok (.str (tx [c])) := by
  show (if (tx cs).length ≤ sizeLine then (match atI (tx cs).cps.toList (j : Int) with | some c => R.ok (D.str ⟨#[c]⟩) | none => R.stuck) else R.stuck) = _
  rw [tx_len, if_pos (le_line h), tx_list, atI_nat hj]
  rfl
theorem cut_to {cs : List Nat} {j : Nat} (h : cs.length ≤ 1000000) : slD (.str (tx cs)) none (some (j : Int)) = .ok (.str (tx (cs.take j))) := by
  show (if (tx cs).length ≤ sizeLine then R.ok (D.str (cutS (tx cs) none (some (j : Int)))) else R.stuck) = _
  rw [tx_len, if_pos (le_line h)]
  unfold cutS
  rw [tx_list, tx_len, HT.sIx_none, HT.sIx_nat, List.drop_zero, Nat.sub_zero]
  rw [show List.take (min j cs.length) cs = cs.take j from by
    rcases Nat.le_total j cs.length with h | h
    · rw [Nat.min_eq_left h]
    · rw [Nat.min_eq_right h, List.take_length, List.take_of_length_le h]]
  rfl
theorem cut_from {cs : List Nat} {j : Nat} (h : cs.length ≤ 1000000) : slD (.str (tx cs)) (some (j : Int)) none = .ok (.str (tx (cs.drop j))) := by
  show (if (tx cs).length ≤ sizeLine then R.ok (D.str (cutS (tx cs) (some (j : Int)) none)) else R.stuck) = _
  rw [tx_len, if_pos (le_line h)]
  unfold cutS
  rw [tx_list, tx_len, HT.sIx_none, HT.sIx_nat]
  rw [show List.take (cs.length - min j cs.length) (List.drop (min j cs.length) cs) = cs.drop j from by
    rcases Nat.le_total j cs.length with h | h
    · rw [Nat.min_eq_left h]
      exact List.take_of_length_le (by simp)
    · rw [Nat.min_eq_right h, List.drop_length, List.drop_eq_nil_of_le h, List.take_nil]]
  rfl
theorem add_tx {a b : List Nat} (h : a.length + b.length ≤ 1000000) : addD (.str (tx a)) (.str (tx b)) = .ok (.str (tx (a ++ b))) := by
  show (if (tx a).length + (tx b).length ≤ sizeLine then R.ok (D.str (tx a ++ tx b)) else R.stuck) = _
  rw [tx_len, tx_len, if_pos (le_line h), tx_app]
theorem pick_ok (cs : List Int) (m : Nat) (h : ∀ c ∈ cs, 0 ≤ c) (hm : m ≤ cs.length) (hm2 : m ≤ 26) :
    ∃ ls : List Nat, ls.length = m ∧ ls.Nodup ∧ (∀ l ∈ ls, 65 ≤ l ∧ l ≤ 90) ∧ fnS 6 b_pick [.lst (cs.map D.int), .int m] = .ok (true, .lst (ls.map fun c => .str (tx [c]))) := by
  have key := forL_ind (g := gN 4) (b := mSeq (mSet 5 (m2 modD (m1 intD (m2 ixD (mOwn 0) (mOwn 4))) (m1 lenD (mOwn 2)))) (mSeq (mOwn1 3 (tyL "list") appD (m2 ixD (mOwn 2) (mOwn 5))) (mSet 2 (m2 addD (mSl slD (mOwn 2) mNoPart (mPart (mVar 5))) (mSl slD (mOwn 2) (mPart (m2 addD (mOwn 5) (mC (.int 1)))) mNoPart)))))
    (fun j env => ∃ (fs rs : List Nat) (s4 s5 : Slot), fs.length = j ∧ rs.length + j = 26 ∧ (fs ++ rs).Nodup ∧ (∀ l ∈ fs ++ rs, 65 ≤ l ∧ l ≤ 90) ∧ env = [.val (.lst (cs.map D.int)), .val (.int m), .val (.str (tx rs)), .own (.lst (fs.map fun c => .str (tx [c]))), s4, s5])
    (ds := (List.range m).map fun i => D.int (i : Nat)) (j := 0) (env := [.val (.lst (cs.map D.int)), .val (.int m), .val (.str (tx letters)), .own (.lst []), .no, .no])
    ⟨[], letters, .no, .no, rfl, by decide, by decide, by decide, rfl⟩ ?_
  · obtain ⟨e, h1, fs, rs, s4, s5, h2, h3, h4, h5, rfl⟩ := key
    refine ⟨fs, by simpa using h2, (List.nodup_append.mp h4).1, fun l hl => h5 l (List.mem_append_left _ hl), fnS_rt ?_⟩
    unfold b_pick
    refine (mSeq_nx (mSet_ok rfl)).trans ?_
    rw [abc]
    refine (mSeq_nx (mSetN_ok (d := .lst []) rfl)).trans ?_
    refine (mSeq_nx ((mFor_ok (ds := (List.range m).map fun i => D.int (i : Nat)) ?_).trans h1)).trans rfl
    exact (m1_ok (a := [D.int m]) rfl).trans (rangeD_ok (by omega))
  · intro i d env hd ⟨fs, rs, s4, s5, h1, h2, h3, h4, h5⟩
    subst h5
    have hi : i < m := by
      have := (List.getElem?_eq_some_iff.mp hd).1
      simpa using this
    have ed : d = .int (i : Nat) := by
      rw [List.getElem?_map, List.getElem?_range hi] at hd
      exact (Option.some.inj hd).symm
    subst ed
    have hic : i < cs.length := by omega
    have hpos : 0 < rs.length := by omega
    obtain ⟨at_, hat⟩ : ∃ n : Nat, cs[i] % (rs.length : Int) = n := ⟨(cs[i] % (rs.length : Int)).toNat, by have := Int.emod_nonneg cs[i] (b := (rs.length : Int)) (by omega); omega⟩
    have hlt : at_ < rs.length := by
      have := Int.emod_lt_of_pos cs[i] (b := (rs.length : Int)) (by omega)
      omega
    have hsplit : rs = rs.take at_ ++ rs[at_] :: rs.drop (at_ + 1) := by
      rw [List.getElem_cons_drop, List.take_append_drop]
    have perm : (fs ++ rs).Perm ((fs ++ [rs[at_]]) ++ (rs.take at_ ++ rs.drop (at_ + 1))) := by
      conv => lhs; rw [hsplit]
      rw [List.append_assoc]
      refine List.Perm.append_left fs ?_
      exact List.perm_middle
    refine ⟨_, _, rfl, .inl ((mSeq_nx (mSet_ok (d := .int (at_ : Int)) ?_)).trans ((mSeq_nx (append_ok (ds := fs.map fun c => .str (tx [c])) (d := .str (tx [rs[at_]])) rfl ?_ (small_line (by rw [List.length_map]; omega)))).trans (mSet_ok (d := .str (tx (rs.take at_ ++ rs.drop (at_ + 1)))) ?_))),
      fs ++ [rs[at_]], rs.take at_ ++ rs.drop (at_ + 1), .val (.int (i : Nat)), .val (.int (at_ : Int)), by simp [h1], ?_, perm.nodup_iff.mp h3, fun l hl => h4 l (perm.mem_iff.mpr hl), ?_⟩
    · refine (m2_ok (a := D.int cs[i]) (b := D.int rs.length) ?_ (len_tx (by omega))).trans ?_
      · refine (m1_ok (a := D.int cs[i]) ?_).trans rfl
        have e : atI (cs.map D.int) (i : Int) = some (.int cs[i]) := atI_nat (by rw [List.getElem?_map, List.getElem?_eq_getElem hic]; rfl)
        show (match atI (cs.map D.int) (i : Int) with | some d => R.ok d | none => R.stuck) = _
        rw [e]
      · show (if (0 : Int) < (rs.length : Int) then R.ok (D.int (cs[i] % (rs.length : Int))) else R.stuck) = _
        rw [if_pos (by omega), hat]
    · exact (m2_ok (a := D.str (tx rs)) (b := D.int (at_ : Int)) rfl rfl).trans (ix_tx (by omega) (List.getElem?_eq_getElem hlt))
    · refine (m2_ok (a := D.str (tx (rs.take at_))) (b := D.str (tx (rs.drop (at_ + 1)))) ?_ ?_).trans (add_tx (by rw [List.length_take, List.length_drop]; omega))
      · exact cut_to (by omega)
      · exact cut_from (by omega)
    · rw [List.length_append, List.length_take, List.length_drop]
      omega
    · simp
end HL

namespace HL
open PySem PySem.Spec PyProof.Rows L2
def b_subsets  : HEnv → SO :=
  (mSeq (mSet 1 (mLstE (mCons (mTupE mNil) mNil)))
  (mSeq (mFor (m1 revItems (m1 listD (mOwn 0))) (gN 2)
  (mSet 1 (m2 addD (mComp [4] (m1 itemsD (mOwn 1)) (gN 4) mYes (m2 addD (mTupE (mCons (mVar 2) mNil)) (mOwn 4))) (mOwn 1))))
  (mRetN (mComp2 [3, 4] (m1 range1D (mCons (m2 addD (m1 lenD (mOwn 0)) (mC (.int 1))) mNil)) (gN 3) mYes (m1 itemsD (mVar 1)) [4] (gN 4) (m1 truB (m2 eqD (m1 lenD (mOwn 4)) (mOwn 3))) (mVar 4)))))
/-- lots -/
def b_lots (f_subsets : List D → R (Bool × D)) : HEnv → SO :=
  (mSeq (mIfS (m1 truB (m2 (cmpI fun i j => decide (j < i)) (m1 lenD (mOwn 0)) (mC (.int 4))))
  (mRaise "TooMany" "limit" (mC (.int 4)))
  mNext)
  (mRetN (mComp [1] (m1 itemsD (mCall f_subsets (mCons (m1 sortD (mComp [2] (m1 itemsD (mOwn 0)) (gN 2) mYes (m1 strD (mOwn 2)))) mNil))) (gN 1) (m1 truD (mOwn 1)) (mVar 1))))
theorem comp2L_flat {α β : Type} {i : Nat} {vs1 : List Nat} {i1 : Nat} {src1 : HEnv → R (List D)} {t1 : HEnv → R Bool} {el : HEnv → R D} {env : HEnv} {f : α → D} {fi h : β → D} {p : α → β → Bool} {ys : List β} : ∀ {xs : List α}, (∀ x ∈ xs, src1 (env.set i (.val (f x))) = .ok (ys.map fi)) →
    (∀ x ∈ xs, ∀ y ∈ ys, t1 ((wipeE (env.set i (.val (f x))) vs1).set i1 (.val (fi y))) = .ok (p x y)) → (∀ x ∈ xs, ∀ y ∈ ys, p x y = true → el ((wipeE (env.set i (.val (f x))) vs1).set i1 (.val (fi y))) = .ok (h y)) →
    comp2L (gN i) mYes src1 vs1 (gN i1) t1 el env (xs.map f) = .ok ((xs.flatMap fun x => ys.filter (p x)).map h)
  | [], _, _, _ => rfl
  | x :: xs, hs, ht, he => by
    have e0 := hs x List.mem_cons_self
    have e1 := compL_filter (i := i1) (t := t1) (el := el) (env := wipeE (env.set i (.val (f x))) vs1) (f := fi) (h := h) (p := p x) (xs := ys) (ht x List.mem_cons_self) (he x List.mem_cons_self)
    have e2 := comp2L_flat (i := i) (vs1 := vs1) (i1 := i1) (src1 := src1) (t1 := t1) (el := el) (env := env) (f := f) (fi := fi) (h := h) (p := p) (ys := ys) (xs := xs) (fun y hy => hs y (List.mem_cons_of_mem _ hy)) (fun y hy => ht y (List.mem_cons_of_mem _ hy)) fun y hy => he y (List.mem_cons_of_mem _ hy)
    simp only [List.map_cons, comp2L, gN, mYes, e0, e1, e2, List.flatMap_cons, List.map_append]
theorem mComp2_ok {vs : List Nat} {src : HEnv → R (List D)} {g : D → HEnv → R HEnv} {t : HEnv → R Bool} {src1 : HEnv → R (List D)} {vs1 : List Nat} {g1 : D → HEnv → R HEnv} {t1 : HEnv → R Bool} {el : HEnv → R D} {env : HEnv} {ds ys : List D} (h : src env = .ok ds) (k : comp2L g t src1 vs1 g1 t1 el (wipeE env vs) ds = .ok ys) (hz : ys.length ≤ 1000000) :
    mComp2 vs src g t src1 vs1 g1 t1 el env = .ok (.lst ys) := by
  unfold mComp2
  rw [h, R.bind_ok, k]
  exact if_pos (le_line hz)
/-! ### subsets -/
def subsR {α : Type} : List α → List (List α)
  | [] => [[]]
  | x :: xs => (subsR xs).map (x :: ·) ++ subsR xs
def sizes {α : Type} (xs : List α) : List (List α) := (List.range (xs.length + 1)).flatMap fun s => (subsR xs).filter fun r => r.length == s
theorem subsR_len {α : Type} : ∀ xs : List α, (subsR xs).length = 2 ^ xs.length
  | [] => rfl
  | x :: xs => by
    simp only [subsR, List.length_append, List.length_map, subsR_len xs, List.length_cons, Nat.pow_succ]
    omega
theorem subsR_le {α : Type} : ∀ {xs r : List α}, r ∈ subsR xs → r.length ≤ xs.length
  | [], r, h => by
    simp only [subsR, List.mem_cons, List.not_mem_nil, or_false] at h
    rw [h]
    exact Nat.le_refl _
  | x :: xs, r, h => by
    simp only [subsR, List.mem_append, List.mem_map] at h
    rcases h with ⟨q, hq, rfl⟩ | h
    · have := subsR_le hq
      simp only [List.length_cons]
      omega
    · have := subsR_le h
      simp only [List.length_cons]
      omega
theorem pow10 {n : Nat} (h : n ≤ 10) : 2 ^ n ≤ 1024 := Nat.pow_le_pow_right (by decide) h
theorem flat_len {α β : Type} {f : α → List β} {k : Nat} : ∀ {xs : List α}, (∀ x ∈ xs, (f x).length ≤ k) → (xs.flatMap f).length ≤ xs.length * k
  | [], _ => by simp
  | x :: xs, h => by
    have h1 := h x List.mem_cons_self
    have h2 := flat_len (f := f) (k := k) (xs := xs) fun y hy => h y (List.mem_cons_of_mem _ hy)
    simp only [List.flatMap_cons, List.length_append, List.length_cons, Nat.add_mul, Nat.one_mul]
    omega
theorem subsets_ok (xs : List D) (hx : xs.length ≤ 10) : fnS 5 b_subsets [.lst xs] = .ok (true, .lst ((sizes xs).map D.tup)) := by
  have key := forL_ind (g := gN 2) (b := mSet 1 (m2 addD (mComp [4] (m1 itemsD (mOwn 1)) (gN 4) mYes (m2 addD (mTupE (mCons (mVar 2) mNil)) (mOwn 4))) (mOwn 1)))
    (fun j env => ∃ s2, env = [.val (.lst xs), .val (.lst ((subsR (xs.drop (xs.length - j))).map D.tup)), s2, .no, .no])
    (ds := xs.reverse) (j := 0) (env := [.val (.lst xs), .val (.lst [.tup []]), .no, .no, .no]) ⟨.no, by simp [subsR]⟩ ?_
  · obtain ⟨e, h1, s2, rfl⟩ := key
    have e0 : xs.drop (xs.length - (0 + xs.reverse.length)) = xs := by simp
    rw [e0] at h1
    refine fnS_rt ?_
    unfold b_subsets
    refine (mSeq_nx (mSet_ok (d := .lst [.tup []]) rfl)).trans ?_
    refine (mSeq_nx ((mFor_ok (ds := xs.reverse) rfl).trans h1)).trans (mRetN_ok ?_)
    refine mComp2_ok (ds := (List.range (xs.length + 1)).map fun i => D.int (i : Nat)) ?_ (comp2L_flat (f := fun i : Nat => D.int (i : Nat)) (fi := D.tup) (h := D.tup) (p := fun s r => r.length == s) (ys := subsR xs) (fun s hs => rfl) (fun s hs r hr => ?_) fun s hs r hr _ => rfl) ?_
    · refine (m1_ok (a := [D.int ((xs.length : Nat) + 1)]) rfl).trans ?_
      exact rangeD_ok (n := xs.length + 1) (by omega)
    · refine (m1_ok (a := D.bl (r.length == s)) ?_).trans rfl
      refine (m2_ok (a := D.int r.length) (b := D.int s) rfl rfl).trans ?_
      show (if sim (.int (r.length : Int)) = true ∧ sim (.int (s : Int)) = true then R.ok (D.bl ((r.length : Int) == (s : Int))) else R.stuck) = _
      rw [if_pos ⟨rfl, rfl⟩]
      congr 2
      rw [Bool.eq_iff_iff]
      simp only [beq_iff_eq]
      omega
    · rw [List.length_map]
      have h1 := flat_len (f := fun s => (subsR xs).filter fun r => r.length == s) (k := 1024) (xs := List.range (xs.length + 1)) fun s _ => Nat.le_trans (List.length_filter_le _ _) (by rw [subsR_len]; exact pow10 hx)
      rw [List.length_range] at h1
      have : (xs.length + 1) * 1024 ≤ 11 * 1024 := Nat.mul_le_mul_right _ (by omega)
      exact Nat.le_trans h1 (by omega)
  · intro i d env hd ⟨s2, he⟩
    subst he
    rw [Nat.zero_add]
    have hi : i < xs.length := by
      have := (List.getElem?_eq_some_iff.mp hd).1
      simpa using this
    obtain ⟨_, hd2⟩ := rev_at hd
    have hdrop : xs.drop (xs.length - (i + 1)) = d :: xs.drop (xs.length - i) := by
      have e1 : xs.length - (i + 1) = xs.length - 1 - i := by omega
      have hlt : xs.length - 1 - i < xs.length := by omega
      rw [e1, List.drop_eq_getElem_cons hlt]
      rw [List.getElem?_eq_getElem hlt] at hd2
      rw [Option.some.inj hd2]
      congr 2
      omega
    have hlen : (subsR (xs.drop (xs.length - i))).length ≤ 1024 := by
      rw [subsR_len]
      exact pow10 (by rw [List.length_drop]; omega)
    refine ⟨_, _, rfl, .inl (mSet_ok (d := .lst ((subsR (d :: xs.drop (xs.length - i))).map D.tup)) ?_), .val d, by rw [hdrop]; rfl⟩
    refine (m2_ok (a := D.lst (((subsR (xs.drop (xs.length - i))).map (d :: ·)).map D.tup)) (b := D.lst ((subsR (xs.drop (xs.length - i))).map D.tup)) ?_ rfl).trans ?_
    · refine mComp_ok (ds := (subsR (xs.drop (xs.length - i))).map D.tup) rfl ?_
      rw [List.map_map]
      refine compL_map fun r hr => ?_
      refine (m2_ok (a := D.tup [d]) (b := D.tup r) rfl rfl).trans ?_
      have hrl := subsR_le hr
      rw [List.length_drop] at hrl
      exact if_pos (le_line (by simp only [List.length_cons, List.length_nil]; omega))
    · refine (if_pos (le_line (by simp only [List.length_map]; omega))).trans ?_
      rw [subsR, List.map_append]
/-! ### lots -/
theorem strsD_map : ∀ xs : List Str, strsD (xs.map D.str) = some xs
  | [] => rfl
  | x :: xs => by
    show (strsD (xs.map D.str)).map (x :: ·) = _
    rw [strsD_map xs]
    rfl
theorem sortS_length (xs : List Str) : (sortS xs).length = xs.length := (sortS_perm (xs := xs)).length_eq
def given : Bool → List D → D
  | true, xs => .tup xs
  | false, xs => .lst xs
def lotsOf (xs : List Str) : List (List D) := (sizes ((sortS xs).map D.str)).filter fun r => !r.isEmpty
theorem lots_big (b : Bool) (xs : List Str) (h : 4 < xs.length) : fnS 3 (b_lots (fnS 5 b_subsets)) [given b (xs.map D.str)] = .er ⟨"TooMany", "limit", .int 4⟩ := by
  have hl : m1 lenD (mOwn 0) [Slot.val (given b (xs.map D.str)), .no, .no] = .ok (.int xs.length) := by
    cases b <;> (show R.ok (D.int ((xs.map D.str).length : Nat)) = _; rw [List.length_map])
  have ht : (m1 truB (m2 (cmpI fun i j => decide (j < i)) (m1 lenD (mOwn 0)) (mC (.int 4)))) [Slot.val (given b (xs.map D.str)), .no, .no] = .ok true := by
    refine (m1_ok (a := D.bl true) ?_).trans rfl
    refine (m2_ok (a := D.int xs.length) (b := D.int 4) hl rfl).trans ?_
    show R.ok (D.bl (decide ((4 : Int) < (xs.length : Int)))) = _
    rw [decide_eq_true (by omega)]
  refine fnS_er (e := [Slot.val (given b (xs.map D.str)), .no, .no]) ?_
  unfold b_lots
  refine mSeq_er ?_
  refine (mIf_tt ht).trans ?_
  refine (sB_ok (a := D.int 4) rfl).trans (if_pos ?_)
  decide
theorem lots_ok (b : Bool) (xs : List Str) (h : xs.length ≤ 4) : fnS 3 (b_lots (fnS 5 b_subsets)) [given b (xs.map D.str)] = .ok (true, .lst ((lotsOf xs).map D.tup)) := by
  have hl : m1 lenD (mOwn 0) [Slot.val (given b (xs.map D.str)), .no, .no] = .ok (.int xs.length) := by
    cases b <;> (show R.ok (D.int ((xs.map D.str).length : Nat)) = _; rw [List.length_map])
  have ht : (m1 truB (m2 (cmpI fun i j => decide (j < i)) (m1 lenD (mOwn 0)) (mC (.int 4)))) [Slot.val (given b (xs.map D.str)), .no, .no] = .ok false := by
    refine (m1_ok (a := D.bl false) ?_).trans rfl
    refine (m2_ok (a := D.int xs.length) (b := D.int 4) hl rfl).trans ?_
    show R.ok (D.bl (decide ((4 : Int) < (xs.length : Int)))) = _
    rw [decide_eq_false (by omega)]
  refine fnS_rt ?_
  unfold b_lots
  refine (mSeq_nx ((mIf_ff ht).trans rfl)).trans (mRetN_ok ?_)
  refine mComp_ok (ds := (sizes ((sortS xs).map D.str)).map D.tup) ?_ ?_
  · refine (m1_ok (a := D.lst ((sizes ((sortS xs).map D.str)).map D.tup)) ?_).trans rfl
    unfold mCall
    have e : (mCons (m1 sortD (mComp [2] (m1 itemsD (mOwn 0)) (gN 2) mYes (m1 strD (mOwn 2)))) mNil) [Slot.val (given b (xs.map D.str)), .no, .no] = .ok [.lst ((sortS xs).map D.str)] := by
      refine mCons_ok (d := D.lst ((sortS xs).map D.str)) (ds := []) ?_ rfl
      refine (m1_ok (a := D.lst (xs.map D.str)) ?_).trans ?_
      · refine mComp_ok (ds := xs.map D.str) ?_ (compL_map (f := D.str) (h := D.str) fun x hx => rfl)
        cases b <;> rfl
      · show (match strsD (xs.map D.str) with | some xs => if xs.length < 64 then R.ok (D.lst ((sortS xs).map D.str)) else R.stuck | none => R.stuck) = _
        rw [strsD_map]
        exact if_pos (by omega)
    rw [e, R.bind_ok, subsets_ok _ (by rw [List.length_map, sortS_length]; omega)]
    rfl
  · exact compL_filter (f := D.tup) (h := D.tup) (p := fun r => !r.isEmpty) (fun r _ => rfl) fun r _ _ => rfl
end HL

namespace HL
open PySem PySem.Spec PyProof.Rows L2
/-! ### sorted names, their lots -/
def nm (c : Nat) : D := .str (tx [c])
theorem nm_map (ls : List Nat) : ls.map nm = (ls.map fun c => tx [c]).map D.str := by rw [List.map_map]; rfl
theorem ltCps_one (a b : Nat) : ltCps [a] [b] = decide (a < b) := by
  simp [ltCps]
theorem leS_tx (a b : Nat) : leS (tx [a]) (tx [b]) = decide (a ≤ b) := by
  unfold leS
  rw [tx_list, tx_list, ltCps_one]
  by_cases h : b < a
  · rw [decide_eq_true h, decide_eq_false (by omega)]
    rfl
  · rw [decide_eq_false h, decide_eq_true (by omega)]
    rfl
def insN (x : Nat) : List Nat → List Nat
  | [] => [x]
  | y :: ys => if x ≤ y then x :: y :: ys else y :: insN x ys
def sortN : List Nat → List Nat
  | [] => []
  | x :: xs => insN x (sortN xs)
theorem insS_tx (x : Nat) : ∀ ys : List Nat, insS (tx [x]) (ys.map fun c => tx [c]) = (insN x ys).map fun c => tx [c]
  | [] => rfl
  | y :: ys => by
    simp only [List.map_cons, insS, insN, leS_tx, decide_eq_true_eq]
    by_cases h : x ≤ y
    · rw [if_pos h, if_pos h]
      rfl
    · rw [if_neg h, if_neg h, insS_tx x ys]
      rfl
theorem sortS_tx : ∀ xs : List Nat, sortS (xs.map fun c => tx [c]) = (sortN xs).map fun c => tx [c]
  | [] => rfl
  | x :: xs => by
    simp only [List.map_cons, sortS, sortN]
    rw [sortS_tx xs, insS_tx]
theorem insN_perm {x : Nat} : ∀ {ys : List Nat}, (insN x ys).Perm (x :: ys)
  | [] => List.Perm.refl _
  | y :: ys => by
    simp only [insN]
    split
    · exact List.Perm.refl _
    · exact ((insN_perm (x := x) (ys := ys)).cons y).trans (List.Perm.swap x y ys)
theorem sortN_perm : ∀ {xs : List Nat}, (sortN xs).Perm xs
  | [] => List.Perm.refl _
  | x :: xs => insN_perm.trans ((sortN_perm (xs := xs)).cons x)
theorem insN_sorted {x : Nat} : ∀ {ys : List Nat}, ys.Pairwise (· ≤ ·) → (insN x ys).Pairwise (· ≤ ·)
  | [], _ => by simp [insN]
  | y :: ys, h => by
    simp only [insN]
    rw [List.pairwise_cons] at h
    split
    · rename_i hxy
      refine List.pairwise_cons.mpr ⟨fun z hz => ?_, List.pairwise_cons.mpr h⟩
      rcases List.mem_cons.mp hz with rfl | hz
      · exact hxy
      · exact Nat.le_trans hxy (h.1 z hz)
    · rename_i hxy
      refine List.pairwise_cons.mpr ⟨fun z hz => ?_, insN_sorted h.2⟩
      rcases List.mem_cons.mp (insN_perm.mem_iff.mp hz) with rfl | hz
      · omega
      · exact h.1 z hz
theorem sortN_sorted : ∀ {xs : List Nat}, (sortN xs).Pairwise (· ≤ ·)
  | [] => List.Pairwise.nil
  | x :: xs => insN_sorted sortN_sorted
theorem sortN_lt {xs : List Nat} (h : xs.Nodup) : (sortN xs).Pairwise (· < ·) := by
  have h1 := sortN_sorted (xs := xs)
  have h2 : (sortN xs).Nodup := sortN_perm.nodup_iff.mpr h
  refine (h1.and h2).imp fun ⟨a, b⟩ => ?_
  exact Nat.lt_of_le_of_ne a b
theorem subsR_map {α β : Type} (f : α → β) : ∀ xs : List α, subsR (xs.map f) = (subsR xs).map (·.map f)
  | [] => rfl
  | x :: xs => by
    simp only [List.map_cons, subsR, subsR_map f xs, List.map_append, List.map_map]
    rfl
theorem sizes_map {α β : Type} (f : α → β) (xs : List α) : sizes (xs.map f) = (sizes xs).map (·.map f) := by
  unfold sizes
  rw [List.length_map, subsR_map, List.map_flatMap]
  congr 1
  funext s
  rw [List.filter_map]
  congr 1
  refine List.filter_congr fun r _ => ?_
  simp
def lotsN (S : List Nat) : List (List Nat) := (sizes S).filter fun r => !r.isEmpty
theorem lotsOf_nm (ls : List Nat) : lotsOf (ls.map fun c => tx [c]) = (lotsN (sortN ls)).map (·.map nm) := by
  unfold lotsOf lotsN
  rw [sortS_tx, ← nm_map, sizes_map, List.filter_map]
  congr 1
  refine List.filter_congr fun r _ => ?_
  simp
theorem subsR_sub {α : Type} : ∀ {xs r : List α}, r ∈ subsR xs → r.Sublist xs
  | [], r, h => by
    simp only [subsR, List.mem_cons, List.not_mem_nil, or_false] at h
    rw [h]
    exact List.Sublist.refl _
  | x :: xs, r, h => by
    simp only [subsR, List.mem_append, List.mem_map] at h
    rcases h with ⟨q, hq, rfl⟩ | h
    · exact (subsR_sub hq).cons₂ x
    · exact (subsR_sub h).cons x
theorem lotsN_sub {S r : List Nat} (h : r ∈ lotsN S) : r.Sublist S ∧ r ≠ [] := by
  unfold lotsN sizes at h
  obtain ⟨h1, h2⟩ := List.mem_filter.mp h
  obtain ⟨s, _, h3⟩ := List.mem_flatMap.mp h1
  exact ⟨subsR_sub (List.mem_filter.mp h3).1, by rintro rfl; simp at h2⟩
/-- shorter, or as long and ahead in the order -/
def lotLt (r s : List Nat) : Prop := r.length < s.length ∨ (r.length = s.length ∧ r < s)
def chainL : List (List Nat) → Prop
  | [] => True
  | [_] => True
  | x :: y :: r => lotLt x y ∧ chainL (y :: r)
theorem ch : ∀ {l : List (List Nat)}, chainL l → ∀ k : Nat, ∀ r s, l[k]? = some r → l[k + 1]? = some s → lotLt r s
  | [], _, k, r, s, h, _ => by simp at h
  | [x], _, k, r, s, _, h => by simp at h
  | x :: y :: l, hc, 0, r, s, h1, h2 => by
    simp at h1 h2
    subst h1 h2
    exact hc.1
  | x :: y :: l, hc, k + 1, r, s, h1, h2 => ch (l := y :: l) hc.2 k r s (by simpa using h1) (by simpa using h2)
theorem lots_chain {S : List Nat} (h : S.Pairwise (· < ·)) (hl : S.length ≤ 4) : (lotsN S).length = [0, 1, 3, 7, 15].getD S.length 0 ∧ ∀ k : Nat, ∀ r s, (lotsN S)[k]? = some r → (lotsN S)[k + 1]? = some s → lotLt r s := by
  match S, hl with
  | [], _ => exact ⟨rfl, ch (by rw [show lotsN [] = [] from rfl]; trivial)⟩
  | [a], _ => exact ⟨rfl, ch (by rw [show lotsN [a] = [[a]] from rfl]; trivial)⟩
  | [a, b], _ =>
    have : a < b := by simp at h; omega
    exact ⟨rfl, ch (by rw [show lotsN [a, b] = [[a], [b], [a, b]] from rfl]; simp only [chainL, lotLt]; (simp [List.cons_lt_cons_iff] <;> omega))⟩
  | [a, b, c], _ =>
    have : a < b ∧ b < c := by simp at h; omega
    exact ⟨rfl, ch (by rw [show lotsN [a, b, c] = [[a], [b], [c], [a, b], [a, c], [b, c], [a, b, c]] from rfl]; simp only [chainL, lotLt]; (simp [List.cons_lt_cons_iff] <;> omega))⟩
  | [a, b, c, d], _ =>
    have : a < b ∧ b < c ∧ c < d := by simp at h; omega
    exact ⟨rfl, ch (by rw [show lotsN [a, b, c, d] = [[a], [b], [c], [d], [a, b], [a, c], [a, d], [b, c], [b, d], [c, d], [a, b, c], [a, b, d], [a, c, d], [b, c, d], [a, b, c, d]] from rfl]; simp only [chainL, lotLt]; (simp [List.cons_lt_cons_iff] <;> omega))⟩
  | a :: b :: c :: d :: e :: r, hl => simp at hl
/-! ### names in the order, in a list -/
theorem inL_nm {c : Nat} : ∀ {ls : List Nat}, c ∈ ls → inL (nm c) (ls.map nm) = true
  | l :: ls, h => by
    simp only [List.map_cons, inL, Bool.or_eq_true]
    rcases List.mem_cons.mp h with rfl | h
    · exact .inl (deq_refl (nm c) (n := 50) rfl)
    · exact .inr (inL_nm h)
theorem simpL_nm {n : Nat} (ls : List Nat) : simpL? n (ls.map nm) = true := by rw [nm_map]; exact simpL_strs _
theorem in_nm {c : Nat} {ls : List Nat} (h : c ∈ ls) : inN false (nm c) (.lst (ls.map nm)) = .ok (.bl true) := by
  show (if sim (nm c) = true ∧ simpL? 50 (ls.map nm) = true then R.ok (inL (nm c) (ls.map nm)) else R.stuck).bind (fun b => R.ok (D.bl (if false = true then !b else b))) = _
  rw [if_pos ⟨rfl, simpL_nm ls⟩, inL_nm h]
  rfl
theorem lt_nm {a b : Nat} (h : a < b) : ltD (nm a) (nm b) = .ok (.bl true) := by
  show (if sim (nm a) = true ∧ sim (nm b) = true ∧ cmpOk (nm a) (nm b) = true then R.ok (D.bl (dltB (nm a) (nm b))) else R.stuck) = _
  rw [if_pos ⟨rfl, rfl, rfl⟩]
  show R.ok (D.bl (decide ((tx [a]).cps.toList < (tx [b]).cps.toList))) = _
  rw [tx_list, tx_list, decide_eq_true]
  exact List.Lex.rel h
end HL

namespace HL
open PySem PySem.Spec PyProof.Rows L2
/-! ### columns -/
def uniB (c : Nat) : Bool := (Unicode.isAlpha c == ((decide (65 ≤ c) && decide (c ≤ 90)) || (decide (97 ≤ c) && decide (c ≤ 122)))) && (Unicode.isLower c == (decide (97 ≤ c) && decide (c ≤ 122))) && (Unicode.isUpper c == (decide (65 ≤ c) && decide (c ≤ 90))) && !Unicode.isTitle c
theorem uni_all : ((List.range 127).filter (32 ≤ ·)).all uniB = true := by decide +kernel
theorem uni {c : Nat} (h1 : 32 ≤ c) (h2 : c < 127) : Unicode.isAlpha c = ((decide (65 ≤ c) && decide (c ≤ 90)) || (decide (97 ≤ c) && decide (c ≤ 122))) ∧ Unicode.isLower c = (decide (97 ≤ c) && decide (c ≤ 122)) ∧ Unicode.isUpper c = (decide (65 ≤ c) && decide (c ≤ 90)) ∧ Unicode.isTitle c = false := by
  have h := List.all_eq_true.mp uni_all c (List.mem_filter.mpr ⟨List.mem_range.mpr h2, by simpa using h1⟩)
  unfold uniB at h
  simp only [Bool.and_eq_true, beq_iff_eq, Bool.not_eq_true'] at h
  exact ⟨h.1.1.1, h.1.1.2, h.1.2, h.2⟩
def b_is_column  : HEnv → SO :=
  (mRet (mAndV (mChain (cmpI fun i j => decide (i ≤ j)) (cmpI fun i j => decide (i ≤ j)) (mC (.int 1)) (m1 lenD (mOwn 0)) (mC (.int 6))) (mAndV (m1 (onStr isalphaS) (mOwn 0)) (m1 (onStr islowerS) (mOwn 0)))))
def b_head_of (f_is_column : List D → R (Bool × D)) : HEnv → SO :=
  (mSeq (mIfS (m1 truB (m2 (cmpI fun i j => decide (j < i)) (m1 lenD (mOwn 0)) (mC (.int 24))))
  (mRaise "TooMany" "limit" (mC (.int 24)))
  mNext)
  (mSeq (mFor (m1 range1D (mCons (m1 lenD (mOwn 0)) mNil)) (gN 1)
  (mIfS (mOrT (mNotT (m1 truD (mCall f_is_column (mCons (m2 ixD (mOwn 0) (mOwn 1)) mNil)))) (m1 truB (m2 (inN false) (m2 ixD (mOwn 0) (mOwn 1)) (mSl slD (mOwn 0) mNoPart (mPart (mVar 1))))))
  (mRaise "BadHead" "column" (m2 ixD (mOwn 0) (mOwn 1)))
  mNext))
  (mRet (m1 tupleD (m1 sortD (mComp [2] (m1 itemsD (mOwn 0)) (gN 2) mYes (m1 strD (mOwn 2))))))))
/-- of plain signs only, not long -/
def Asc (x : Str) : Prop := (∀ c ∈ x.cps.toList, 32 ≤ c ∧ c < 127) ∧ x.length ≤ 1000
def low (c : Nat) : Bool := decide (97 ≤ c) && decide (c ≤ 122)
def isCol (x : Str) : Bool := (decide (1 ≤ x.length) && decide (x.length ≤ 6)) && x.cps.toList.all low
theorem isCol_unicode {x : Str} (h : Asc x) : (Txt.isalpha x && Txt.islower x) = (decide (0 < x.length) && x.cps.toList.all low) := by
  have hall : ∀ c ∈ x.cps.toList, (Unicode.isAlpha c && !(Unicode.isUpper c || Unicode.isTitle c)) = low c := fun c hc => by
    obtain ⟨h1, h2⟩ := h.1 c hc
    obtain ⟨a, b, d, e⟩ := uni h1 h2
    rw [a, d, e]
    unfold low
    rw [Bool.eq_iff_iff]
    simp
    omega
  have hlow : ∀ c ∈ x.cps.toList, Unicode.isLower c = low c := fun c hc => by
    obtain ⟨h1, h2⟩ := h.1 c hc
    exact (uni h1 h2).2.1
  have hlen : x.length = x.cps.toList.length := by
    show x.cps.size = _
    simp
  unfold Txt.isalpha Txt.islower
  rw [← Array.all_toList, ← Array.any_toList, ← Array.any_toList, hlen]
  generalize x.cps.toList = l at hall hlow ⊢
  rw [Bool.eq_iff_iff]
  simp only [Bool.and_eq_true, decide_eq_true_eq, List.all_eq_true, List.any_eq_true, Bool.not_eq_true', List.any_eq_false]
  constructor
  · rintro ⟨⟨h1, h2⟩, _, h4⟩
    refine ⟨h1, fun c hc => ?_⟩
    rw [← hall c hc, h2 c hc]
    have := h4 c hc
    simpa using this
  · rintro ⟨h1, h2⟩
    have h3 : ∀ c ∈ l, Unicode.isAlpha c = true ∧ (Unicode.isUpper c || Unicode.isTitle c) = false := fun c hc => by
      have := hall c hc
      rw [h2 c hc] at this
      simpa using this
    refine ⟨⟨h1, fun c hc => (h3 c hc).1⟩, ?_, fun c hc => by rw [(h3 c hc).2]; decide⟩
    cases l with
    | nil => simp at h1
    | cons c r => exact ⟨c, List.mem_cons_self, by rw [hlow c List.mem_cons_self]; exact h2 c List.mem_cons_self⟩
theorem mAndV_ok {a b : HEnv → R D} {env : HEnv} {x y : Bool} (h : a env = .ok (.bl x)) (k : x = true → b env = .ok (.bl y)) : mAndV a b env = .ok (.bl (x && y)) := by
  unfold mAndV
  rw [h, R.bind_ok]
  show (if x = true then b env else R.ok (D.bl false)) = _
  cases x with
  | true => rw [if_pos rfl, k rfl]; rfl
  | false => rw [if_neg (by decide)]; rfl
theorem mChain_ok {f g : D → D → R D} {ma mb mc : HEnv → R D} {env : HEnv} {a b c : D} {x y : Bool} (ha : ma env = .ok a) (hb : mb env = .ok b) (hc : mc env = .ok c) (hf : f a b = .ok (.bl x)) (hg : g b c = .ok (.bl y)) : mChain f g ma mb mc env = .ok (.bl (x && y)) := by
  unfold mChain
  rw [ha, R.bind_ok, hb, R.bind_ok, hf, R.bind_ok]
  show (if x = true then (mc env).bind fun z => g b z else R.ok (D.bl false)) = _
  cases x with
  | true => rw [if_pos rfl, hc, R.bind_ok, hg]; rfl
  | false => rw [if_neg (by decide)]; rfl
theorem is_column_ok {x : Str} (h : Asc x) : fnS 1 b_is_column [.str x] = .ok (false, .bl (isCol x)) := by
  refine fnS_rt (mRet_ok ?_)
  have hl : m1 lenD (mOwn 0) [Slot.val (.str x)] = .ok (.int x.length) := by
    show (if x.length ≤ sizeLine then _ else _) = _
    exact if_pos (le_line (by have := h.2; omega))
  have e1 : (mChain (cmpI fun i j => decide (i ≤ j)) (cmpI fun i j => decide (i ≤ j)) (mC (.int 1)) (m1 lenD (mOwn 0)) (mC (.int 6))) [Slot.val (.str x)] = .ok (.bl (decide (1 ≤ x.length) && decide (x.length ≤ 6))) := by
    refine mChain_ok (a := .int 1) (b := .int x.length) (c := .int 6) rfl hl rfl ?_ ?_
    · show R.ok (D.bl (decide ((1 : Int) ≤ (x.length : Int)))) = _
      congr 2
      rw [Bool.eq_iff_iff]
      simp only [decide_eq_true_eq]
      omega
    · show R.ok (D.bl (decide ((x.length : Int) ≤ 6))) = _
      congr 2
      rw [Bool.eq_iff_iff]
      simp only [decide_eq_true_eq]
      omega
  have e2 : (mAndV (m1 (onStr isalphaS) (mOwn 0)) (m1 (onStr islowerS) (mOwn 0))) [Slot.val (.str x)] = .ok (.bl (Txt.isalpha x && Txt.islower x)) := mAndV_ok rfl fun _ => rfl
  refine (mAndV_ok e1 fun _ => e2).trans ?_
  rw [isCol_unicode h]
  unfold isCol
  congr 2
  rw [Bool.eq_iff_iff]
  simp only [Bool.and_eq_true, decide_eq_true_eq]
  constructor
  · rintro ⟨⟨h1, h2⟩, h3, h4⟩
    exact ⟨⟨h1, h2⟩, h4⟩
  · rintro ⟨⟨h1, h2⟩, h3⟩
    exact ⟨⟨h1, h2⟩, by omega, h3⟩
/-! ### heads -/
theorem inL_strs (x : Str) : ∀ ys : List Str, inL (.str x) (ys.map D.str) = decide (x ∈ ys)
  | [] => by simp [inL]
  | y :: ys => by
    simp only [List.map_cons, inL, inL_strs x ys]
    show ((y == x) || decide (x ∈ ys)) = _
    rw [Bool.eq_iff_iff]
    simp only [Bool.or_eq_true, beq_iff_eq, decide_eq_true_eq, List.mem_cons]
    constructor
    · rintro (h | h)
      · exact .inl h.symm
      · exact .inr h
    · rintro (h | h)
      · exact .inl h.symm
      · exact .inr h
theorem in_given (b : Bool) (x : Str) (ys : List Str) : inN false (.str x) (given b (ys.map D.str)) = .ok (.bl (decide (x ∈ ys))) := by
  have h : ∀ ds : List D, ds = ys.map D.str → (if sim (.str x) = true ∧ simpL? 50 ds = true then R.ok (inL (.str x) ds) else R.stuck).bind (fun b => R.ok (D.bl (if false = true then !b else b))) = .ok (.bl (decide (x ∈ ys))) := fun ds e => by
    subst e
    rw [if_pos ⟨rfl, simpL_strs ys⟩, inL_strs]
    rfl
  cases b <;> exact h _ rfl
theorem cutL_to (ds : List D) (k : Nat) : cutL ds none (some (k : Int)) = ds.take k := by
  unfold cutL
  rw [HT.sIx_none, HT.sIx_nat, List.drop_zero, Nat.sub_zero]
  rcases Nat.le_total k ds.length with h | h
  · rw [Nat.min_eq_left h]
  · rw [Nat.min_eq_right h, List.take_length, List.take_of_length_le h]
theorem cut_given (b : Bool) (ys : List Str) (k : Nat) : slD (given b (ys.map D.str)) none (some (k : Int)) = .ok (given b ((ys.take k).map D.str)) := by
  cases b
  · show R.ok (D.lst (cutL (ys.map D.str) none (some (k : Int)))) = _
    rw [cutL_to, ← List.map_take]
    rfl
  · show R.ok (D.tup (cutL (ys.map D.str) none (some (k : Int)))) = _
    rw [cutL_to, ← List.map_take]
    rfl
theorem len_given (b : Bool) (ds : List D) : lenD (given b ds) = .ok (.int ds.length) := by cases b <;> rfl
theorem ix_given {b : Bool} {ds : List D} {j : Nat} {d : D} (h : ds[j]? = some d) : ixD (given b ds) (.int (j : Int)) = .ok d := by
  cases b
  · exact ix_lst h
  · exact ix_tup h
theorem items_given (b : Bool) (ds : List D) : itemsD (given b ds) = .ok ds := by cases b <;> rfl
/-- the first column that may not stand there -/
def badAt (xs : List Str) (k : Nat) : Bool := match xs[k]? with
  | some x => !isCol x || decide (x ∈ xs.take k)
  | none => false
def firstBad (xs : List Str) : Option Nat := (List.range xs.length).find? (badAt xs)
/-- a loop over 0 .. n-1 that ends at the first k with bad k -/
theorem forL_first {g : D → HEnv → R HEnv} {b : HEnv → SO} (P : HEnv → Prop) (bad : Nat → Bool) (O : Nat → SO → Prop) : ∀ {ks : List Nat} {env : HEnv}, P env →
    (∀ k ∈ ks, ∀ env, P env → ∃ e1, g (.int (k : Nat)) env = .ok e1 ∧ ((bad k = true ∧ O k (b e1) ∧ (∀ e, b e1 ≠ .nx e ∧ b e1 ≠ .ct e ∧ b e1 ≠ .bk e)) ∨ (bad k = false ∧ ∃ e, b e1 = .nx e ∧ P e))) →
    match ks.find? bad with
    | some k => O k (forL g b (ks.map fun i => D.int (i : Nat)) env)
    | none => ∃ e, forL g b (ks.map fun i => D.int (i : Nat)) env = .nx e ∧ P e
  | [], env, h0, _ => ⟨env, rfl, h0⟩
  | k :: ks, env, h0, hs => by
    obtain ⟨e1, h1, h2⟩ := hs k List.mem_cons_self env h0
    rcases h2 with ⟨hb, ho, hn⟩ | ⟨hb, e, h2, h3⟩
    · rw [List.find?_cons_of_pos hb]
      show O k (forL g b (D.int (k : Nat) :: _) env)
      unfold forL
      simp only [h1]
      cases eb : b e1 with
      | nx e => exact ((hn e).1 eb).elim
      | ct e => exact ((hn e).2.1 eb).elim
      | bk e => exact ((hn e).2.2 eb).elim
      | rt o r => rw [eb] at ho; exact ho
      | er x e => rw [eb] at ho; exact ho
      | stuck => rw [eb] at ho; exact ho
    · rw [List.find?_cons_of_neg (by rw [hb]; decide)]
      have ih := forL_first P bad O (g := g) (b := b) (ks := ks) (env := e) h3 fun k hk => hs k (List.mem_cons_of_mem _ hk)
      have ef : forL g b ((k :: ks).map fun i => D.int (i : Nat)) env = forL g b (ks.map fun i => D.int (i : Nat)) e := by
        show forL g b (D.int (k : Nat) :: _) env = _
        rw [forL]
        simp only [h1, h2]
      rw [ef]
      exact ih
def headE (xs : List Str) : R (Bool × D) := if 24 < xs.length then .er ⟨"TooMany", "limit", .int 24⟩ else match firstBad xs with
  | some k => .er ⟨"BadHead", "column", .str (xs.getD k ⟨#[]⟩)⟩
  | none => .ok (false, .tup ((sortS xs).map D.str))
theorem head_of_ok (b : Bool) (xs : List Str) (ha : ∀ x ∈ xs, Asc x) (hz : xs.length ≤ 1000000) : fnS 3 (b_head_of (fnS 1 b_is_column)) [given b (xs.map D.str)] = headE xs := by
  have hl : m1 lenD (mOwn 0) [Slot.val (given b (xs.map D.str)), .no, .no] = .ok (.int xs.length) := (m1_ok (a := given b (xs.map D.str)) rfl).trans (by rw [len_given, List.length_map])
  have ht : (m1 truB (m2 (cmpI fun i j => decide (j < i)) (m1 lenD (mOwn 0)) (mC (.int 24)))) [Slot.val (given b (xs.map D.str)), .no, .no] = .ok (decide (24 < xs.length)) := by
    refine (m1_ok (a := D.bl (decide (24 < xs.length))) ?_).trans rfl
    refine (m2_ok (a := D.int xs.length) (b := D.int 24) hl rfl).trans ?_
    show R.ok (D.bl (decide ((24 : Int) < (xs.length : Int)))) = _
    congr 2
    rw [Bool.eq_iff_iff]
    simp only [decide_eq_true_eq]
    omega
  unfold headE
  by_cases hb : 24 < xs.length
  · rw [if_pos hb]
    rw [decide_eq_true hb] at ht
    refine fnS_er (e := [Slot.val (given b (xs.map D.str)), .no, .no]) ?_
    unfold b_head_of
    refine mSeq_er ((mIf_tt ht).trans ?_)
    exact (sB_ok (a := D.int 24) rfl).trans (if_pos (by decide))
  · rw [if_neg hb]
    rw [decide_eq_false hb] at ht
    have key := forL_first (g := gN 1) (b := mIfS (mOrT (mNotT (m1 truD (mCall (fnS 1 b_is_column) (mCons (m2 ixD (mOwn 0) (mOwn 1)) mNil)))) (m1 truB (m2 (inN false) (m2 ixD (mOwn 0) (mOwn 1)) (mSl slD (mOwn 0) mNoPart (mPart (mVar 1)))))) (mRaise "BadHead" "column" (m2 ixD (mOwn 0) (mOwn 1))) mNext)
      (fun e => ∃ s1, e = [Slot.val (given b (xs.map D.str)), s1, .no]) (badAt xs) (fun k so => ∃ e, so = .er ⟨"BadHead", "column", .str (xs.getD k ⟨#[]⟩)⟩ e)
      (ks := List.range xs.length) (env := [Slot.val (given b (xs.map D.str)), .no, .no]) ⟨.no, rfl⟩ fun k hk env ⟨s1, he⟩ => by
        subst he
        have hk' : k < xs.length := List.mem_range.mp hk
        have ex : xs[k]? = some xs[k] := List.getElem?_eq_getElem hk'
        have hix : m2 ixD (mOwn 0) (mOwn 1) [Slot.val (given b (xs.map D.str)), .val (.int (k : Nat)), .no] = .ok (.str xs[k]) :=
          (m2_ok (a := given b (xs.map D.str)) (b := D.int (k : Nat)) rfl rfl).trans (ix_given (by rw [List.getElem?_map, ex]; rfl))
        have hasc := ha _ (List.getElem_mem hk')
        have hcol : (mNotT (m1 truD (mCall (fnS 1 b_is_column) (mCons (m2 ixD (mOwn 0) (mOwn 1)) mNil)))) [Slot.val (given b (xs.map D.str)), .val (.int (k : Nat)), .no] = .ok (!isCol xs[k]) :=
          m1_ok ((m1_ok (a := D.bl (isCol xs[k])) (mCall_ok (ds := [.str xs[k]]) (mCons_ok hix rfl) (is_column_ok hasc))).trans rfl)
        have hin : (m1 truB (m2 (inN false) (m2 ixD (mOwn 0) (mOwn 1)) (mSl slD (mOwn 0) mNoPart (mPart (mVar 1))))) [Slot.val (given b (xs.map D.str)), .val (.int (k : Nat)), .no] = .ok (decide (xs[k] ∈ xs.take k)) := by
          refine (m1_ok (a := D.bl (decide (xs[k] ∈ xs.take k))) ?_).trans rfl
          refine (m2_ok (a := D.str xs[k]) (b := given b ((xs.take k).map D.str)) hix ?_).trans (in_given b _ _)
          exact cut_given b xs k
        have htest : (mOrT (mNotT (m1 truD (mCall (fnS 1 b_is_column) (mCons (m2 ixD (mOwn 0) (mOwn 1)) mNil)))) (m1 truB (m2 (inN false) (m2 ixD (mOwn 0) (mOwn 1)) (mSl slD (mOwn 0) mNoPart (mPart (mVar 1)))))) [Slot.val (given b (xs.map D.str)), .val (.int (k : Nat)), .no] = .ok (badAt xs k) := by
          have eb : badAt xs k = (!isCol xs[k] || decide (xs[k] ∈ xs.take k)) := by
            unfold badAt
            rw [ex]
          rw [eb]
          unfold mOrT
          rw [hcol, R.bind_ok]
          generalize isCol xs[k] = c
          cases c with
          | true => exact hin
          | false => rfl
        refine ⟨_, rfl, ?_⟩
        cases hbad : badAt xs k with
        | true =>
          rw [hbad] at htest
          have er : mIfS (mOrT (mNotT (m1 truD (mCall (fnS 1 b_is_column) (mCons (m2 ixD (mOwn 0) (mOwn 1)) mNil)))) (m1 truB (m2 (inN false) (m2 ixD (mOwn 0) (mOwn 1)) (mSl slD (mOwn 0) mNoPart (mPart (mVar 1)))))) (mRaise "BadHead" "column" (m2 ixD (mOwn 0) (mOwn 1))) mNext [Slot.val (given b (xs.map D.str)), .val (.int (k : Nat)), .no] = .er ⟨"BadHead", "column", .str xs[k]⟩ [Slot.val (given b (xs.map D.str)), .val (.int (k : Nat)), .no] := by
            refine (mIf_tt htest).trans ((sB_ok (a := D.str xs[k]) hix).trans (if_pos ?_))
            exact decide_eq_true hasc.2
          have eg : xs.getD k ⟨#[]⟩ = xs[k] := by
            rw [List.getD_eq_getElem?_getD, ex]
            rfl
          refine .inl ⟨rfl, ⟨[Slot.val (given b (xs.map D.str)), .val (.int (k : Nat)), .no], by rw [eg]; exact er⟩, fun e => ⟨fun z => ?_, fun z => ?_, fun z => ?_⟩⟩
          · exact nomatch er.symm.trans z
          · exact nomatch er.symm.trans z
          · exact nomatch er.symm.trans z
        | false =>
          rw [hbad] at htest
          exact .inr ⟨rfl, _, (mIf_ff htest).trans rfl, _, rfl⟩
    have hsrc : (m1 range1D (mCons (m1 lenD (mOwn 0)) mNil)) [Slot.val (given b (xs.map D.str)), .no, .no] = .ok ((List.range xs.length).map fun i => D.int (i : Nat)) :=
      (m1_ok (a := [D.int xs.length]) (mCons_ok hl rfl)).trans (rangeD_ok (by omega))
    unfold firstBad
    cases hf : (List.range xs.length).find? (badAt xs) with
    | some k =>
      rw [hf] at key
      obtain ⟨e, he⟩ := key
      refine fnS_er (e := e) ?_
      unfold b_head_of
      refine (mSeq_nx ((mIf_ff ht).trans rfl)).trans (mSeq_er ((mFor_ok hsrc).trans he))
    | none =>
      rw [hf] at key
      obtain ⟨e, he, s1, rfl⟩ := key
      refine fnS_rt ?_
      unfold b_head_of
      refine (mSeq_nx ((mIf_ff ht).trans rfl)).trans ((mSeq_nx ((mFor_ok hsrc).trans he)).trans (mRet_ok ?_))
      refine (m1_ok (a := D.lst ((sortS xs).map D.str)) ?_).trans rfl
      refine (m1_ok (a := D.lst (xs.map D.str)) ?_).trans ?_
      · exact mComp_ok (ds := xs.map D.str) ((m1_ok (a := given b (xs.map D.str)) rfl).trans (items_given b _)) (compL_map (f := D.str) (h := D.str) fun x hx => rfl)
      · show (match strsD (xs.map D.str) with | some xs => if xs.length < 64 then R.ok (D.lst ((sortS xs).map D.str)) else R.stuck | none => R.stuck) = _
        rw [strsD_map]
        exact if_pos (by omega)
/-! ### reckoning with cells -/
theorem own_val {i : Nat} {env : HEnv} {d : D} (he : env[i]? = some (.val d)) : mOwn i env = .ok d := by unfold mOwn; rw [he]
theorem var_val {i : Nat} {env : HEnv} {d : D} (he : env[i]? = some (.val d)) : mVar i env = .ok d := by unfold mVar; rw [he]
theorem cell_at {i : Nat} {env : HEnv} {cs : List Int} (he : env[i]? = some (.val (.lst (cs.map D.int)))) (k : Nat) (h : k < cs.length) : m2 ixD (mOwn i) (mC (.int (k : Int))) env = .ok (.int cs[k]) :=
  (m2_ok (own_val he) (show mC (.int (k : Int)) env = .ok (.int (k : Int)) from rfl)).trans (ix_lst (by rw [List.getElem?_map, List.getElem?_eq_getElem h]; rfl))
theorem int_of {m : HEnv → R D} {env : HEnv} {a : Int} (h : m env = .ok (.int a)) : m1 intD m env = .ok (.int a) := m1_ok h
theorem mod_lit {m : HEnv → R D} {env : HEnv} {a b : Int} (h : m env = .ok (.int a)) (hb : 0 < b) : m2 modD m (mC (.int b)) env = .ok (.int (a % b)) :=
  (m2_ok h (show mC (.int b) env = .ok (.int b) from rfl)).trans (if_pos hb)
theorem div_lit {m : HEnv → R D} {env : HEnv} {a b : Int} (h : m env = .ok (.int a)) (hb : 0 < b) (hb2 : b < 1073741824) : m2 divD m (mC (.int b)) env = .ok (.int (a / b)) :=
  (m2_ok h (show mC (.int b) env = .ok (.int b) from rfl)).trans (if_pos ⟨hb, hb2⟩)
theorem mod_of {m k : HEnv → R D} {env : HEnv} {a b : Int} (h : m env = .ok (.int a)) (h2 : k env = .ok (.int b)) (hb : 0 < b) : m2 modD m k env = .ok (.int (a % b)) := (m2_ok h h2).trans (if_pos hb)
theorem part_of {m : HEnv → R D} {env : HEnv} {a : Int} (h : m env = .ok (.int a)) : mPart m env = .ok (some a) := m1_ok h
theorem sl_to {m l : HEnv → R D} {env : HEnv} {d e : D} {a : Int} (h : m env = .ok d) (k : l env = .ok (.int a)) (he : slD d none (some a) = .ok e) : mSl slD m mNoPart (mPart l) env = .ok e := by
  unfold mSl
  rw [h, R.bind_ok]
  show (mPart l env).bind _ = _
  rw [part_of k]
  exact he
theorem sl_from {m l : HEnv → R D} {env : HEnv} {d e : D} {a : Int} (h : m env = .ok d) (k : l env = .ok (.int a)) (he : slD d (some a) none = .ok e) : mSl slD m (mPart l) mNoPart env = .ok e := by
  unfold mSl
  rw [h, R.bind_ok, part_of k]
  exact he
theorem range_of {m : HEnv → R D} {env : HEnv} {n : Nat} (h : m env = .ok (.int (n : Int))) (hn : n ≤ 16777216) : m1 range1D (mCons m mNil) env = .ok ((List.range n).map fun i => D.int (i : Nat)) :=
  (m1_ok (mCons_ok h (show mNil env = .ok [] from rfl))).trans (rangeD_ok hn)
end HL

namespace Gk03
open PySem PySem.Spec PyProof.Rows L2 HL
def top (i : Nat) : Stmt := PySem.Challenge.pw_headless_k03_heads_are_checked.main.body.getD i (.Pass ⟨0, 0, 0, 0⟩)
abbrev s__law_drawn : Stmt := top 13
abbrev s__law_strings : Stmt := top 16
abbrev s_is_column : Stmt := top 10
abbrev s_head_of : Stmt := top 11
abbrev s__law_told : Stmt := top 14
abbrev s__law_due : Stmt := top 15
abbrev s_law : Stmt := top 17
/-- _law_drawn -/
def b__law_drawn  : HEnv → SO :=
  (mSeq (mSet 3 (mLstE (mCons (mC (.int 1234)) (mCons (mC (.int 4021)) (mCons (mC (.int 777)) (mCons (mC (.int 2906)) (mCons (mC (.int 3315)) (mCons (mC (.int 158)) (mCons (mC (.int 4712)) (mCons (mC (.int 2089)) (mCons (mC (.int 3640)) (mCons (mC (.int 915)) (mCons (mC (.int 1782)) (mCons (mC (.int 4463)) (mCons (mC (.int 2531)) mNil)))))))))))))))
  (mSeq (mSet 3 (m2 addD (mOwn 3) (mLstE (mCons (mC (.int 606)) (mCons (mC (.int 3877)) (mCons (mC (.int 1409)) (mCons (mC (.int 4950)) (mCons (mC (.int 263)) (mCons (mC (.int 3128)) (mCons (mC (.int 2214)) (mCons (mC (.int 4347)) (mCons (mC (.int 1071)) (mCons (mC (.int 3599)) (mCons (mC (.int 880)) (mCons (mC (.int 2752)) mNil)))))))))))))))
  (mSeq (mSet 3 (m2 addD (mOwn 3) (mLstE (mCons (mC (.int 4126)) (mCons (mC (.int 1513)) (mCons (mC (.int 3006)) (mCons (mC (.int 4888)) (mCons (mC (.int 391)) (mCons (mC (.int 2465)) (mCons (mC (.int 1690)) (mCons (mC (.int 3754)) (mCons (mC (.int 4219)) (mCons (mC (.int 542)) (mCons (mC (.int 2837)) (mCons (mC (.int 1176)) mNil)))))))))))))))
  (mSeq (mSet 3 (m2 addD (mOwn 3) (mLstE (mCons (mC (.int 4605)) (mCons (mC (.int 3281)) (mCons (mC (.int 98)) (mCons (mC (.int 1955)) (mCons (mC (.int 4074)) (mCons (mC (.int 2698)) (mCons (mC (.int 3433)) (mCons (mC (.int 721)) (mCons (mC (.int 4790)) (mCons (mC (.int 1347)) (mCons (mC (.int 2020)) (mCons (mC (.int 3916)) mNil)))))))))))))))
  (mSeq (mSet 3 (m2 addD (mOwn 3) (mLstE (mCons (mC (.int 1661)) (mCons (mC (.int 4532)) (mCons (mC (.int 305)) (mCons (mC (.int 2983)) (mCons (mC (.int 3702)) (mCons (mC (.int 1128)) (mCons (mC (.int 4251)) (mCons (mC (.int 2376)) (mCons (mC (.int 649)) (mCons (mC (.int 3067)) (mCons (mC (.int 1894)) (mCons (mC (.int 4813)) mNil)))))))))))))))
  (mSeq (mSet 4 (mC (.int 0)))
  (mSeq (mIfS (m1 truB (m2 ltD (mOwn 1) (m1 lenD (mOwn 0))))
  (mSet 4 (m1 intD (m2 ixD (mOwn 0) (mOwn 1))))
  mNext)
  (mSeq (mIfS (m1 truB (m2 ltD (mOwn 4) (m2 powD (mC (.int 10)) (mC (.int 18)))))
  (mSeq (mSet 5 (m2 addD (m2 modD (m1 intD (mOwn 4)) (mC (.int 1009))) (mC (.int 1))))
  (mRetN (mComp [7] (m1 range1D (mCons (mVar 2) mNil)) (gN 7) mYes (m2 modD (m1 intD (m2 mulD (mOwn 5) (m2 ixD (mOwn 3) (m2 modD (m2 addD (mOwn 7) (m2 mulD (mC (.int 7)) (mOwn 1))) (mC (.int 61)))))) (mC (.int 5039))))))
  mNext)
  (mSeq (mSetN 6 (mLstE mNil))
  (mSeq (mFor (m1 range1D (mCons (mVar 2) mNil)) (gN 7)
  (mSeq (mOwn1 6 (tyL "list") appD (m2 modD (m1 intD (mOwn 4)) (mC (.int 5040))))
  (mSet 4 (m2 divD (mOwn 4) (mC (.int 5040))))))
  (mRetOwn 6)))))))))))
/-- _law_strings -/
def b__law_strings  : HEnv → SO :=
  (mSeq (mSet 2 (mC (.str "abcdefghijklmnopqrstuvwxyz")))
  (mSeq (mSet 3 (mC (.str " !\"#$&'()*+,-./0123456789:;<=>?@ABCDEFGHIJKLMNOPQRSTUVWXYZ[\\]^_`{|}~")))
  (mSeq (mSet 4 (mSl slD (mC (.str "kkk")) mNoPart (mPart (m2 modD (m1 intD (m2 ixD (mOwn 0) (mC (.int 0)))) (mC (.int 4))))))
  (mSeq (mSet 5 (mSl slD (mC (.str "m")) mNoPart (mPart (m2 modD (m1 intD (m2 divD (m2 ixD (mOwn 0) (mC (.int 0))) (mC (.int 4)))) (mC (.int 2))))))
  (mSeq (mSetN 6 (mLstE mNil))
  (mSeq (mFor (m1 range1D (mCons (mVar 1) mNil)) (gN 7)
  (mSeq (mSet 8 (m2 ixD (mOwn 2) (m2 modD (m1 intD (m2 addD (m2 mulD (mC (.int 7)) (mOwn 7)) (m2 ixD (mOwn 0) (mC (.int 1))))) (mC (.int 26)))))
  (mOwn1 6 (tyL "list") appD (m2 addD (m2 addD (m2 addD (mOwn 4) (mOwn 8)) (m2 ixD (mC (.str "pq")) (m2 divD (mOwn 7) (mC (.int 26))))) (mOwn 5)))))
  (mSeq (mSet 9 (mLstE (mCons (mC (.str "")) (mCons (mC (.str "K")) (mCons (mC (.str "a1")) (mCons (mC (.str "abcdefg")) (mCons (mC (.str "a b")) (mCons (mC (.str "-")) (mCons (mC (.str "aB")) mNil)))))))))
  (mSeq (mSet 10 (m2 ixD (mOwn 3) (m2 modD (m1 intD (m2 ixD (mOwn 0) (mC (.int 9)))) (m1 lenD (mOwn 3)))))
  (mSeq (mFor (m1 range1D (mCons (mC (.int 2)) mNil)) (gN 7)
  (mSeq (mSet 11 (m2 modD (m1 intD (m2 ixD (mOwn 0) (m2 addD (mC (.int 2)) (m2 mulD (mC (.int 2)) (mOwn 7))))) (mC (.int 10))))
  (mSeq (mSet 12 (m2 modD (m1 intD (m2 ixD (mOwn 0) (m2 addD (mC (.int 3)) (m2 mulD (mC (.int 2)) (mOwn 7))))) (m2 addD (mOwn 1) (mC (.int 1)))))
  (mSeq (mIfS (mAndT (m1 truB (m2 ltD (mOwn 12) (mOwn 1))) (m1 truB (m2 ltD (mOwn 11) (mC (.int 7)))))
  (mPutL 6 (mVar 12) (m2 ixD (mOwn 9) (mOwn 11)))
  mNext)
  (mSeq (mIfS (mAndT (m1 truB (m2 ltD (mOwn 12) (mOwn 1))) (m1 truB (m2 eqD (mOwn 11) (mC (.int 7)))))
  (mPutL 6 (mVar 12) (m2 ixD (mOwn 6) (m2 modD (m1 intD (m2 ixD (mOwn 0) (mC (.int 6)))) (mOwn 1))))
  mNext)
  (mIfS (mAndT (m1 truB (m2 ltD (mOwn 12) (mOwn 1))) (m1 truB (m2 eqD (mOwn 11) (mC (.int 8)))))
  (mPutL 6 (mVar 12) (m2 addD (m2 addD (mSl slD (mC (.str "ab")) mNoPart (mPart (m2 modD (m1 intD (m2 ixD (mOwn 0) (mC (.int 10)))) (mC (.int 3))))) (mOwn 10)) (mSl slD (mC (.str "cd")) mNoPart (mPart (m2 modD (m1 intD (m2 divD (m2 ixD (mOwn 0) (mC (.int 10))) (mC (.int 3)))) (mC (.int 3)))))))
  mNext))))))
  (mRetOwn 6))))))))))
/-- is_column -/
def b_is_column  : HEnv → SO :=
  (mRet (mAndV (mChain (cmpI fun i j => decide (i ≤ j)) (cmpI fun i j => decide (i ≤ j)) (mC (.int 1)) (m1 lenD (mOwn 0)) (mC (.int 6))) (mAndV (m1 (onStr isalphaS) (mOwn 0)) (m1 (onStr islowerS) (mOwn 0)))))
/-- head_of -/
def b_head_of (f_is_column : List D → R (Bool × D)) : HEnv → SO :=
  (mSeq (mIfS (m1 truB (m2 (cmpI fun i j => decide (j < i)) (m1 lenD (mOwn 0)) (mC (.int 24))))
  (mRaise "TooMany" "limit" (mC (.int 24)))
  mNext)
  (mSeq (mFor (m1 range1D (mCons (m1 lenD (mOwn 0)) mNil)) (gN 1)
  (mIfS (mOrT (mNotT (m1 truD (mCall f_is_column (mCons (m2 ixD (mOwn 0) (mOwn 1)) mNil)))) (m1 truB (m2 (inN false) (m2 ixD (mOwn 0) (mOwn 1)) (mSl slD (mOwn 0) mNoPart (mPart (mVar 1))))))
  (mRaise "BadHead" "column" (m2 ixD (mOwn 0) (mOwn 1)))
  mNext))
  (mRet (m1 tupleD (m1 sortD (mComp [2] (m1 itemsD (mOwn 0)) (gN 2) mYes (m1 strD (mOwn 2))))))))
/-- _law_told -/
def b__law_told (f_head_of : List D → R (Bool × D)) : HEnv → SO :=
  (mTry 1 (mRetX (mCallX f_head_of (mCons (mVar 0) mNil))) [("BadHead", "column", "BadHead"), ("TooMany", "limit", "TooMany")])
/-- _law_due -/
def b__law_due  : HEnv → SO :=
  (mSeq (mIfS (m1 truB (m2 (cmpI fun i j => decide (j < i)) (m1 lenD (mOwn 0)) (mC (.int 24))))
  (mRet (mTupE (mCons (mC (.str "TooMany")) (mCons (mC (.int 24)) (mCons (mC (.bl false)) mNil)))))
  mNext)
  (mSeq (mFor (m1 range1D (mCons (m1 lenD (mOwn 0)) mNil)) (gN 1)
  (mSeq (mSet 2 (mComp [3] (m1 itemsD (m2 ixD (mOwn 0) (mOwn 1))) (gN 3) mYes (m2 (inN false) (mOwn 3) (mC (.str "abcdefghijklmnopqrstuvwxyz")))))
  (mSeq (mIfS (mOrT (m1 truB (m2 eqD (m1 lenD (mOwn 2)) (mC (.int 0)))) (mOrT (m1 truB (m2 (cmpI fun i j => decide (j < i)) (m1 lenD (mOwn 2)) (mC (.int 6)))) (mNotT (m1 truD (m1 allD (mOwn 2))))))
  (mRet (mTupE (mCons (mC (.str "BadHead")) (mCons (m2 ixD (mOwn 0) (mOwn 1)) (mCons (mC (.bl false)) mNil)))))
  mNext)
  (mIfS (m1 truB (m2 (inN false) (m2 ixD (mOwn 0) (mOwn 1)) (mSl slD (mOwn 0) mNoPart (mPart (mVar 1)))))
  (mRet (mTupE (mCons (mC (.str "BadHead")) (mCons (m2 ixD (mOwn 0) (mOwn 1)) (mCons (mC (.bl false)) mNil)))))
  mNext))))
  (mRet (m1 tupleD (m1 sortD (mComp [4] (m1 itemsD (mOwn 0)) (gN 4) mYes (m1 strD (mOwn 4))))))))
/-- law -/
def b_law (f__law_drawn : List D → R (Bool × D)) (f__law_strings : List D → R (Bool × D)) (f__law_told : List D → R (Bool × D)) (f__law_due : List D → R (Bool × D)) : HEnv → SO :=
  (mSeq (mSet 1 (mCall f__law_drawn (mCons (mVar 0) (mCons (mC (.int 0)) (mCons (mC (.int 11)) mNil)))))
  (mSeq (mSet 2 (mCall f__law_strings (mCons (mVar 1) (mCons (m2 modD (m1 intD (m2 ixD (mOwn 1) (mC (.int 7)))) (mC (.int 28))) mNil))))
  (mSeq (mSet 3 (m1 listD (mOwn 2)))
  (mSeq (mIfS (m1 truB (m2 eqD (m2 modD (m1 intD (m2 ixD (mOwn 1) (mC (.int 8)))) (mC (.int 2))) (mC (.int 1))))
  (mSet 3 (m1 tupleD (mOwn 2)))
  mNext)
  (mSeq (mSet 4 (mCall f__law_told (mCons (mVar 3) mNil)))
  (mSeq (mIfS (mOrT (m1 truB (m2 neD (m1 listD (mOwn 3)) (mOwn 2))) (mNotT (m1 truD (m1 (isiD "tuple") (mOwn 4)))))
  (mRet (mC (.bl false)))
  mNext)
  (mRet (mAndV (m2 eqD (mOwn 4) (mCall f__law_due (mCons (mVar 2) mNil))) (m2 eqD (mCall f__law_told (mCons (m1 listD (mOwn 2)) mNil)) (mOwn 4))))))))))
/-! what they answer -/
def f__law_drawn : List D → R (Bool × D) := fnS 8 (b__law_drawn )
def f__law_strings : List D → R (Bool × D) := fnS 13 (b__law_strings )
def f_is_column : List D → R (Bool × D) := fnS 1 (b_is_column )
def f_head_of : List D → R (Bool × D) := fnS 3 (b_head_of f_is_column)
def f__law_told : List D → R (Bool × D) := fnS 2 (b__law_told f_head_of)
def f__law_due : List D → R (Bool × D) := fnS 5 (b__law_due )
def f_law : List D → R (Bool × D) := fnS 5 (b_law f__law_drawn f__law_strings f__law_told f__law_due)
structure Txt (P : Program) (K : PySem.W.Frag) (mg : Str → Option Value) (cl : Cl) (A0 C_TooMany C_Unread C_BadHead C_BadRow C_NoTable C_Refused : Addr) : Prop where
  z_int : mg "int" = none
  z_list : mg "list" = none
  z_tuple : mg "tuple" = none
  z_isinstance : mg "isinstance" = none
  z_len : mg "len" = none
  z_range : mg "range" = none
  z_sorted : mg "sorted" = none
  z_str : mg "str" = none
  z_all : mg "all" = none
  c_MOST_COLUMNS : Cst mg "MOST_COLUMNS" (.int 24)
  e_TooMany : ErrAll P K mg cl "TooMany" "limit"
  m_TooMany : mg "TooMany" = some (.ref C_TooMany)
  l_TooMany : cl "TooMany" = some C_TooMany
  e_Unread : ErrAll P K mg cl "Unread" "at"
  m_Unread : mg "Unread" = some (.ref C_Unread)
  l_Unread : cl "Unread" = some C_Unread
  e_BadHead : ErrAll P K mg cl "BadHead" "column"
  m_BadHead : mg "BadHead" = some (.ref C_BadHead)
  l_BadHead : cl "BadHead" = some C_BadHead
  e_BadRow : ErrAll P K mg cl "BadRow" "at"
  m_BadRow : mg "BadRow" = some (.ref C_BadRow)
  l_BadRow : cl "BadRow" = some C_BadRow
  e_NoTable : ErrAll P K mg cl "NoTable" "name"
  m_NoTable : mg "NoTable" = some (.ref C_NoTable)
  l_NoTable : cl "NoTable" = some C_NoTable
  e_Refused : ErrAll P K mg cl "Refused" "name"
  m_Refused : mg "Refused" = some (.ref C_Refused)
  l_Refused : cl "Refused" = some C_Refused
  tab : ErrTab cl K
section
variable {P : Program} {w : World} {K : PySem.W.Frag} {mg : Str → Option Value} {base : Heap} {cl : Cl} {A0 C_TooMany C_Unread C_BadHead C_BadRow C_NoTable C_Refused : Addr}
theorem sc__law_drawn : FnScope ["_law_script", "_law_k", "_law_many", "_law_marks", "_law_cell", "_law_step", "_law_found", "_law_i"] ["_law_script", "_law_k", "_law_many"] (defScope s__law_drawn) := ⟨rfl, rfl, rfl, by decide +kernel, rfl, by decide +kernel, by decide +kernel⟩
theorem d__law_drawn  {f : Addr} {fd : FuncData} (T : Txt P K mg cl A0 C_TooMany C_Unread C_BadHead C_BadRow C_NoTable C_Refused) (F : Fun K "_law_drawn" "_law_drawn" s__law_drawn f fd)  : FnOk P w K mg base (L2.CX P w) 1 f fd ["_law_script", "_law_k", "_law_many"] (spD cl 3 (fnS 8 (b__law_drawn ))) := by
  refine fnD (k := 0) F sc__law_drawn (by decide) fun cdv A outer s H E hr => ?_
  have nd : (["_law_script", "_law_k", "_law_many", "_law_marks", "_law_cell", "_law_step", "_law_found", "_law_i"] : List Str).Nodup := sc__law_drawn.nd
  exact (ds_cons (ds_set nd rfl (.inr rfl) (nf (de_lst (da_cons (d_c pe_int) (da_cons (d_c pe_int) (da_cons (d_c pe_int) (da_cons (d_c pe_int) (da_cons (d_c pe_int) (da_cons (d_c pe_int) (da_cons (d_c pe_int) (da_cons (d_c pe_int) (da_cons (d_c pe_int) (da_cons (d_c pe_int) (da_cons (d_c pe_int) (da_cons (d_c pe_int) (da_cons (d_c pe_int) da_nil))))))))))))))))
  (ds_cons (ds_set nd rfl (.inr rfl) (d_bin op_addD add_2 (d_own (pv 3)) (nb (de_lst (da_cons (d_c pe_int) (da_cons (d_c pe_int) (da_cons (d_c pe_int) (da_cons (d_c pe_int) (da_cons (d_c pe_int) (da_cons (d_c pe_int) (da_cons (d_c pe_int) (da_cons (d_c pe_int) (da_cons (d_c pe_int) (da_cons (d_c pe_int) (da_cons (d_c pe_int) (da_cons (d_c pe_int) da_nil))))))))))))))))
  (ds_cons (ds_set nd rfl (.inr rfl) (d_bin op_addD add_2 (d_own (pv 3)) (nb (de_lst (da_cons (d_c pe_int) (da_cons (d_c pe_int) (da_cons (d_c pe_int) (da_cons (d_c pe_int) (da_cons (d_c pe_int) (da_cons (d_c pe_int) (da_cons (d_c pe_int) (da_cons (d_c pe_int) (da_cons (d_c pe_int) (da_cons (d_c pe_int) (da_cons (d_c pe_int) (da_cons (d_c pe_int) da_nil))))))))))))))))
  (ds_cons (ds_set nd rfl (.inr rfl) (d_bin op_addD add_2 (d_own (pv 3)) (nb (de_lst (da_cons (d_c pe_int) (da_cons (d_c pe_int) (da_cons (d_c pe_int) (da_cons (d_c pe_int) (da_cons (d_c pe_int) (da_cons (d_c pe_int) (da_cons (d_c pe_int) (da_cons (d_c pe_int) (da_cons (d_c pe_int) (da_cons (d_c pe_int) (da_cons (d_c pe_int) (da_cons (d_c pe_int) da_nil))))))))))))))))
  (ds_cons (ds_set nd rfl (.inr rfl) (d_bin op_addD add_2 (d_own (pv 3)) (nb (de_lst (da_cons (d_c pe_int) (da_cons (d_c pe_int) (da_cons (d_c pe_int) (da_cons (d_c pe_int) (da_cons (d_c pe_int) (da_cons (d_c pe_int) (da_cons (d_c pe_int) (da_cons (d_c pe_int) (da_cons (d_c pe_int) (da_cons (d_c pe_int) (da_cons (d_c pe_int) (da_cons (d_c pe_int) da_nil))))))))))))))))
  (ds_cons (ds_set nd rfl (.inl rfl) (d_c pe_int))
  (ds_cons (ds_if (dt_cmp (op_ltD (hu64 hr)) lt_2 (d_own (pv 1)) (fb (d_callB call_lenA len_1 rfl T.z_len PySem.boot_len (d_own (pv 0)))))
  (ds_one (ds_set nd rfl (.inl rfl) (d_callTy call_intA int_1 rfl T.z_int (by decide +kernel) (fb (d_ix (hu_of hr) (d_own (pv 0)) (d_own (pv 1)))))))
  ds_nil)
  (ds_cons (ds_if (dt_cmp (op_ltD (hu64 hr)) lt_2 (d_own (pv 4)) (fb (d_bin op_pow pow_2 (fb (d_c pe_int)) (fb (d_c pe_int)))))
  (ds_cons (ds_set nd rfl (.inr rfl) (d_bin op_addD add_2 (fb (d_bin op_mod mod_2 (fb (d_callTy call_intA int_1 rfl T.z_int (by decide +kernel) (d_own (pv 4)))) (fb (d_c pe_int)))) (fb (d_c pe_int))))
  (ds_one (ds_retN (dn_comp (own := [("_law_i", 7)]) rfl nd (di_k (di_range1 rfl T.z_range (da_cons (d_var (pv 2)) da_nil))) (blkOk_by (by kernel_rfl)) (by decide) (fun _ _ _ _ _ => (dg_name nd rfl (.inl rfl))) (fun _ _ _ _ _ => dt_nil) (fun _ _ _ _ _ => (d_bin op_mod mod_2 (fb (d_callTy call_intA int_1 rfl T.z_int (by decide +kernel) (fb (d_bin op_mul mul_2 (d_own (pv 5)) (fb (d_ix (hu_of hr) (d_own (pv 3)) (fb (d_bin op_mod mod_2 (fb (d_bin op_addD add_2 (d_own (pv 7)) (fb (d_bin op_mul mul_2 (fb (d_c pe_int)) (d_own (pv 1)))))) (fb (d_c pe_int)))))))))) (fb (d_c pe_int))))))))
  ds_nil)
  (ds_cons (ds_setN nd rfl (.inl rfl) (de_lst da_nil))
  (ds_cons (ds_for PassesOwn.leaving rfl (di_range1 rfl T.z_range (da_cons (d_var (pv 2)) da_nil)) (dg_name nd rfl (.inl rfl))
  (ds_cons (ds_append (pv 6) (d_bin op_mod mod_2 (fb (d_callTy call_intA int_1 rfl T.z_int (by decide +kernel) (d_own (pv 4)))) (fb (d_c pe_int))))
  (ds_one (ds_set nd rfl (.inl rfl) (d_bin op_fdiv div_2 (d_own (pv 4)) (fb (d_c pe_int)))))))
  (ds_one (ds_retOwn (pv 6)))))))))))))
theorem sc__law_strings : FnScope ["_law_cells", "_law_many", "_law_letters", "_law_signs", "_law_head", "_law_tail", "_law_found", "_law_k", "_law_letter", "_law_odd", "_law_sign", "_law_pick", "_law_at"] ["_law_cells", "_law_many"] (defScope s__law_strings) := ⟨rfl, rfl, rfl, by decide +kernel, rfl, by decide +kernel, by decide +kernel⟩
theorem d__law_strings  {f : Addr} {fd : FuncData} (T : Txt P K mg cl A0 C_TooMany C_Unread C_BadHead C_BadRow C_NoTable C_Refused) (F : Fun K "_law_strings" "_law_strings" s__law_strings f fd)  : FnOk P w K mg base (L2.CX P w) 1 f fd ["_law_cells", "_law_many"] (spD cl 2 (fnS 13 (b__law_strings ))) := by
  refine fnD (k := 0) F sc__law_strings (by decide) fun cdv A outer s H E hr => ?_
  have nd : (["_law_cells", "_law_many", "_law_letters", "_law_signs", "_law_head", "_law_tail", "_law_found", "_law_k", "_law_letter", "_law_odd", "_law_sign", "_law_pick", "_law_at"] : List Str).Nodup := sc__law_strings.nd
  exact (ds_cons (ds_set nd rfl (.inl rfl) (d_c pe_str))
  (ds_cons (ds_set nd rfl (.inl rfl) (d_c pe_str))
  (ds_cons (ds_set nd rfl (.inl rfl) (d_sl (fb (d_c pe_str)) dp_none (dp_some (d_bin op_mod mod_2 (fb (d_callTy call_intA int_1 rfl T.z_int (by decide +kernel) (fb (d_ix (hu_of hr) (d_own (pv 0)) (fb (d_c pe_int)))))) (fb (d_c pe_int))))))
  (ds_cons (ds_set nd rfl (.inl rfl) (d_sl (fb (d_c pe_str)) dp_none (dp_some (d_bin op_mod mod_2 (fb (d_callTy call_intA int_1 rfl T.z_int (by decide +kernel) (fb (d_bin op_fdiv div_2 (fb (d_ix (hu_of hr) (d_own (pv 0)) (fb (d_c pe_int)))) (fb (d_c pe_int)))))) (fb (d_c pe_int))))))
  (ds_cons (ds_setN nd rfl (.inl rfl) (de_lst da_nil))
  (ds_cons (ds_for PassesOwn.leaving rfl (di_range1 rfl T.z_range (da_cons (d_var (pv 1)) da_nil)) (dg_name nd rfl (.inl rfl))
  (ds_cons (ds_set nd rfl (.inl rfl) (d_ix (hu_of hr) (d_own (pv 2)) (fb (d_bin op_mod mod_2 (fb (d_callTy call_intA int_1 rfl T.z_int (by decide +kernel) (fb (d_bin op_addD add_2 (fb (d_bin op_mul mul_2 (fb (d_c pe_int)) (d_own (pv 7)))) (fb (d_ix (hu_of hr) (d_own (pv 0)) (fb (d_c pe_int)))))))) (fb (d_c pe_int))))))
  (ds_one (ds_append (pv 6) (d_bin op_addD add_2 (fb (d_bin op_addD add_2 (fb (d_bin op_addD add_2 (d_own (pv 4)) (d_own (pv 8)))) (fb (d_ix (hu_of hr) (fb (d_c pe_str)) (fb (d_bin op_fdiv div_2 (d_own (pv 7)) (fb (d_c pe_int)))))))) (d_own (pv 5)))))))
  (ds_cons (ds_set nd rfl (.inl rfl) (nf (de_lst (da_cons (d_c pe_str) (da_cons (d_c pe_str) (da_cons (d_c pe_str) (da_cons (d_c pe_str) (da_cons (d_c pe_str) (da_cons (d_c pe_str) (da_cons (d_c pe_str) da_nil))))))))))
  (ds_cons (ds_set nd rfl (.inl rfl) (d_ix (hu_of hr) (d_own (pv 3)) (fb (d_bin op_mod mod_2 (fb (d_callTy call_intA int_1 rfl T.z_int (by decide +kernel) (fb (d_ix (hu_of hr) (d_own (pv 0)) (fb (d_c pe_int)))))) (fb (d_callB call_lenA len_1 rfl T.z_len PySem.boot_len (d_own (pv 3))))))))
  (ds_cons (ds_for PassesOwn.leaving rfl (di_range1 rfl T.z_range (da_cons (d_c pe_int) da_nil)) (dg_name nd rfl (.inl rfl))
  (ds_cons (ds_set nd rfl (.inl rfl) (d_bin op_mod mod_2 (fb (d_callTy call_intA int_1 rfl T.z_int (by decide +kernel) (fb (d_ix (hu_of hr) (d_own (pv 0)) (fb (d_bin op_addD add_2 (fb (d_c pe_int)) (fb (d_bin op_mul mul_2 (fb (d_c pe_int)) (d_own (pv 7)))))))))) (fb (d_c pe_int))))
  (ds_cons (ds_set nd rfl (.inl rfl) (d_bin op_mod mod_2 (fb (d_callTy call_intA int_1 rfl T.z_int (by decide +kernel) (fb (d_ix (hu_of hr) (d_own (pv 0)) (fb (d_bin op_addD add_2 (fb (d_c pe_int)) (fb (d_bin op_mul mul_2 (fb (d_c pe_int)) (d_own (pv 7)))))))))) (fb (d_bin op_addD add_2 (d_own (pv 1)) (fb (d_c pe_int))))))
  (ds_cons (ds_if (PW.pt (dw_and (dt_cmp (op_ltD (hu64 hr)) lt_2 (d_own (pv 12)) (d_own (pv 1))) (dw_and1 (dt_cmp (op_ltD (hu64 hr)) lt_2 (d_own (pv 11)) (fb (d_c pe_int))))))
  (ds_one (ds_putL (d_ix (hu_of hr) (d_own (pv 9)) (d_own (pv 11))) (pv 6) (d_var (pv 12))))
  ds_nil)
  (ds_cons (ds_if (PW.pt (dw_and (dt_cmp (op_ltD (hu64 hr)) lt_2 (d_own (pv 12)) (d_own (pv 1))) (dw_and1 (dt_cmp (op_eqS (hu64 hr)) eq_2 (d_own (pv 11)) (fb (d_c pe_int))))))
  (ds_one (ds_putL (d_ix (hu_of hr) (d_own (pv 6)) (fb (d_bin op_mod mod_2 (fb (d_callTy call_intA int_1 rfl T.z_int (by decide +kernel) (fb (d_ix (hu_of hr) (d_own (pv 0)) (fb (d_c pe_int)))))) (d_own (pv 1))))) (pv 6) (d_var (pv 12))))
  ds_nil)
  (ds_one (ds_if (PW.pt (dw_and (dt_cmp (op_ltD (hu64 hr)) lt_2 (d_own (pv 12)) (d_own (pv 1))) (dw_and1 (dt_cmp (op_eqS (hu64 hr)) eq_2 (d_own (pv 11)) (fb (d_c pe_int))))))
  (ds_one (ds_putL (d_bin op_addD add_2 (fb (d_bin op_addD add_2 (fb (d_sl (fb (d_c pe_str)) dp_none (dp_some (d_bin op_mod mod_2 (fb (d_callTy call_intA int_1 rfl T.z_int (by decide +kernel) (fb (d_ix (hu_of hr) (d_own (pv 0)) (fb (d_c pe_int)))))) (fb (d_c pe_int)))))) (d_own (pv 10)))) (fb (d_sl (fb (d_c pe_str)) dp_none (dp_some (d_bin op_mod mod_2 (fb (d_callTy call_intA int_1 rfl T.z_int (by decide +kernel) (fb (d_bin op_fdiv div_2 (fb (d_ix (hu_of hr) (d_own (pv 0)) (fb (d_c pe_int)))) (fb (d_c pe_int)))))) (fb (d_c pe_int))))))) (pv 6) (d_var (pv 12))))
  ds_nil)))))))
  (ds_one (ds_retOwn (pv 6))))))))))))
theorem sc_is_column : FnScope ["text"] ["text"] (defScope s_is_column) := ⟨rfl, rfl, rfl, by decide +kernel, rfl, by decide +kernel, by decide +kernel⟩
theorem d_is_column  {f : Addr} {fd : FuncData} (T : Txt P K mg cl A0 C_TooMany C_Unread C_BadHead C_BadRow C_NoTable C_Refused) (F : Fun K "is_column" "is_column" s_is_column f fd)  : FnOk P w K mg base (L2.CX P w) 1 f fd ["text"] (spD cl 1 (fnS 1 (b_is_column ))) := by
  refine fnD (k := 0) F sc_is_column (by decide) fun cdv A outer s H E hr => ?_
  have nd : (["text"] : List Str).Nodup := sc_is_column.nd
  exact (ds_one (ds_ret (de_and (d_chain op_le cmpI_2 op_le cmpI_2 (fb (d_c pe_int)) (fb (d_callB call_lenA len_1 rfl T.z_len PySem.boot_len (d_own (pv 0)))) (fb (d_c pe_int))) (de_and (d_str0 PySem.F.slot_str_isalpha PySem.F.type_str_isalpha mt_isalpha isalpha_s (d_own (pv 0))) (de_one (d_str0 PySem.F.slot_str_islower PySem.F.type_str_islower mt_islower islower_s (d_own (pv 0))))))))
theorem sc_head_of : FnScope ["columns", "at", "column"] ["columns"] (defScope s_head_of) := ⟨rfl, rfl, rfl, by decide +kernel, rfl, by decide +kernel, by decide +kernel⟩
theorem d_head_of {f_is_column : List D → R (Bool × D)} {f : Addr} {fd : FuncData} (T : Txt P K mg cl A0 C_TooMany C_Unread C_BadHead C_BadRow C_NoTable C_Refused) (F : Fun K "head_of" "head_of" s_head_of f fd) (D_is_column : Df P w K mg base cl 1 "is_column" 1 f_is_column) : FnOk P w K mg base (L2.CX P w) 2 f fd ["columns"] (spD cl 1 (fnS 3 (b_head_of f_is_column))) := by
  refine fnD (k := 1) F sc_head_of (by decide) fun cdv A outer s H E hr => ?_
  have nd : (["columns", "at", "column"] : List Str).Nodup := sc_head_of.nd
  exact (ds_cons (ds_if (dt_cmp op_gt cmpI_2 (fb (d_callB call_lenA len_1 rfl T.z_len PySem.boot_len (d_own (pv 0)))) (fb (d_cst rfl T.c_MOST_COLUMNS)))
  (ds_one (ds_raiseE T.e_TooMany rfl fo_limit (hr.mono (by decide) : Room (0 + 1) _) (takes_of rfl rfl rfl rfl) (d_cst rfl T.c_MOST_COLUMNS) rfl))
  ds_nil)
  (ds_cons (ds_for PassesOwn.leaving rfl (di_range1 rfl T.z_range (da_cons (d_callB call_lenA len_1 rfl T.z_len PySem.boot_len (d_own (pv 0))) da_nil)) (dg_name nd rfl (.inl rfl))
  (ds_one (ds_if (PW.pt (dw_or (dt_not (dt_truth (fb (d_call D_is_column (hr.mono (by decide)) (takes_of rfl rfl rfl rfl) rfl (da_cons (d_ix (hu_of hr) (d_own (pv 0)) (d_own (pv 1))) da_nil))))) (dw_or1 (dt_cmp (op_inA (hu65 hr)) in_2 (fb (d_ix (hu_of hr) (d_own (pv 0)) (d_own (pv 1)))) (fb (d_sl (d_own (pv 0)) dp_none (dp_some (d_var (pv 1)))))))))
  (ds_one (ds_raiseE T.e_BadHead rfl fo_column (hr.mono (by decide) : Room (0 + 1) _) (takes_of rfl rfl rfl rfl) (d_ix (hu_of hr) (d_own (pv 0)) (d_own (pv 1))) rfl))
  ds_nil)))
  (ds_one (ds_ret (d_callTy call_tuple_of tuple_1 rfl T.z_tuple boot_tuple (nb (dn_callB cr_sortedS sort_1 rfl T.z_sorted (by decide +kernel) (nb (dn_comp (own := [("column", 2)]) rfl nd (dk_any (d_own (pv 0))) (blkOk_by (by kernel_rfl)) (by decide) (fun _ _ _ _ _ => (dg_name nd rfl (.inl rfl))) (fun _ _ _ _ _ => dt_nil) (fun _ _ _ _ _ => (d_callTy call_strA str_1 rfl T.z_str (by decide +kernel) (d_own (pv 2)))))))))))))
theorem sc__law_told : FnScope ["_law_columns", "e"] ["_law_columns"] (defScope s__law_told) := ⟨rfl, rfl, rfl, by decide +kernel, rfl, by decide +kernel, by decide +kernel⟩
theorem d__law_told {f_head_of : List D → R (Bool × D)} {f : Addr} {fd : FuncData} (T : Txt P K mg cl A0 C_TooMany C_Unread C_BadHead C_BadRow C_NoTable C_Refused) (F : Fun K "_law_told" "_law_told" s__law_told f fd) (D_head_of : Df P w K mg base cl 2 "head_of" 1 f_head_of) : FnOk P w K mg base (L2.CX P w) 3 f fd ["_law_columns"] (spD cl 1 (fnS 2 (b__law_told f_head_of))) := by
  refine fnD (k := 2) F sc__law_told (by decide) fun cdv A outer s H E hr => ?_
  have nd : (["_law_columns", "e"] : List Str).Nodup := sc__law_told.nd
  exact (ds_one (ds_try (n := "e") T.tab.ex rfl rfl nd rfl rfl (takes_of rfl rfl rfl rfl) (fun W pn xe tk po => (ds_one (ds_retX (dx_call D_head_of (hr.mono (by decide)) tk rfl (da_cons (d_var (pv 0)) da_nil)))))
    (cla_cons T.tab T.e_BadHead (ns := ["Unread", "BadRow", "NoTable", "TooMany", "Refused"]) (Cs := [C_Unread, C_BadRow, C_NoTable, C_TooMany, C_Refused]) (by decide) (by decide) (by decide) rfl (by decide) T.m_BadHead T.l_BadHead (by simp only [List.map, T.l_Unread, T.l_BadRow, T.l_NoTable, T.l_TooMany, T.l_Refused]) (fun a oe cls d pn hz hf T1 T2 hno => suite_tell T1 T2 hno hz hf (pv 1) (pv 1) (.cons rfl T.m_Unread (by decide) rfl (.cons rfl T.m_BadRow (by decide) rfl (.cons rfl T.m_NoTable (by decide) rfl (.cons rfl T.m_TooMany (by decide) rfl (.cons rfl T.m_Refused (by decide) rfl .nil))))) rfl T.z_isinstance rfl)
    (cla_cons T.tab T.e_TooMany (ns := ["Unread", "BadHead", "BadRow", "NoTable", "Refused"]) (Cs := [C_Unread, C_BadHead, C_BadRow, C_NoTable, C_Refused]) (by decide) (by decide) (by decide) rfl (by decide) T.m_TooMany T.l_TooMany (by simp only [List.map, T.l_Unread, T.l_BadHead, T.l_BadRow, T.l_NoTable, T.l_Refused]) (fun a oe cls d pn hz hf T1 T2 hno => suite_tell T1 T2 hno hz hf (pv 1) (pv 1) (.cons rfl T.m_Unread (by decide) rfl (.cons rfl T.m_BadHead (by decide) rfl (.cons rfl T.m_BadRow (by decide) rfl (.cons rfl T.m_NoTable (by decide) rfl (.cons rfl T.m_Refused (by decide) rfl .nil))))) rfl T.z_isinstance rfl)
    .nil))))
theorem sc__law_due : FnScope ["_law_columns", "_law_k", "_law_fine", "_law_letter", "_law_column"] ["_law_columns"] (defScope s__law_due) := ⟨rfl, rfl, rfl, by decide +kernel, rfl, by decide +kernel, by decide +kernel⟩
theorem d__law_due  {f : Addr} {fd : FuncData} (T : Txt P K mg cl A0 C_TooMany C_Unread C_BadHead C_BadRow C_NoTable C_Refused) (F : Fun K "_law_due" "_law_due" s__law_due f fd)  : FnOk P w K mg base (L2.CX P w) 1 f fd ["_law_columns"] (spD cl 1 (fnS 5 (b__law_due ))) := by
  refine fnD (k := 0) F sc__law_due (by decide) fun cdv A outer s H E hr => ?_
  have nd : (["_law_columns", "_law_k", "_law_fine", "_law_letter", "_law_column"] : List Str).Nodup := sc__law_due.nd
  exact (ds_cons (ds_if (dt_cmp op_gt cmpI_2 (fb (d_callB call_lenA len_1 rfl T.z_len PySem.boot_len (d_own (pv 0)))) (fb (d_c pe_int)))
  (ds_one (ds_ret (de_tup (da_cons (d_c pe_str) (da_cons (d_c pe_int) (da_cons (d_c pe_bl) da_nil))))))
  ds_nil)
  (ds_cons (ds_for PassesOwn.leaving rfl (di_range1 rfl T.z_range (da_cons (d_callB call_lenA len_1 rfl T.z_len PySem.boot_len (d_own (pv 0))) da_nil)) (dg_name nd rfl (.inl rfl))
  (ds_cons (ds_setLcF (own := [("_law_letter", 3)]) rfl nd rfl rfl (sw_true rfl rfl rfl (by decide +kernel)) (dk_any (fb (d_ix (hu_of hr) (d_own (pv 0)) (d_own (pv 1))))) (blkOk_by (by kernel_rfl)) (by decide) (fun _ _ _ _ _ => (dg_name nd rfl (.inl rfl))) (fun _ _ _ _ _ => dt_nil) (fun _ _ _ _ _ => (d_cmp (op_inA (hu65 hr)) in_2 (d_own (pv 3)) (fb (d_c pe_str)))))
  (ds_cons (ds_if (PW.pt (dw_or (dt_cmp (op_eqS (hu64 hr)) eq_2 (fb (d_callB call_lenA len_1 rfl T.z_len PySem.boot_len (d_own (pv 2)))) (fb (d_c pe_int))) (dw_or (dt_cmp op_gt cmpI_2 (fb (d_callB call_lenA len_1 rfl T.z_len PySem.boot_len (d_own (pv 2)))) (fb (d_c pe_int))) (dw_or1 (dt_not (dt_truth (fb (d_callB (cr_all rfl) all_1 rfl T.z_all (by decide +kernel) (d_own (pv 2))))))))))
  (ds_one (ds_ret (de_tup (da_cons (d_c pe_str) (da_cons (d_ix (hu_of hr) (d_own (pv 0)) (d_own (pv 1))) (da_cons (d_c pe_bl) da_nil))))))
  ds_nil)
  (ds_one (ds_if (dt_cmp (op_inA (hu65 hr)) in_2 (fb (d_ix (hu_of hr) (d_own (pv 0)) (d_own (pv 1)))) (fb (d_sl (d_own (pv 0)) dp_none (dp_some (d_var (pv 1))))))
  (ds_one (ds_ret (de_tup (da_cons (d_c pe_str) (da_cons (d_ix (hu_of hr) (d_own (pv 0)) (d_own (pv 1))) (da_cons (d_c pe_bl) da_nil))))))
  ds_nil)))))
  (ds_one (ds_ret (d_callTy call_tuple_of tuple_1 rfl T.z_tuple boot_tuple (nb (dn_callB cr_sortedS sort_1 rfl T.z_sorted (by decide +kernel) (nb (dn_comp (own := [("_law_column", 4)]) rfl nd (dk_any (d_own (pv 0))) (blkOk_by (by kernel_rfl)) (by decide) (fun _ _ _ _ _ => (dg_name nd rfl (.inl rfl))) (fun _ _ _ _ _ => dt_nil) (fun _ _ _ _ _ => (d_callTy call_strA str_1 rfl T.z_str (by decide +kernel) (d_own (pv 4)))))))))))))
theorem sc_law : FnScope ["_law_script", "_law_cells", "_law_columns", "_law_given", "_law_actual"] ["_law_script"] (defScope s_law) := ⟨rfl, rfl, rfl, by decide +kernel, rfl, by decide +kernel, by decide +kernel⟩
theorem d_law {f__law_drawn : List D → R (Bool × D)} {f__law_strings : List D → R (Bool × D)} {f__law_told : List D → R (Bool × D)} {f__law_due : List D → R (Bool × D)} {f : Addr} {fd : FuncData} (T : Txt P K mg cl A0 C_TooMany C_Unread C_BadHead C_BadRow C_NoTable C_Refused) (F : Fun K "law" "law" s_law f fd) (D__law_drawn : Df P w K mg base cl 1 "_law_drawn" 3 f__law_drawn) (D__law_strings : Df P w K mg base cl 1 "_law_strings" 2 f__law_strings) (D__law_told : Df P w K mg base cl 3 "_law_told" 1 f__law_told) (D__law_due : Df P w K mg base cl 1 "_law_due" 1 f__law_due) : FnOk P w K mg base (L2.CX P w) 4 f fd ["_law_script"] (spD cl 1 (fnS 5 (b_law f__law_drawn f__law_strings f__law_told f__law_due))) := by
  refine fnD (k := 3) F sc_law (by decide) fun cdv A outer s H E hr => ?_
  have nd : (["_law_script", "_law_cells", "_law_columns", "_law_given", "_law_actual"] : List Str).Nodup := sc_law.nd
  exact (ds_cons (ds_set nd rfl (.inl rfl) (d_call D__law_drawn (hr.mono (by decide)) (takes_of rfl rfl rfl rfl) rfl (da_cons (d_var (pv 0)) (da_cons (d_c pe_int) (da_cons (d_c pe_int) da_nil)))))
  (ds_cons (ds_set nd rfl (.inl rfl) (d_call D__law_strings (hr.mono (by decide)) (takes_of rfl rfl rfl rfl) rfl (da_cons (d_var (pv 1)) (da_cons (d_bin op_mod mod_2 (fb (d_callTy call_intA int_1 rfl T.z_int (by decide +kernel) (fb (d_ix (hu_of hr) (d_own (pv 1)) (fb (d_c pe_int)))))) (fb (d_c pe_int))) da_nil))))
  (ds_cons (ds_set nd rfl (.inl rfl) (nf (dn_callTy call_list_of list_1 rfl T.z_list boot_list (d_own (pv 2)))))
  (ds_cons (ds_if (dt_cmp (op_eqS (hu64 hr)) eq_2 (fb (d_bin op_mod mod_2 (fb (d_callTy call_intA int_1 rfl T.z_int (by decide +kernel) (fb (d_ix (hu_of hr) (d_own (pv 1)) (fb (d_c pe_int)))))) (fb (d_c pe_int)))) (fb (d_c pe_int)))
  (ds_one (ds_set nd rfl (.inl rfl) (d_callTy call_tuple_of tuple_1 rfl T.z_tuple boot_tuple (d_own (pv 2)))))
  ds_nil)
  (ds_cons (ds_set nd rfl (.inl rfl) (d_call D__law_told (hr.mono (by decide)) (takes_of rfl rfl rfl rfl) rfl (da_cons (d_var (pv 3)) da_nil)))
  (ds_cons (ds_if (PW.pt (dw_or (dt_cmp (op_neS (hu64 hr)) ne_2 (nb (dn_callTy call_list_of list_1 rfl T.z_list boot_list (d_own (pv 3)))) (d_own (pv 2))) (dw_or1 (dt_not (dt_truth (fb (d_isi rfl T.z_isinstance rfl T.z_tuple (by decide +kernel) (d_own (pv 4)))))))))
  (ds_one (ds_ret (d_c pe_bl)))
  ds_nil)
  (ds_one (ds_ret (de_and (d_cmp (op_eqS (hu64 hr)) eq_2 (d_own (pv 4)) (fb (d_call D__law_due (hr.mono (by decide)) (takes_of rfl rfl rfl rfl) rfl (da_cons (d_var (pv 2)) da_nil)))) (de_one (d_cmp (op_eqS (hu64 hr)) eq_2 (fb (d_call D__law_told (hr.mono (by decide)) (takes_of rfl rfl rfl rfl) rfl (da_cons (nf (dn_callTy call_list_of list_1 rfl T.z_list boot_list (d_own (pv 2)))) da_nil))) (d_own (pv 4)))))))))))))
end
theorem all_mk {l : PySem.W.OpenLaw} {w : World} {K : PySem.W.Frag} {h : Heap} {mg : Str → Option Value} {fa : Addr} (X : K.In h) (G : h.Ns mainGlobals mg) (hfa : mg "law" = some (.ref fa))
    {f0 : Addr} {od0 an0 : Option Addr} {sl0 : Array (Option Value)} {oc0 kV0 dc0 pm0 cd0 ct0 : Value}
    (a0 : PySem.W.nsIn K mainGlobals "_law_drawn" = some (some (.ref f0)))
    (l0 : K.lookup f0 = some ⟨oc0, od0, .func (PySem.W.fnOf "_law_drawn" "_law_drawn" (defArgs s__law_drawn) (defBody s__law_drawn) (defScope s__law_drawn) .none kV0 dc0 pm0 an0 cd0 ct0), sl0⟩)
    (c0 : PySem.W.codeIn K cd0 "_law_drawn" = true) (k0 : PySem.W.keepIn K (.ref f0) = true)
    {f1 : Addr} {od1 an1 : Option Addr} {sl1 : Array (Option Value)} {oc1 kV1 dc1 pm1 cd1 ct1 : Value}
    (a1 : PySem.W.nsIn K mainGlobals "_law_strings" = some (some (.ref f1)))
    (l1 : K.lookup f1 = some ⟨oc1, od1, .func (PySem.W.fnOf "_law_strings" "_law_strings" (defArgs s__law_strings) (defBody s__law_strings) (defScope s__law_strings) .none kV1 dc1 pm1 an1 cd1 ct1), sl1⟩)
    (c1 : PySem.W.codeIn K cd1 "_law_strings" = true) (k1 : PySem.W.keepIn K (.ref f1) = true)
    {f2 : Addr} {od2 an2 : Option Addr} {sl2 : Array (Option Value)} {oc2 kV2 dc2 pm2 cd2 ct2 : Value}
    (a2 : PySem.W.nsIn K mainGlobals "is_column" = some (some (.ref f2)))
    (l2 : K.lookup f2 = some ⟨oc2, od2, .func (PySem.W.fnOf "is_column" "is_column" (defArgs s_is_column) (defBody s_is_column) (defScope s_is_column) .none kV2 dc2 pm2 an2 cd2 ct2), sl2⟩)
    (c2 : PySem.W.codeIn K cd2 "is_column" = true) (k2 : PySem.W.keepIn K (.ref f2) = true)
    {f3 : Addr} {od3 an3 : Option Addr} {sl3 : Array (Option Value)} {oc3 kV3 dc3 pm3 cd3 ct3 : Value}
    (a3 : PySem.W.nsIn K mainGlobals "head_of" = some (some (.ref f3)))
    (l3 : K.lookup f3 = some ⟨oc3, od3, .func (PySem.W.fnOf "head_of" "head_of" (defArgs s_head_of) (defBody s_head_of) (defScope s_head_of) .none kV3 dc3 pm3 an3 cd3 ct3), sl3⟩)
    (c3 : PySem.W.codeIn K cd3 "head_of" = true) (k3 : PySem.W.keepIn K (.ref f3) = true)
    {f4 : Addr} {od4 an4 : Option Addr} {sl4 : Array (Option Value)} {oc4 kV4 dc4 pm4 cd4 ct4 : Value}
    (a4 : PySem.W.nsIn K mainGlobals "_law_told" = some (some (.ref f4)))
    (l4 : K.lookup f4 = some ⟨oc4, od4, .func (PySem.W.fnOf "_law_told" "_law_told" (defArgs s__law_told) (defBody s__law_told) (defScope s__law_told) .none kV4 dc4 pm4 an4 cd4 ct4), sl4⟩)
    (c4 : PySem.W.codeIn K cd4 "_law_told" = true) (k4 : PySem.W.keepIn K (.ref f4) = true)
    {f5 : Addr} {od5 an5 : Option Addr} {sl5 : Array (Option Value)} {oc5 kV5 dc5 pm5 cd5 ct5 : Value}
    (a5 : PySem.W.nsIn K mainGlobals "_law_due" = some (some (.ref f5)))
    (l5 : K.lookup f5 = some ⟨oc5, od5, .func (PySem.W.fnOf "_law_due" "_law_due" (defArgs s__law_due) (defBody s__law_due) (defScope s__law_due) .none kV5 dc5 pm5 an5 cd5 ct5), sl5⟩)
    (c5 : PySem.W.codeIn K cd5 "_law_due" = true) (k5 : PySem.W.keepIn K (.ref f5) = true)
    {f6 : Addr} {od6 an6 : Option Addr} {sl6 : Array (Option Value)} {oc6 kV6 dc6 pm6 cd6 ct6 : Value}
    (a6 : PySem.W.nsIn K mainGlobals "law" = some (some (.ref f6)))
    (l6 : K.lookup f6 = some ⟨oc6, od6, .func (PySem.W.fnOf "law" "law" (defArgs s_law) (defBody s_law) (defScope s_law) .none kV6 dc6 pm6 an6 cd6 ct6), sl6⟩)
    (c6 : PySem.W.codeIn K cd6 "law" = true) (k6 : PySem.W.keepIn K (.ref f6) = true)
    (z_int : PySem.W.nsIn K mainGlobals "int" = some none)
    (z_list : PySem.W.nsIn K mainGlobals "list" = some none)
    (z_tuple : PySem.W.nsIn K mainGlobals "tuple" = some none)
    (z_isinstance : PySem.W.nsIn K mainGlobals "isinstance" = some none)
    (z_len : PySem.W.nsIn K mainGlobals "len" = some none)
    (z_range : PySem.W.nsIn K mainGlobals "range" = some none)
    (z_sorted : PySem.W.nsIn K mainGlobals "sorted" = some none)
    (z_str : PySem.W.nsIn K mainGlobals "str" = some none)
    (z_all : PySem.W.nsIn K mainGlobals "all" = some none)
    (z_super : PySem.W.nsIn K mainGlobals "super" = some none)
    {t_MOST_COLUMNS : Tok} (c_MOST_COLUMNS : PySem.W.nsIn K mainGlobals "MOST_COLUMNS" = some (some (.int 24 t_MOST_COLUMNS)))
    {C_TooMany I_TooMany cda_TooMany cc_TooMany N_TooMany : Addr} {nm_TooMany q_TooMany qual_TooMany pre_TooMany : Str} {suf_TooMany : List Expr} {bs_TooMany bm_TooMany sub_TooMany : List Value} {sn_TooMany : List Str} {ab_TooMany : Bool} {col_TooMany : Option Bool} {dd_TooMany od_TooMany an_TooMany cdd_TooMany cld_TooMany : Option Addr} {k0_TooMany k1_TooMany k2_TooMany k3_TooMany k5_TooMany : Option Value} {oc_TooMany kV_TooMany doc_TooMany pm_TooMany ct_TooMany ccl_TooMany cl_TooMany : Value} {osl_TooMany ccs_TooMany csl_TooMany : Array (Option Value)} {vs_TooMany : Array Value} {p1_TooMany p2_TooMany q1_TooMany q2_TooMany q3_TooMany q4_TooMany q5_TooMany q6_TooMany q7_TooMany q8_TooMany q9_TooMany r1_TooMany r2_TooMany r3_TooMany r4_TooMany : Pos}
    (ea_TooMany : PySem.W.nsIn K mainGlobals "TooMany" = some (some (.ref C_TooMany)))
    (el_TooMany : K.lookup C_TooMany = some (excClassObj nm_TooMany q_TooMany C_TooMany N_TooMany bs_TooMany bm_TooMany true sn_TooMany sub_TooMany ab_TooMany col_TooMany dd_TooMany k0_TooMany k1_TooMany k2_TooMany k3_TooMany k5_TooMany "ValueError.__new__"))
    (ei_TooMany : PySem.W.findIn K (.ref C_TooMany) "__init__" = some (some (.ref I_TooMany)))
    (ef_TooMany : K.lookup I_TooMany = some ⟨oc_TooMany, od_TooMany, .func (PySem.W.ksFn "__init__" qual_TooMany (HLX.iA "limit" p1_TooMany p2_TooMany) (HLX.iB "limit" pre_TooMany suf_TooMany q1_TooMany q2_TooMany q3_TooMany q4_TooMany q5_TooMany q6_TooMany q7_TooMany q8_TooMany q9_TooMany r1_TooMany r2_TooMany r3_TooMany r4_TooMany) (HLX.iS "limit") .none kV_TooMany doc_TooMany pm_TooMany an_TooMany (.ref cda_TooMany) ct_TooMany cc_TooMany), osl_TooMany⟩)
    (ec_TooMany : K.lookup cda_TooMany = some ⟨ccl_TooMany, cdd_TooMany, .fields vs_TooMany, ccs_TooMany⟩) (eL_TooMany : K.lookup cc_TooMany = some ⟨cl_TooMany, cld_TooMany, .cell (some (.ref C_TooMany)), csl_TooMany⟩)
    (eb_TooMany : errB l.prog K "limit" C_TooMany I_TooMany cda_TooMany vs_TooMany bm_TooMany qual_TooMany pre_TooMany suf_TooMany q3_TooMany q8_TooMany = true)
    {C_Unread I_Unread cda_Unread cc_Unread N_Unread : Addr} {nm_Unread q_Unread qual_Unread pre_Unread : Str} {suf_Unread : List Expr} {bs_Unread bm_Unread sub_Unread : List Value} {sn_Unread : List Str} {ab_Unread : Bool} {col_Unread : Option Bool} {dd_Unread od_Unread an_Unread cdd_Unread cld_Unread : Option Addr} {k0_Unread k1_Unread k2_Unread k3_Unread k5_Unread : Option Value} {oc_Unread kV_Unread doc_Unread pm_Unread ct_Unread ccl_Unread cl_Unread : Value} {osl_Unread ccs_Unread csl_Unread : Array (Option Value)} {vs_Unread : Array Value} {p1_Unread p2_Unread q1_Unread q2_Unread q3_Unread q4_Unread q5_Unread q6_Unread q7_Unread q8_Unread q9_Unread r1_Unread r2_Unread r3_Unread r4_Unread : Pos}
    (ea_Unread : PySem.W.nsIn K mainGlobals "Unread" = some (some (.ref C_Unread)))
    (el_Unread : K.lookup C_Unread = some (excClassObj nm_Unread q_Unread C_Unread N_Unread bs_Unread bm_Unread true sn_Unread sub_Unread ab_Unread col_Unread dd_Unread k0_Unread k1_Unread k2_Unread k3_Unread k5_Unread "ValueError.__new__"))
    (ei_Unread : PySem.W.findIn K (.ref C_Unread) "__init__" = some (some (.ref I_Unread)))
    (ef_Unread : K.lookup I_Unread = some ⟨oc_Unread, od_Unread, .func (PySem.W.ksFn "__init__" qual_Unread (HLX.iA "at" p1_Unread p2_Unread) (HLX.iB "at" pre_Unread suf_Unread q1_Unread q2_Unread q3_Unread q4_Unread q5_Unread q6_Unread q7_Unread q8_Unread q9_Unread r1_Unread r2_Unread r3_Unread r4_Unread) (HLX.iS "at") .none kV_Unread doc_Unread pm_Unread an_Unread (.ref cda_Unread) ct_Unread cc_Unread), osl_Unread⟩)
    (ec_Unread : K.lookup cda_Unread = some ⟨ccl_Unread, cdd_Unread, .fields vs_Unread, ccs_Unread⟩) (eL_Unread : K.lookup cc_Unread = some ⟨cl_Unread, cld_Unread, .cell (some (.ref C_Unread)), csl_Unread⟩)
    (eb_Unread : errB l.prog K "at" C_Unread I_Unread cda_Unread vs_Unread bm_Unread qual_Unread pre_Unread suf_Unread q3_Unread q8_Unread = true)
    {C_BadHead I_BadHead cda_BadHead cc_BadHead N_BadHead : Addr} {nm_BadHead q_BadHead qual_BadHead pre_BadHead : Str} {suf_BadHead : List Expr} {bs_BadHead bm_BadHead sub_BadHead : List Value} {sn_BadHead : List Str} {ab_BadHead : Bool} {col_BadHead : Option Bool} {dd_BadHead od_BadHead an_BadHead cdd_BadHead cld_BadHead : Option Addr} {k0_BadHead k1_BadHead k2_BadHead k3_BadHead k5_BadHead : Option Value} {oc_BadHead kV_BadHead doc_BadHead pm_BadHead ct_BadHead ccl_BadHead cl_BadHead : Value} {osl_BadHead ccs_BadHead csl_BadHead : Array (Option Value)} {vs_BadHead : Array Value} {p1_BadHead p2_BadHead q1_BadHead q2_BadHead q3_BadHead q4_BadHead q5_BadHead q6_BadHead q7_BadHead q8_BadHead q9_BadHead r1_BadHead r2_BadHead r3_BadHead r4_BadHead : Pos}
    (ea_BadHead : PySem.W.nsIn K mainGlobals "BadHead" = some (some (.ref C_BadHead)))
    (el_BadHead : K.lookup C_BadHead = some (excClassObj nm_BadHead q_BadHead C_BadHead N_BadHead bs_BadHead bm_BadHead true sn_BadHead sub_BadHead ab_BadHead col_BadHead dd_BadHead k0_BadHead k1_BadHead k2_BadHead k3_BadHead k5_BadHead "ValueError.__new__"))
    (ei_BadHead : PySem.W.findIn K (.ref C_BadHead) "__init__" = some (some (.ref I_BadHead)))
    (ef_BadHead : K.lookup I_BadHead = some ⟨oc_BadHead, od_BadHead, .func (PySem.W.ksFn "__init__" qual_BadHead (HLX.iA "column" p1_BadHead p2_BadHead) (HLX.iB "column" pre_BadHead suf_BadHead q1_BadHead q2_BadHead q3_BadHead q4_BadHead q5_BadHead q6_BadHead q7_BadHead q8_BadHead q9_BadHead r1_BadHead r2_BadHead r3_BadHead r4_BadHead) (HLX.iS "column") .none kV_BadHead doc_BadHead pm_BadHead an_BadHead (.ref cda_BadHead) ct_BadHead cc_BadHead), osl_BadHead⟩)
    (ec_BadHead : K.lookup cda_BadHead = some ⟨ccl_BadHead, cdd_BadHead, .fields vs_BadHead, ccs_BadHead⟩) (eL_BadHead : K.lookup cc_BadHead = some ⟨cl_BadHead, cld_BadHead, .cell (some (.ref C_BadHead)), csl_BadHead⟩)
    (eb_BadHead : errB l.prog K "column" C_BadHead I_BadHead cda_BadHead vs_BadHead bm_BadHead qual_BadHead pre_BadHead suf_BadHead q3_BadHead q8_BadHead = true)
    {C_BadRow I_BadRow cda_BadRow cc_BadRow N_BadRow : Addr} {nm_BadRow q_BadRow qual_BadRow pre_BadRow : Str} {suf_BadRow : List Expr} {bs_BadRow bm_BadRow sub_BadRow : List Value} {sn_BadRow : List Str} {ab_BadRow : Bool} {col_BadRow : Option Bool} {dd_BadRow od_BadRow an_BadRow cdd_BadRow cld_BadRow : Option Addr} {k0_BadRow k1_BadRow k2_BadRow k3_BadRow k5_BadRow : Option Value} {oc_BadRow kV_BadRow doc_BadRow pm_BadRow ct_BadRow ccl_BadRow cl_BadRow : Value} {osl_BadRow ccs_BadRow csl_BadRow : Array (Option Value)} {vs_BadRow : Array Value} {p1_BadRow p2_BadRow q1_BadRow q2_BadRow q3_BadRow q4_BadRow q5_BadRow q6_BadRow q7_BadRow q8_BadRow q9_BadRow r1_BadRow r2_BadRow r3_BadRow r4_BadRow : Pos}
    (ea_BadRow : PySem.W.nsIn K mainGlobals "BadRow" = some (some (.ref C_BadRow)))
    (el_BadRow : K.lookup C_BadRow = some (excClassObj nm_BadRow q_BadRow C_BadRow N_BadRow bs_BadRow bm_BadRow true sn_BadRow sub_BadRow ab_BadRow col_BadRow dd_BadRow k0_BadRow k1_BadRow k2_BadRow k3_BadRow k5_BadRow "ValueError.__new__"))
    (ei_BadRow : PySem.W.findIn K (.ref C_BadRow) "__init__" = some (some (.ref I_BadRow)))
    (ef_BadRow : K.lookup I_BadRow = some ⟨oc_BadRow, od_BadRow, .func (PySem.W.ksFn "__init__" qual_BadRow (HLX.iA "at" p1_BadRow p2_BadRow) (HLX.iB "at" pre_BadRow suf_BadRow q1_BadRow q2_BadRow q3_BadRow q4_BadRow q5_BadRow q6_BadRow q7_BadRow q8_BadRow q9_BadRow r1_BadRow r2_BadRow r3_BadRow r4_BadRow) (HLX.iS "at") .none kV_BadRow doc_BadRow pm_BadRow an_BadRow (.ref cda_BadRow) ct_BadRow cc_BadRow), osl_BadRow⟩)
    (ec_BadRow : K.lookup cda_BadRow = some ⟨ccl_BadRow, cdd_BadRow, .fields vs_BadRow, ccs_BadRow⟩) (eL_BadRow : K.lookup cc_BadRow = some ⟨cl_BadRow, cld_BadRow, .cell (some (.ref C_BadRow)), csl_BadRow⟩)
    (eb_BadRow : errB l.prog K "at" C_BadRow I_BadRow cda_BadRow vs_BadRow bm_BadRow qual_BadRow pre_BadRow suf_BadRow q3_BadRow q8_BadRow = true)
    {C_NoTable I_NoTable cda_NoTable cc_NoTable N_NoTable : Addr} {nm_NoTable q_NoTable qual_NoTable pre_NoTable : Str} {suf_NoTable : List Expr} {bs_NoTable bm_NoTable sub_NoTable : List Value} {sn_NoTable : List Str} {ab_NoTable : Bool} {col_NoTable : Option Bool} {dd_NoTable od_NoTable an_NoTable cdd_NoTable cld_NoTable : Option Addr} {k0_NoTable k1_NoTable k2_NoTable k3_NoTable k5_NoTable : Option Value} {oc_NoTable kV_NoTable doc_NoTable pm_NoTable ct_NoTable ccl_NoTable cl_NoTable : Value} {osl_NoTable ccs_NoTable csl_NoTable : Array (Option Value)} {vs_NoTable : Array Value} {p1_NoTable p2_NoTable q1_NoTable q2_NoTable q3_NoTable q4_NoTable q5_NoTable q6_NoTable q7_NoTable q8_NoTable q9_NoTable r1_NoTable r2_NoTable r3_NoTable r4_NoTable : Pos}
    (ea_NoTable : PySem.W.nsIn K mainGlobals "NoTable" = some (some (.ref C_NoTable)))
    (el_NoTable : K.lookup C_NoTable = some (excClassObj nm_NoTable q_NoTable C_NoTable N_NoTable bs_NoTable bm_NoTable true sn_NoTable sub_NoTable ab_NoTable col_NoTable dd_NoTable k0_NoTable k1_NoTable k2_NoTable k3_NoTable k5_NoTable "ValueError.__new__"))
    (ei_NoTable : PySem.W.findIn K (.ref C_NoTable) "__init__" = some (some (.ref I_NoTable)))
    (ef_NoTable : K.lookup I_NoTable = some ⟨oc_NoTable, od_NoTable, .func (PySem.W.ksFn "__init__" qual_NoTable (HLX.iA "name" p1_NoTable p2_NoTable) (HLX.iB "name" pre_NoTable suf_NoTable q1_NoTable q2_NoTable q3_NoTable q4_NoTable q5_NoTable q6_NoTable q7_NoTable q8_NoTable q9_NoTable r1_NoTable r2_NoTable r3_NoTable r4_NoTable) (HLX.iS "name") .none kV_NoTable doc_NoTable pm_NoTable an_NoTable (.ref cda_NoTable) ct_NoTable cc_NoTable), osl_NoTable⟩)
    (ec_NoTable : K.lookup cda_NoTable = some ⟨ccl_NoTable, cdd_NoTable, .fields vs_NoTable, ccs_NoTable⟩) (eL_NoTable : K.lookup cc_NoTable = some ⟨cl_NoTable, cld_NoTable, .cell (some (.ref C_NoTable)), csl_NoTable⟩)
    (eb_NoTable : errB l.prog K "name" C_NoTable I_NoTable cda_NoTable vs_NoTable bm_NoTable qual_NoTable pre_NoTable suf_NoTable q3_NoTable q8_NoTable = true)
    {C_Refused I_Refused cda_Refused cc_Refused N_Refused : Addr} {nm_Refused q_Refused qual_Refused pre_Refused : Str} {suf_Refused : List Expr} {bs_Refused bm_Refused sub_Refused : List Value} {sn_Refused : List Str} {ab_Refused : Bool} {col_Refused : Option Bool} {dd_Refused od_Refused an_Refused cdd_Refused cld_Refused : Option Addr} {k0_Refused k1_Refused k2_Refused k3_Refused k5_Refused : Option Value} {oc_Refused kV_Refused doc_Refused pm_Refused ct_Refused ccl_Refused cl_Refused : Value} {osl_Refused ccs_Refused csl_Refused : Array (Option Value)} {vs_Refused : Array Value} {p1_Refused p2_Refused q1_Refused q2_Refused q3_Refused q4_Refused q5_Refused q6_Refused q7_Refused q8_Refused q9_Refused r1_Refused r2_Refused r3_Refused r4_Refused : Pos}
    (ea_Refused : PySem.W.nsIn K mainGlobals "Refused" = some (some (.ref C_Refused)))
    (el_Refused : K.lookup C_Refused = some (excClassObj nm_Refused q_Refused C_Refused N_Refused bs_Refused bm_Refused true sn_Refused sub_Refused ab_Refused col_Refused dd_Refused k0_Refused k1_Refused k2_Refused k3_Refused k5_Refused "ValueError.__new__"))
    (ei_Refused : PySem.W.findIn K (.ref C_Refused) "__init__" = some (some (.ref I_Refused)))
    (ef_Refused : K.lookup I_Refused = some ⟨oc_Refused, od_Refused, .func (PySem.W.ksFn "__init__" qual_Refused (HLX.iA "name" p1_Refused p2_Refused) (HLX.iB "name" pre_Refused suf_Refused q1_Refused q2_Refused q3_Refused q4_Refused q5_Refused q6_Refused q7_Refused q8_Refused q9_Refused r1_Refused r2_Refused r3_Refused r4_Refused) (HLX.iS "name") .none kV_Refused doc_Refused pm_Refused an_Refused (.ref cda_Refused) ct_Refused cc_Refused), osl_Refused⟩)
    (ec_Refused : K.lookup cda_Refused = some ⟨ccl_Refused, cdd_Refused, .fields vs_Refused, ccs_Refused⟩) (eL_Refused : K.lookup cc_Refused = some ⟨cl_Refused, cld_Refused, .cell (some (.ref C_Refused)), csl_Refused⟩)
    (eb_Refused : errB l.prog K "name" C_Refused I_Refused cda_Refused vs_Refused bm_Refused qual_Refused pre_Refused suf_Refused q3_Refused q8_Refused = true)
    (ex : exB K [("TooMany", C_TooMany), ("Unread", C_Unread), ("BadHead", C_BadHead), ("BadRow", C_BadRow), ("NoTable", C_NoTable), ("Refused", C_Refused)] = true)
    : ∃ fd : FuncData, (∀ (s : Shared) (v : Value), BindsTo s fd ⟨[v], []⟩ [("_law_script", v)]) ∧ ∀ base : Heap, K.In base → base.Ns mainGlobals mg → FnOk l.prog w K mg base (L2.CX l.prog w) 4 fa fd ["_law_script"] (spD (clOf [("TooMany", C_TooMany), ("Unread", C_Unread), ("BadHead", C_BadHead), ("BadRow", C_BadRow), ("NoTable", C_NoTable), ("Refused", C_Refused)]) 1 f_law) := by
  have e := hfa.symm.trans (PySem.W.mg_of X G a6)
  cases e
  have E_TooMany : ErrAll l.prog K mg (clOf [("TooMany", C_TooMany), ("Unread", C_Unread), ("BadHead", C_BadHead), ("BadRow", C_BadRow), ("NoTable", C_NoTable), ("Refused", C_Refused)]) "TooMany" "limit" := err_mk X G z_super rfl ea_TooMany el_TooMany ei_TooMany ef_TooMany ec_TooMany eL_TooMany eb_TooMany
  have E_Unread : ErrAll l.prog K mg (clOf [("TooMany", C_TooMany), ("Unread", C_Unread), ("BadHead", C_BadHead), ("BadRow", C_BadRow), ("NoTable", C_NoTable), ("Refused", C_Refused)]) "Unread" "at" := err_mk X G z_super rfl ea_Unread el_Unread ei_Unread ef_Unread ec_Unread eL_Unread eb_Unread
  have E_BadHead : ErrAll l.prog K mg (clOf [("TooMany", C_TooMany), ("Unread", C_Unread), ("BadHead", C_BadHead), ("BadRow", C_BadRow), ("NoTable", C_NoTable), ("Refused", C_Refused)]) "BadHead" "column" := err_mk X G z_super rfl ea_BadHead el_BadHead ei_BadHead ef_BadHead ec_BadHead eL_BadHead eb_BadHead
  have E_BadRow : ErrAll l.prog K mg (clOf [("TooMany", C_TooMany), ("Unread", C_Unread), ("BadHead", C_BadHead), ("BadRow", C_BadRow), ("NoTable", C_NoTable), ("Refused", C_Refused)]) "BadRow" "at" := err_mk X G z_super rfl ea_BadRow el_BadRow ei_BadRow ef_BadRow ec_BadRow eL_BadRow eb_BadRow
  have E_NoTable : ErrAll l.prog K mg (clOf [("TooMany", C_TooMany), ("Unread", C_Unread), ("BadHead", C_BadHead), ("BadRow", C_BadRow), ("NoTable", C_NoTable), ("Refused", C_Refused)]) "NoTable" "name" := err_mk X G z_super rfl ea_NoTable el_NoTable ei_NoTable ef_NoTable ec_NoTable eL_NoTable eb_NoTable
  have E_Refused : ErrAll l.prog K mg (clOf [("TooMany", C_TooMany), ("Unread", C_Unread), ("BadHead", C_BadHead), ("BadRow", C_BadRow), ("NoTable", C_NoTable), ("Refused", C_Refused)]) "Refused" "name" := err_mk X G z_super rfl ea_Refused el_Refused ei_Refused ef_Refused ec_Refused eL_Refused eb_Refused
  have T : Txt l.prog K mg (clOf [("TooMany", C_TooMany), ("Unread", C_Unread), ("BadHead", C_BadHead), ("BadRow", C_BadRow), ("NoTable", C_NoTable), ("Refused", C_Refused)]) 0 C_TooMany C_Unread C_BadHead C_BadRow C_NoTable C_Refused := ⟨PySem.W.mg_none_of X G z_int, PySem.W.mg_none_of X G z_list, PySem.W.mg_none_of X G z_tuple, PySem.W.mg_none_of X G z_isinstance, PySem.W.mg_none_of X G z_len, PySem.W.mg_none_of X G z_range, PySem.W.mg_none_of X G z_sorted, PySem.W.mg_none_of X G z_str, PySem.W.mg_none_of X G z_all, cst_int X G c_MOST_COLUMNS, E_TooMany, PySem.W.mg_of X G ea_TooMany, rfl, E_Unread, PySem.W.mg_of X G ea_Unread, rfl, E_BadHead, PySem.W.mg_of X G ea_BadHead, rfl, E_BadRow, PySem.W.mg_of X G ea_BadRow, rfl, E_NoTable, PySem.W.mg_of X G ea_NoTable, rfl, E_Refused, PySem.W.mg_of X G ea_Refused, rfl, errTab_mk ex (by simp only [List.mem_cons, List.not_mem_nil, or_false]; rintro p (rfl | rfl | rfl | rfl | rfl | rfl) <;> first | exact E_TooMany.xf rfl | exact E_Unread.xf rfl | exact E_BadHead.xf rfl | exact E_BadRow.xf rfl | exact E_NoTable.xf rfl | exact E_Refused.xf rfl)⟩
  have F0 := fun_mk (st := s__law_drawn) l0 c0 k0
  have B0 := F0.binds (ps := ["_law_script", "_law_k", "_law_many"]) fun _ _ _ _ _ _ us hl => match us, hl with | [_, _, _], _ => rfl
  have F1 := fun_mk (st := s__law_strings) l1 c1 k1
  have B1 := F1.binds (ps := ["_law_cells", "_law_many"]) fun _ _ _ _ _ _ us hl => match us, hl with | [_, _], _ => rfl
  have F2 := fun_mk (st := s_is_column) l2 c2 k2
  have B2 := F2.binds (ps := ["text"]) fun _ _ _ _ _ _ us hl => match us, hl with | [_], _ => rfl
  have F3 := fun_mk (st := s_head_of) l3 c3 k3
  have B3 := F3.binds (ps := ["columns"]) fun _ _ _ _ _ _ us hl => match us, hl with | [_], _ => rfl
  have F4 := fun_mk (st := s__law_told) l4 c4 k4
  have B4 := F4.binds (ps := ["_law_columns"]) fun _ _ _ _ _ _ us hl => match us, hl with | [_], _ => rfl
  have F5 := fun_mk (st := s__law_due) l5 c5 k5
  have B5 := F5.binds (ps := ["_law_columns"]) fun _ _ _ _ _ _ us hl => match us, hl with | [_], _ => rfl
  have F6 := fun_mk (st := s_law) l6 c6 k6
  refine ⟨PySem.W.fnOf "law" "law" (defArgs s_law) (defBody s_law) (defScope s_law) .none kV6 dc6 pm6 an6 cd6 ct6, fun s v => .of_eq rfl, fun base _ _ => ?_⟩
  have D__law_drawn : Df l.prog w K mg base (clOf [("TooMany", C_TooMany), ("Unread", C_Unread), ("BadHead", C_BadHead), ("BadRow", C_BadRow), ("NoTable", C_NoTable), ("Refused", C_Refused)]) 1 "_law_drawn" 3 f__law_drawn := ⟨_, _, _, d__law_drawn T F0 , PySem.W.mg_of X G a0, F0.kp, B0⟩
  have D__law_strings : Df l.prog w K mg base (clOf [("TooMany", C_TooMany), ("Unread", C_Unread), ("BadHead", C_BadHead), ("BadRow", C_BadRow), ("NoTable", C_NoTable), ("Refused", C_Refused)]) 1 "_law_strings" 2 f__law_strings := ⟨_, _, _, d__law_strings T F1 , PySem.W.mg_of X G a1, F1.kp, B1⟩
  have D_is_column : Df l.prog w K mg base (clOf [("TooMany", C_TooMany), ("Unread", C_Unread), ("BadHead", C_BadHead), ("BadRow", C_BadRow), ("NoTable", C_NoTable), ("Refused", C_Refused)]) 1 "is_column" 1 f_is_column := ⟨_, _, _, d_is_column T F2 , PySem.W.mg_of X G a2, F2.kp, B2⟩
  have D_head_of : Df l.prog w K mg base (clOf [("TooMany", C_TooMany), ("Unread", C_Unread), ("BadHead", C_BadHead), ("BadRow", C_BadRow), ("NoTable", C_NoTable), ("Refused", C_Refused)]) 2 "head_of" 1 f_head_of := ⟨_, _, _, d_head_of T F3 D_is_column, PySem.W.mg_of X G a3, F3.kp, B3⟩
  have D__law_told : Df l.prog w K mg base (clOf [("TooMany", C_TooMany), ("Unread", C_Unread), ("BadHead", C_BadHead), ("BadRow", C_BadRow), ("NoTable", C_NoTable), ("Refused", C_Refused)]) 3 "_law_told" 1 f__law_told := ⟨_, _, _, d__law_told T F4 D_head_of, PySem.W.mg_of X G a4, F4.kp, B4⟩
  have D__law_due : Df l.prog w K mg base (clOf [("TooMany", C_TooMany), ("Unread", C_Unread), ("BadHead", C_BadHead), ("BadRow", C_BadRow), ("NoTable", C_NoTable), ("Refused", C_Refused)]) 1 "_law_due" 1 f__law_due := ⟨_, _, _, d__law_due T F5 , PySem.W.mg_of X G a5, F5.kp, B5⟩
  exact d_law T F6 D__law_drawn D__law_strings D__law_told D__law_due
end Gk03

namespace Gk03
open PySem PySem.Spec PyProof.Rows L2 HL
/-! ### plain texts -/
def Gd (n : Nat) (x : Str) : Prop := (∀ c ∈ x.cps.toList, 32 ≤ c ∧ c < 127) ∧ x.length ≤ n
theorem len_list (x : Str) : x.length = x.cps.toList.length := by
  show x.cps.size = _
  simp
theorem gd_app {a b : Str} {n m : Nat} (h : Gd n a) (k : Gd m b) : Gd (n + m) (a ++ b) := by
  have e : (a ++ b).cps.toList = a.cps.toList ++ b.cps.toList := by
    show (a.cps ++ b.cps).toList = _
    simp
  refine ⟨fun c hc => ?_, ?_⟩
  · rw [e] at hc
    rcases List.mem_append.mp hc with hc | hc
    · exact h.1 c hc
    · exact k.1 c hc
  · have h1 := h.2
    have h2 := k.2
    rw [len_list] at h1 h2 ⊢
    rw [e, List.length_append]
    omega
theorem gd_mono {x : Str} {n m : Nat} (h : Gd n x) (k : n ≤ m) : Gd m x := ⟨h.1, Nat.le_trans h.2 k⟩
theorem gd_asc {x : Str} {n : Nat} (h : Gd n x) (k : n ≤ 1000) : Asc x := ⟨h.1, Nat.le_trans h.2 k⟩
theorem gd_cut {x : Str} {n : Nat} (h : Gd n x) (hn : n ≤ 1000) (lo hi : Option Int) : ∃ y, slD (.str x) lo hi = .ok (.str y) ∧ Gd n y := by
  refine ⟨cutS x lo hi, if_pos (le_line (by have := h.2; omega)), fun c hc => ?_, ?_⟩
  · unfold cutS at hc
    have hc' : c ∈ List.take (HT.sIx x.length x.length hi - HT.sIx x.length 0 lo) (List.drop (HT.sIx x.length 0 lo) x.cps.toList) := by simpa using hc
    exact h.1 c (List.mem_of_mem_drop (List.mem_of_mem_take hc'))
  · have h2 := h.2
    rw [len_list] at h2 ⊢
    unfold cutS
    simp only [List.toList_toArray, List.length_take, List.length_drop]
    omega
theorem gd_ix {x : Str} {n : Nat} {j : Int} (h : Gd n x) (hn : n ≤ 1000) (h0 : 0 ≤ j) (h1 : j < x.length) : ∃ y, ixD (.str x) (.int j) = .ok (.str y) ∧ Gd 1 y := by
  obtain ⟨k, rfl⟩ : ∃ k : Nat, j = k := ⟨j.toNat, by omega⟩
  have hk : k < x.cps.toList.length := by rw [← len_list]; omega
  refine ⟨⟨#[x.cps.toList[k]]⟩, ?_, fun c hc => ?_, ?_⟩
  · show (if x.length ≤ sizeLine then (match atI x.cps.toList (k : Int) with | some c => R.ok (D.str ⟨#[c]⟩) | none => R.stuck) else R.stuck) = _
    rw [if_pos (le_line (by have := h.2; omega)), atI_nat (List.getElem?_eq_getElem hk)]
  · have : c = x.cps.toList[k] := by simpa using hc
    rw [this]
    exact h.1 _ (List.getElem_mem hk)
  · show 1 ≤ 1
    exact Nat.le_refl 1
def gdB (n : Nat) (x : Str) : Bool := x.cps.toList.all (fun c => decide (32 ≤ c) && decide (c < 127)) && decide (x.length ≤ n)
theorem gd_of {n : Nat} {x : Str} (h : gdB n x = true) : Gd n x := by
  unfold gdB at h
  simp only [Bool.and_eq_true, List.all_eq_true, decide_eq_true_eq] at h
  exact h
theorem lt_int (a b : Int) : ltD (.int a) (.int b) = .ok (.bl (decide (a < b))) := rfl
theorem eq_int (a b : Int) : eqD (.int a) (.int b) = .ok (.bl (a == b)) := by
  show (if sim (.int a) = true ∧ sim (.int b) = true then R.ok (D.bl (a == b)) else R.stuck) = _
  rw [if_pos ⟨rfl, rfl⟩]
theorem mAnd_ok {t u : HEnv → R Bool} {env : HEnv} {a b : Bool} (h : t env = .ok a) (k : a = true → u env = .ok b) : mAndT t u env = .ok (a && b) := by
  unfold mAndT
  rw [h, R.bind_ok]
  cases a with
  | true => rw [if_pos rfl, k rfl]; rfl
  | false => rfl
theorem mOr_ok {t u : HEnv → R Bool} {env : HEnv} {a b : Bool} (h : t env = .ok a) (k : u env = .ok b) : mOrT t u env = .ok (a || b) := by
  unfold mOrT
  rw [h, R.bind_ok]
  cases a with
  | true => rfl
  | false => rw [if_neg (by decide), k]; rfl
theorem mNot_ok {t : HEnv → R Bool} {env : HEnv} {b : Bool} (h : t env = .ok b) : mNotT t env = .ok (!b) := m1_ok h
theorem add_str {a b : Str} (h : a.length + b.length ≤ 1000000) : addD (.str a) (.str b) = .ok (.str (a ++ b)) := if_pos (le_line h)
theorem ix_cs {cs : List Int} {k : Nat} (h : k < cs.length) : ixD (.lst (cs.map D.int)) (.int (k : Int)) = .ok (.int cs[k]) := ix_lst (by rw [List.getElem?_map, List.getElem?_eq_getElem h]; rfl)
/-! ### what is due -/
def lows : Str := "abcdefghijklmnopqrstuvwxyz"
theorem low_all : ((List.range 127).filter (32 ≤ ·)).all (fun c => inS ⟨#[c]⟩ lows == low c) = true := by decide +kernel
theorem low_in {c : Nat} (h1 : 32 ≤ c) (h2 : c < 127) : inS ⟨#[c]⟩ lows = low c := by
  have h := List.all_eq_true.mp low_all c (List.mem_filter.mpr ⟨List.mem_range.mpr h2, by simpa using h1⟩)
  simpa using h
def toldD (xs : List Str) : D := if 24 < xs.length then .tup [.str "TooMany", .int 24, .bl false] else match firstBad xs with
  | some k => .tup [.str "BadHead", .str (xs.getD k ⟨#[]⟩), .bl false]
  | none => .tup ((sortS xs).map D.str)
theorem told_ok (b : Bool) (xs : List Str) (ha : ∀ x ∈ xs, Asc x) (hz : xs.length ≤ 1000000) : f__law_told [given b (xs.map D.str)] = .ok (false, toldD xs) := by
  have e := head_of_ok b xs ha hz
  have e' : f_head_of [given b (xs.map D.str)] = headE xs := e
  have e3 : mCallX f_head_of (mCons (mVar 0) mNil) [Slot.val (given b (xs.map D.str)), .no] = headE xs := mCallX_ok (ds := [given b (xs.map D.str)]) rfl e'
  refine fnS_rt ?_
  unfold b__law_told mTry
  show (match sB (mCallX f_head_of (mCons (mVar 0) mNil)) (fun r _ => SO.rt r.1 r.2) [Slot.val (given b (xs.map D.str)), .no] with | .er x e => (if 1 < e.length then hOut [("BadHead", "column", "BadHead"), ("TooMany", "limit", "TooMany")] x e else SO.stuck) | .nx e => _ | .rt o d => SO.rt o d | .bk e => _ | .ct e => _ | .stuck => _) = _
  unfold sB
  rw [e3]
  unfold headE toldD
  by_cases h : 24 < xs.length
  · rw [if_pos h, if_pos h]
    show (if 1 < 2 then hOut _ _ _ else SO.stuck) = _
    rw [if_pos (by decide)]
    unfold hOut
    rw [if_pos ⟨by decide, by decide⟩, if_neg (by decide)]
    unfold hOut
    rw [if_pos ⟨by decide, by decide⟩, if_pos (by decide), if_pos rfl]
  · rw [if_neg h, if_neg h]
    cases firstBad xs with
    | none => rfl
    | some k =>
      show (if 1 < 2 then hOut _ _ _ else SO.stuck) = _
      rw [if_pos (by decide)]
      unfold hOut
      rw [if_pos ⟨by show errNames.contains (Str.ofString "BadHead") = true; decide, by show Str.ofString "BadHead" ≠ "HeadlessError"; decide⟩, if_pos (by show (Str.ofString "BadHead" == Str.ofString "BadHead") = true; decide), if_pos rfl]
def dueBody : HEnv → SO := (mSeq (mSet 2 (mComp [3] (m1 itemsD (m2 ixD (mOwn 0) (mOwn 1))) (gN 3) mYes (m2 (inN false) (mOwn 3) (mC (.str "abcdefghijklmnopqrstuvwxyz")))))
  (mSeq (mIfS (mOrT (m1 truB (m2 eqD (m1 lenD (mOwn 2)) (mC (.int 0)))) (mOrT (m1 truB (m2 (cmpI fun i j => decide (j < i)) (m1 lenD (mOwn 2)) (mC (.int 6)))) (mNotT (m1 truD (m1 allD (mOwn 2))))))
  (mRet (mTupE (mCons (mC (.str "BadHead")) (mCons (m2 ixD (mOwn 0) (mOwn 1)) (mCons (mC (.bl false)) mNil)))))
  mNext)
  (mIfS (m1 truB (m2 (inN false) (m2 ixD (mOwn 0) (mOwn 1)) (mSl slD (mOwn 0) mNoPart (mPart (mVar 1)))))
  (mRet (mTupE (mCons (mC (.str "BadHead")) (mCons (m2 ixD (mOwn 0) (mOwn 1)) (mCons (mC (.bl false)) mNil)))))
  mNext)))
theorem due_ok (xs : List Str) (ha : ∀ x ∈ xs, Asc x) (hz : xs.length ≤ 60) : f__law_due [.lst (xs.map D.str)] = .ok (false, toldD xs) := by
  have hl : ∀ s1 s2 s3 s4, m1 lenD (mOwn 0) [Slot.val (.lst (xs.map D.str)), s1, s2, s3, s4] = .ok (.int xs.length) := fun _ _ _ _ => (m1_ok (a := D.lst (xs.map D.str)) rfl).trans (by show R.ok (D.int ((xs.map D.str).length : Nat)) = _; rw [List.length_map])
  have ht : (m1 truB (m2 (cmpI fun i j => decide (j < i)) (m1 lenD (mOwn 0)) (mC (.int 24)))) [Slot.val (.lst (xs.map D.str)), .no, .no, .no, .no] = .ok (decide (24 < xs.length)) := by
    refine (m1_ok (a := D.bl (decide (24 < xs.length))) ?_).trans rfl
    refine (m2_ok (a := D.int xs.length) (b := D.int 24) (hl _ _ _ _) rfl).trans ?_
    show R.ok (D.bl (decide ((24 : Int) < (xs.length : Int)))) = _
    congr 2
    rw [Bool.eq_iff_iff]
    simp only [decide_eq_true_eq]
    omega
  unfold toldD
  by_cases hb : 24 < xs.length
  · rw [if_pos hb]
    rw [decide_eq_true hb] at ht
    refine fnS_rt ?_
    unfold b__law_due
    exact mSeq_rt ((mIf_tt ht).trans (mRet_ok rfl))
  · rw [if_neg hb]
    rw [decide_eq_false hb] at ht
    have key := forL_first (g := gN 1) (b := dueBody)
      (fun e => ∃ s1 s2, e = [Slot.val (.lst (xs.map D.str)), s1, s2, .no, .no]) (badAt xs) (fun k so => so = .rt false (.tup [.str "BadHead", .str (xs.getD k ⟨#[]⟩), .bl false]))
      (ks := List.range xs.length) (env := [Slot.val (.lst (xs.map D.str)), .no, .no, .no, .no]) ⟨.no, .no, rfl⟩ fun k hk env ⟨s1, s2, he⟩ => by
        subst he
        have hk' : k < xs.length := List.mem_range.mp hk
        have ex : xs[k]? = some xs[k] := List.getElem?_eq_getElem hk'
        have hasc := ha _ (List.getElem_mem hk')
        have hix : ∀ s2 s3, m2 ixD (mOwn 0) (mOwn 1) [Slot.val (.lst (xs.map D.str)), .val (.int (k : Nat)), s2, s3, .no] = .ok (.str xs[k]) := fun _ _ =>
          (m2_ok (a := D.lst (xs.map D.str)) (b := D.int (k : Nat)) rfl rfl).trans (ix_lst (by rw [List.getElem?_map, ex]; rfl))
        have hfine : (mComp [3] (m1 itemsD (m2 ixD (mOwn 0) (mOwn 1))) (gN 3) mYes (m2 (inN false) (mOwn 3) (mC (.str "abcdefghijklmnopqrstuvwxyz")))) [Slot.val (.lst (xs.map D.str)), .val (.int (k : Nat)), s2, .no, .no] = .ok (.lst (xs[k].cps.toList.map fun c => .bl (low c))) := by
          refine mComp_ok (ds := xs[k].cps.toList.map fun c => .str ⟨#[c]⟩) ?_ (compL_map (f := fun c => D.str ⟨#[c]⟩) (h := fun c => D.bl (low c)) fun c hc => ?_)
          · exact (m1_ok (a := D.str xs[k]) (hix _ _)).trans (if_pos (le_line (by have := hasc.2; omega)))
          · refine (m2_ok (a := D.str ⟨#[c]⟩) (b := D.str lows) rfl rfl).trans ?_
            show R.ok (D.bl (inS ⟨#[c]⟩ lows)) = _
            rw [low_in (hasc.1 c hc).1 (hasc.1 c hc).2]
        have hll := len_list xs[k]
        have htest : (mOrT (m1 truB (m2 eqD (m1 lenD (mOwn 2)) (mC (.int 0)))) (mOrT (m1 truB (m2 (cmpI fun i j => decide (j < i)) (m1 lenD (mOwn 2)) (mC (.int 6)))) (mNotT (m1 truD (m1 allD (mOwn 2)))))) [Slot.val (.lst (xs.map D.str)), .val (.int (k : Nat)), .val (.lst (xs[k].cps.toList.map fun c => .bl (low c))), .no, .no] = .ok (!isCol xs[k]) := by
          have hln : m1 lenD (mOwn 2) [Slot.val (.lst (xs.map D.str)), .val (.int (k : Nat)), .val (.lst (xs[k].cps.toList.map fun c => .bl (low c))), .no, .no] = .ok (.int xs[k].length) := by
            show R.ok (D.int ((xs[k].cps.toList.map fun c => D.bl (low c)).length : Nat)) = _
            rw [List.length_map, ← hll]
          have e1 := (m1_ok (f := truB) (a := D.bl (((xs[k].length : Nat) : Int) == 0)) ((m2_ok (f := eqD) hln (mb := mC (.int 0)) (b := D.int 0) rfl).trans (eq_int _ _))).trans (rfl : _ = R.ok (((xs[k].length : Nat) : Int) == 0))
          have e2 := (m1_ok (f := truB) (a := D.bl (decide ((6 : Int) < ((xs[k].length : Nat) : Int)))) ((m2_ok (f := cmpI fun i j => decide (j < i)) hln (mb := mC (.int 6)) (b := D.int 6) rfl).trans rfl)).trans (rfl : _ = R.ok (decide ((6 : Int) < ((xs[k].length : Nat) : Int))))
          have e3 : m1 truD (m1 allD (mOwn 2)) [Slot.val (.lst (xs.map D.str)), .val (.int (k : Nat)), .val (.lst (xs[k].cps.toList.map fun c => .bl (low c))), .no, .no] = .ok (xs[k].cps.toList.all low) := by
            refine (m1_ok (a := D.bl (xs[k].cps.toList.all low)) ?_).trans rfl
            show (match boolsD (xs[k].cps.toList.map fun c => D.bl (low c)) with | some bs => R.ok (D.bl (bs.all id)) | none => R.stuck) = _
            rw [allD_map (f := low)]
            show R.ok (D.bl ((xs[k].cps.toList.map low).all id)) = _
            rw [List.all_map]
            rfl
          refine (mOr_ok e1 (mOr_ok e2 (mNot_ok e3))).trans ?_
          congr 1
          unfold isCol
          generalize xs[k].cps.toList.all low = qq
          generalize xs[k].length = ln
          rw [Bool.eq_iff_iff]
          cases qq <;> simp <;> omega
        have hin : (m1 truB (m2 (inN false) (m2 ixD (mOwn 0) (mOwn 1)) (mSl slD (mOwn 0) mNoPart (mPart (mVar 1))))) [Slot.val (.lst (xs.map D.str)), .val (.int (k : Nat)), .val (.lst (xs[k].cps.toList.map fun c => .bl (low c))), .no, .no] = .ok (decide (xs[k] ∈ xs.take k)) := by
          refine (m1_ok (a := D.bl (decide (xs[k] ∈ xs.take k))) ?_).trans rfl
          refine (m2_ok (a := D.str xs[k]) (b := given false ((xs.take k).map D.str)) (hix _ _) ?_).trans (in_given false _ _)
          exact cut_given false xs k
        have eb : badAt xs k = (!isCol xs[k] || decide (xs[k] ∈ xs.take k)) := by
          unfold badAt
          rw [ex]
        have eg : xs.getD k ⟨#[]⟩ = xs[k] := by
          rw [List.getD_eq_getElem?_getD, ex]
          rfl
        have hret : (mRet (mTupE (mCons (mC (.str "BadHead")) (mCons (m2 ixD (mOwn 0) (mOwn 1)) (mCons (mC (.bl false)) mNil))))) [Slot.val (.lst (xs.map D.str)), .val (.int (k : Nat)), .val (.lst (xs[k].cps.toList.map fun c => .bl (low c))), .no, .no] = .rt false (.tup [.str "BadHead", .str (xs.getD k ⟨#[]⟩), .bl false]) := by
          rw [eg]
          exact mRet_ok ((m1_ok (mCons_ok rfl (mCons_ok (hix _ _) (mCons_ok rfl rfl)))).trans rfl)
        refine ⟨_, rfl, ?_⟩
        have start : dueBody [Slot.val (.lst (xs.map D.str)), .val (.int (k : Nat)), s2, .no, .no] = _ := mSeq_nx (mSet_ok hfine)
        rw [show [Slot.val (D.lst (xs.map D.str)), s1, s2, Slot.no, Slot.no].set 1 (Slot.val (D.int (k : Nat))) = [Slot.val (.lst (xs.map D.str)), .val (.int (k : Nat)), s2, .no, .no] from rfl, start]
        cases hc : isCol xs[k] with
        | false =>
          rw [hc] at htest eb
          have er := (mSeq_rt (b := (mIfS (m1 truB (m2 (inN false) (m2 ixD (mOwn 0) (mOwn 1)) (mSl slD (mOwn 0) mNoPart (mPart (mVar 1))))) (mRet (mTupE (mCons (mC (.str "BadHead")) (mCons (m2 ixD (mOwn 0) (mOwn 1)) (mCons (mC (.bl false)) mNil))))) mNext)) ((mIf_tt (b := mNext) htest).trans hret))
          exact .inl ⟨eb, er, fun e => ⟨fun z => (nomatch (er.symm.trans z)), fun z => (nomatch (er.symm.trans z)), fun z => (nomatch (er.symm.trans z))⟩⟩
        | true =>
          rw [hc] at htest eb
          have go := mSeq_nx (b := (mIfS (m1 truB (m2 (inN false) (m2 ixD (mOwn 0) (mOwn 1)) (mSl slD (mOwn 0) mNoPart (mPart (mVar 1))))) (mRet (mTupE (mCons (mC (.str "BadHead")) (mCons (m2 ixD (mOwn 0) (mOwn 1)) (mCons (mC (.bl false)) mNil))))) mNext)) ((mIf_ff (a := (mRet (mTupE (mCons (mC (.str "BadHead")) (mCons (m2 ixD (mOwn 0) (mOwn 1)) (mCons (mC (.bl false)) mNil)))))) (b := mNext) htest).trans rfl)
          cases hm : decide (xs[k] ∈ xs.take k) with
          | true =>
            rw [hm] at hin eb
            have er := go.trans ((mIf_tt (b := mNext) hin).trans hret)
            exact .inl ⟨eb, er, fun e => ⟨fun z => (nomatch (er.symm.trans z)), fun z => (nomatch (er.symm.trans z)), fun z => (nomatch (er.symm.trans z))⟩⟩
          | false =>
            rw [hm] at hin eb
            exact .inr ⟨eb, _, go.trans ((mIf_ff hin).trans rfl), _, _, rfl⟩
    have hsrc : (m1 range1D (mCons (m1 lenD (mOwn 0)) mNil)) [Slot.val (.lst (xs.map D.str)), .no, .no, .no, .no] = .ok ((List.range xs.length).map fun i => D.int (i : Nat)) :=
      (m1_ok (a := [D.int xs.length]) (mCons_ok (hl _ _ _ _) rfl)).trans (rangeD_ok (by omega))
    unfold firstBad
    cases hf : (List.range xs.length).find? (badAt xs) with
    | some k =>
      rw [hf] at key
      refine fnS_rt ?_
      unfold b__law_due
      exact (mSeq_nx ((mIf_ff ht).trans rfl)).trans (mSeq_rt ((mFor_ok hsrc).trans key))
    | none =>
      rw [hf] at key
      obtain ⟨e, he, s1, s2, rfl⟩ := key
      refine fnS_rt ?_
      unfold b__law_due
      refine (mSeq_nx ((mIf_ff ht).trans rfl)).trans ((mSeq_nx ((mFor_ok hsrc).trans he)).trans (mRet_ok ?_))
      refine (m1_ok (a := D.lst ((sortS xs).map D.str)) ?_).trans rfl
      refine (m1_ok (a := D.lst (xs.map D.str)) ?_).trans ?_
      · exact mComp_ok (ds := xs.map D.str) rfl (compL_map (f := D.str) (h := D.str) fun x hx => rfl)
      · show (match strsD (xs.map D.str) with | some xs => if xs.length < 64 then R.ok (D.lst ((sortS xs).map D.str)) else R.stuck | none => R.stuck) = _
        rw [strsD_map]
        exact if_pos (by omega)
/-! ### the strings -/
def signs : Str := " !\"#$&'()*+,-./0123456789:;<=>?@ABCDEFGHIJKLMNOPQRSTUVWXYZ[\\]^_`{|}~"
def oddS : List Str := ["", "K", "a1", "abcdefg", "a b", "-", "aB"]
theorem odd_gd : ∀ x ∈ oddS, Gd 20 x := fun x hx => by
  have : oddS.all (gdB 20) = true := by decide +kernel
  exact gd_of (List.all_eq_true.mp this x hx)
theorem len_str {n : Nat} {x : Str} (h : Gd n x) (hn : n ≤ 1000) : lenD (.str x) = .ok (.int x.length) := if_pos (le_line (by have := h.2; omega))
theorem range2 : m1 range1D (mCons (mC (.int 2)) mNil) = fun _ => .ok ((List.range 2).map fun i => D.int (i : Nat)) := rfl
theorem strings_ok (cs : List Int) (n : Nat) (hc : cs.length = 11) (hr : ∀ c ∈ cs, 0 ≤ c ∧ c < 5040) (hn : n ≤ 27) : ∃ xs : List Str, xs.length = n ∧ (∀ x ∈ xs, Gd 20 x) ∧ f__law_strings [.lst (cs.map D.int), .int n] = .ok (true, .lst (xs.map D.str)) := by
  have cell : ∀ k : Nat, (h : k < cs.length) → 0 ≤ cs[k] ∧ cs[k] < 5040 := fun k h => hr _ (List.getElem_mem h)
  have g_low : Gd 26 lows := gd_of (by decide +kernel)
  have g_sig : Gd 100 signs := gd_of (by decide +kernel)
  have g_kkk : Gd 3 "kkk" := gd_of (by decide +kernel)
  have g_m : Gd 1 "m" := gd_of (by decide +kernel)
  have g_pq : Gd 2 "pq" := gd_of (by decide +kernel)
  have g_ab : Gd 2 "ab" := gd_of (by decide +kernel)
  have g_cd : Gd 2 "cd" := gd_of (by decide +kernel)
  have l_low : lows.length = 26 := by decide +kernel
  have l_pq : (Str.ofString "pq").length = 2 := by decide +kernel
  have l_sig : 0 < signs.length := by decide +kernel
  have h0 := ix_cs (cs := cs) (k := 0) (by omega)
  have h1 := ix_cs (cs := cs) (k := 1) (by omega)
  have h6 := ix_cs (cs := cs) (k := 6) (by omega)
  have h9 := ix_cs (cs := cs) (k := 9) (by omega)
  have h10 := ix_cs (cs := cs) (k := 10) (by omega)
  obtain ⟨hd, ehd, ghd⟩ := gd_cut g_kkk (by decide) none (some (cs[0] % 4))
  obtain ⟨tl, etl, gtl⟩ := gd_cut g_m (by decide) none (some (cs[0] / 4 % 2))
  -- the first strings
  have key := forL_ind (g := gN 7) (b := (mSeq (mSet 8 (m2 ixD (mOwn 2) (m2 modD (m1 intD (m2 addD (m2 mulD (mC (.int 7)) (mOwn 7)) (m2 ixD (mOwn 0) (mC (.int 1))))) (mC (.int 26)))))
      (mOwn1 6 (tyL "list") appD (m2 addD (m2 addD (m2 addD (mOwn 4) (mOwn 8)) (m2 ixD (mC (.str "pq")) (m2 divD (mOwn 7) (mC (.int 26))))) (mOwn 5)))))
    (fun j env => ∃ (xs : List Str) (s7 s8 : Slot), xs.length = j ∧ (∀ x ∈ xs, Gd 20 x) ∧ env = [.val (.lst (cs.map D.int)), .val (.int n), .val (.str lows), .val (.str signs), .val (.str hd), .val (.str tl), .own (.lst (xs.map D.str)), s7, s8, .no, .no, .no, .no])
    (ds := (List.range n).map fun i => D.int (i : Nat)) (j := 0) (env := [.val (.lst (cs.map D.int)), .val (.int n), .val (.str lows), .val (.str signs), .val (.str hd), .val (.str tl), .own (.lst []), .no, .no, .no, .no, .no, .no])
    ⟨[], .no, .no, rfl, by simp, rfl⟩ (fun i d env hdd ⟨xs, s7, s8, k1, k2, k3⟩ => by
      subst k3
      have hi : i < n := by
        have := (List.getElem?_eq_some_iff.mp hdd).1
        simpa using this
      have ed : d = .int (i : Nat) := by
        rw [List.getElem?_map, List.getElem?_range hi] at hdd
        exact (Option.some.inj hdd).symm
      subst ed
      have c1 := cell 1 (by omega)
      have m0 := Int.emod_nonneg (7 * (i : Int) + cs[1]) (b := 26) (by decide)
      have m1' := Int.emod_lt_of_pos (7 * (i : Int) + cs[1]) (b := 26) (by decide)
      obtain ⟨le, ele, gle⟩ := gd_ix g_low (by decide) m0 (by rw [l_low]; exact m1')
      obtain ⟨pq, epq, gpq⟩ := gd_ix (j := (i : Int) / 26) g_pq (by decide) (by omega) (by rw [l_pq]; omega)
      have gx := gd_app (gd_app (gd_app ghd gle) gpq) gtl
      refine ⟨_, _, rfl, .inl ((mSeq_nx (mSet_ok (d := .str le) ?_)).trans (append_ok (ds := xs.map D.str) (d := .str (hd ++ le ++ pq ++ tl)) rfl ?_ (small_line (by rw [List.length_map]; omega)))), xs ++ [hd ++ le ++ pq ++ tl], .val (.int (i : Nat)), .val (.str le), by simp [k1], fun x hx => ?_, ?_⟩
      · refine (m2_ok (a := D.str lows) (b := D.int ((7 * (i : Int) + cs[1]) % 26)) rfl ?_).trans ele
        refine (m2_ok (a := D.int (7 * (i : Int) + cs[1])) (b := D.int 26) ?_ rfl).trans rfl
        refine (m1_ok (a := D.int (7 * (i : Int) + cs[1])) ?_).trans rfl
        exact (m2_ok (a := D.int (7 * (i : Int))) (b := D.int cs[1]) rfl ((m2_ok (a := D.lst (cs.map D.int)) (b := D.int ((1 : Nat) : Int)) rfl rfl).trans h1)).trans rfl
      · have b1 := ghd.2
        have b2 := gle.2
        have b3 := gpq.2
        have b4 := gtl.2
        have b5 := (gd_app ghd gle).2
        have b6 := (gd_app (gd_app ghd gle) gpq).2
        refine (m2_ok (a := D.str (hd ++ le ++ pq)) (b := D.str tl) ?_ rfl).trans (add_str (by omega))
        refine (m2_ok (a := D.str (hd ++ le)) (b := D.str pq) ?_ ?_).trans (add_str (by omega))
        · exact (m2_ok (a := D.str hd) (b := D.str le) rfl rfl).trans (add_str (by omega))
        · exact (m2_ok (a := D.str "pq") (b := D.int ((i : Int) / 26)) rfl ((m2_ok (a := D.int (i : Nat)) (b := D.int 26) rfl rfl).trans rfl)).trans epq
      · rcases List.mem_append.mp hx with hx | hx
        · exact k2 x hx
        · simp only [List.mem_cons, List.not_mem_nil, or_false] at hx
          subst hx
          exact gd_mono gx (by decide)
      · simp)
  obtain ⟨e, e1, xs, s7, s8, k1, k2, rfl⟩ := key
  rw [Nat.zero_add, List.length_map, List.length_range] at k1
  have c9 := cell 9 (by omega)
  obtain ⟨sg, esg, gsg⟩ := gd_ix (j := cs[9] % (signs.length : Int)) g_sig (by decide) (Int.emod_nonneg _ (by omega)) (Int.emod_lt_of_pos _ (by omega))
  -- the odd ones
  let odd : D := .lst (oddS.map D.str)
  have key2 := forL_all (g := gN 7) (b := (mSeq (mSet 11 (m2 modD (m1 intD (m2 ixD (mOwn 0) (m2 addD (mC (.int 2)) (m2 mulD (mC (.int 2)) (mOwn 7))))) (mC (.int 10))))
      (mSeq (mSet 12 (m2 modD (m1 intD (m2 ixD (mOwn 0) (m2 addD (mC (.int 3)) (m2 mulD (mC (.int 2)) (mOwn 7))))) (m2 addD (mOwn 1) (mC (.int 1)))))
      (mSeq (mIfS (mAndT (m1 truB (m2 ltD (mOwn 12) (mOwn 1))) (m1 truB (m2 ltD (mOwn 11) (mC (.int 7)))))
      (mPutL 6 (mVar 12) (m2 ixD (mOwn 9) (mOwn 11)))
      mNext)
      (mSeq (mIfS (mAndT (m1 truB (m2 ltD (mOwn 12) (mOwn 1))) (m1 truB (m2 eqD (mOwn 11) (mC (.int 7)))))
      (mPutL 6 (mVar 12) (m2 ixD (mOwn 6) (m2 modD (m1 intD (m2 ixD (mOwn 0) (mC (.int 6)))) (mOwn 1))))
      mNext)
      (mIfS (mAndT (m1 truB (m2 ltD (mOwn 12) (mOwn 1))) (m1 truB (m2 eqD (mOwn 11) (mC (.int 8)))))
      (mPutL 6 (mVar 12) (m2 addD (m2 addD (mSl slD (mC (.str "ab")) mNoPart (mPart (m2 modD (m1 intD (m2 ixD (mOwn 0) (mC (.int 10)))) (mC (.int 3))))) (mOwn 10)) (mSl slD (mC (.str "cd")) mNoPart (mPart (m2 modD (m1 intD (m2 divD (m2 ixD (mOwn 0) (mC (.int 10))) (mC (.int 3)))) (mC (.int 3)))))))
      mNext))))))
    (fun env => ∃ (xs : List Str) (s7 s11 s12 : Slot), xs.length = n ∧ (∀ x ∈ xs, Gd 20 x) ∧ env = [.val (.lst (cs.map D.int)), .val (.int n), .val (.str lows), .val (.str signs), .val (.str hd), .val (.str tl), .own (.lst (xs.map D.str)), s7, s8, .val odd, .val (.str sg), s11, s12])
    (ds := (List.range 2).map fun i => D.int (i : Nat)) (env := [.val (.lst (cs.map D.int)), .val (.int n), .val (.str lows), .val (.str signs), .val (.str hd), .val (.str tl), .own (.lst (xs.map D.str)), s7, s8, .val odd, .val (.str sg), .no, .no])
    ⟨xs, s7, .no, .no, k1, k2, rfl⟩ (fun d hdd env ⟨xs, s7, s11, s12, k1, k2, k3⟩ => by
      subst k3
      obtain ⟨i, hi, rfl⟩ := List.mem_map.mp hdd
      have hi2 : i < 2 := List.mem_range.mp hi
      have c2 := cell (2 + 2 * i) (by omega)
      have c3 := cell (3 + 2 * i) (by omega)
      have i2 := ix_cs (cs := cs) (k := 2 + 2 * i) (by omega)
      have i3 := ix_cs (cs := cs) (k := 3 + 2 * i) (by omega)
      obtain ⟨pick, hp⟩ : ∃ p : Nat, cs[2 + 2 * i] % 10 = p := ⟨(cs[2 + 2 * i] % 10).toNat, by have := Int.emod_nonneg cs[2 + 2 * i] (b := 10) (by decide); omega⟩
      obtain ⟨at_, hat⟩ : ∃ p : Nat, cs[3 + 2 * i] % ((n : Int) + 1) = p := ⟨(cs[3 + 2 * i] % ((n : Int) + 1)).toNat, by have := Int.emod_nonneg cs[3 + 2 * i] (b := (n : Int) + 1) (by omega); omega⟩
      -- a store at at_, where it is within
      have put : ∀ (xs : List Str) (t : HEnv → R Bool) (m : HEnv → R D) (cond : Bool), xs.length = n → (∀ x ∈ xs, Gd 20 x) →
          mAndT (m1 truB (m2 ltD (mOwn 12) (mOwn 1))) t [.val (.lst (cs.map D.int)), .val (.int n), .val (.str lows), .val (.str signs), .val (.str hd), .val (.str tl), .own (.lst (xs.map D.str)), .val (.int (i : Nat)), s8, .val odd, .val (.str sg), .val (.int (pick : Int)), .val (.int (at_ : Int))] = .ok (decide (at_ < n) && cond) →
          (at_ < n → cond = true → ∃ y, m [.val (.lst (cs.map D.int)), .val (.int n), .val (.str lows), .val (.str signs), .val (.str hd), .val (.str tl), .own (.lst (xs.map D.str)), .val (.int (i : Nat)), s8, .val odd, .val (.str sg), .val (.int (pick : Int)), .val (.int (at_ : Int))] = .ok (.str y) ∧ Gd 20 y) →
          ∃ ys : List Str, ys.length = n ∧ (∀ x ∈ ys, Gd 20 x) ∧ mIfS (mAndT (m1 truB (m2 ltD (mOwn 12) (mOwn 1))) t) (mPutL 6 (mVar 12) m) mNext [.val (.lst (cs.map D.int)), .val (.int n), .val (.str lows), .val (.str signs), .val (.str hd), .val (.str tl), .own (.lst (xs.map D.str)), .val (.int (i : Nat)), s8, .val odd, .val (.str sg), .val (.int (pick : Int)), .val (.int (at_ : Int))] =
            .nx [.val (.lst (cs.map D.int)), .val (.int n), .val (.str lows), .val (.str signs), .val (.str hd), .val (.str tl), .own (.lst (ys.map D.str)), .val (.int (i : Nat)), s8, .val odd, .val (.str sg), .val (.int (pick : Int)), .val (.int (at_ : Int))] := fun xs t m cond q1 q2 q3 q4 => by
        by_cases hc : (decide (at_ < n) && cond) = true
        · rw [hc] at q3
          simp only [Bool.and_eq_true, decide_eq_true_eq] at hc
          obtain ⟨y, ey, gy⟩ := q4 hc.1 hc.2
          refine ⟨xs.set at_ y, by rw [List.length_set]; exact q1, fun x hx => ?_, (mIf_tt q3).trans ?_⟩
          · rcases List.mem_or_eq_of_mem_set hx with hx | hx
            · exact q2 x hx
            · rw [hx]; exact gy
          · have hix : ixN (xs.map D.str).length (at_ : Int) = some at_ := by
              unfold ixN
              rw [List.length_map, q1]
              simp only [Int.toNat_natCast]
              split <;> first | omega | (split <;> first | rfl | omega)
            show (sB m _ _) = _
            refine (sB_ok ey).trans ?_
            refine (sB_ok (a := D.int (at_ : Int)) rfl).trans ?_
            show (match ixN (xs.map D.str).length (at_ : Int) with | some n => SO.nx _ | none => SO.stuck) = _
            rw [hix, List.map_set]
            rfl
        · rw [Bool.not_eq_true _ |>.mp hc] at q3
          exact ⟨xs, q1, q2, (mIf_ff q3).trans rfl⟩
      have hlt : decide ((at_ : Int) < (n : Int)) = decide (at_ < n) := by
        rw [Bool.eq_iff_iff]
        simp only [decide_eq_true_eq]
        omega
      obtain ⟨xs1, p1, p2, e1⟩ := put xs (m1 truB (m2 ltD (mOwn 11) (mC (.int 7)))) (m2 ixD (mOwn 9) (mOwn 11)) (decide (pick < 7)) k1 k2
        (mAnd_ok (a := decide (at_ < n)) (by rw [← hlt]; rfl) fun _ => by
          rw [show decide (pick < 7) = decide ((pick : Int) < 7) from by rw [Bool.eq_iff_iff]; simp only [decide_eq_true_eq]; omega]
          rfl)
        (fun _ hc => by
          have hp7 : pick < oddS.length := of_decide_eq_true hc
          exact ⟨oddS[pick], (m2_ok (a := odd) (b := D.int (pick : Nat)) rfl rfl).trans (ix_lst (by rw [List.getElem?_map, List.getElem?_eq_getElem hp7]; rfl)), odd_gd _ (List.getElem_mem hp7)⟩)
      obtain ⟨xs2, p3, p4, e2⟩ := put xs1 (m1 truB (m2 eqD (mOwn 11) (mC (.int 7)))) (m2 ixD (mOwn 6) (m2 modD (m1 intD (m2 ixD (mOwn 0) (mC (.int 6)))) (mOwn 1))) ((pick : Int) == 7) p1 p2
        (mAnd_ok (a := decide (at_ < n)) (by rw [← hlt]; rfl) fun _ => (m1_ok (a := D.bl ((pick : Int) == 7)) ((m2_ok (a := D.int (pick : Nat)) (b := D.int 7) rfl rfl).trans (eq_int _ _))).trans rfl)
        (fun hat2 _ => by
          have z0 := Int.emod_nonneg cs[6] (b := (n : Int)) (by omega)
          have z1 := Int.emod_lt_of_pos cs[6] (b := (n : Int)) (by omega)
          obtain ⟨j, hj⟩ : ∃ j : Nat, cs[6] % (n : Int) = j := ⟨(cs[6] % (n : Int)).toNat, by omega⟩
          have hjn : j < xs1.length := by omega
          refine ⟨xs1[j], (m2_ok (a := D.lst (xs1.map D.str)) (b := D.int (j : Nat)) rfl ?_).trans (ix_lst (by rw [List.getElem?_map, List.getElem?_eq_getElem hjn]; rfl)), p2 _ (List.getElem_mem hjn)⟩
          refine (mod_of (int_of (cell_at rfl 6 (by omega))) (own_val (i := 1) (d := .int (n : Int)) rfl) (by omega)).trans ?_
          rw [hj])
      obtain ⟨xs3, p5, p6, e3⟩ := put xs2 (m1 truB (m2 eqD (mOwn 11) (mC (.int 8)))) (m2 addD (m2 addD (mSl slD (mC (.str "ab")) mNoPart (mPart (m2 modD (m1 intD (m2 ixD (mOwn 0) (mC (.int 10)))) (mC (.int 3))))) (mOwn 10)) (mSl slD (mC (.str "cd")) mNoPart (mPart (m2 modD (m1 intD (m2 divD (m2 ixD (mOwn 0) (mC (.int 10))) (mC (.int 3)))) (mC (.int 3)))))) ((pick : Int) == 8) p3 p4
        (mAnd_ok (a := decide (at_ < n)) (by rw [← hlt]; rfl) fun _ => (m1_ok (a := D.bl ((pick : Int) == 8)) ((m2_ok (a := D.int (pick : Nat)) (b := D.int 8) rfl rfl).trans (eq_int _ _))).trans rfl)
        (fun _ _ => by
          obtain ⟨ya, ea, ga⟩ := gd_cut g_ab (by decide) none (some (cs[10] % 3))
          obtain ⟨yc, ec, gc⟩ := gd_cut g_cd (by decide) none (some (cs[10] / 3 % 3))
          have gx := gd_app (gd_app ga gsg) gc
          have b1 := ga.2
          have b2 := gsg.2
          have b3 := gc.2
          have b4 := (gd_app ga gsg).2
          refine ⟨ya ++ sg ++ yc, (m2_ok (a := D.str (ya ++ sg)) (b := D.str yc) ((m2_ok (a := D.str ya) (b := D.str sg) ?_ rfl).trans (add_str (by omega))) ?_).trans (add_str (by omega)), gd_mono gx (by decide)⟩
          · exact sl_to rfl (mod_lit (int_of (cell_at rfl 10 (by omega))) (by decide)) ea
          · exact sl_to rfl (mod_lit (int_of (div_lit (cell_at rfl 10 (by omega)) (by decide) (by decide))) (by decide)) ec)
      refine ⟨_, _, rfl, (mSeq_nx (mSet_ok (d := .int (pick : Int)) ?_)).trans ((mSeq_nx (mSet_ok (d := .int (at_ : Int)) ?_)).trans ((mSeq_nx e1).trans ((mSeq_nx e2).trans e3))), xs3, .val (.int (i : Nat)), .val (.int (pick : Int)), .val (.int (at_ : Int)), p5, p6, rfl⟩
      · refine (m2_ok (a := D.int cs[2 + 2 * i]) (b := D.int 10) ?_ rfl).trans ?_
        · refine (m1_ok (a := D.int cs[2 + 2 * i]) ((m2_ok (a := D.lst (cs.map D.int)) (b := D.int ((2 + 2 * i : Nat) : Int)) rfl ?_).trans i2)).trans rfl
          exact (m2_ok (a := D.int 2) (b := D.int (2 * (i : Int))) rfl rfl).trans rfl
        · show R.ok (D.int (cs[2 + 2 * i] % 10)) = _
          rw [hp]
      · refine (m2_ok (a := D.int cs[3 + 2 * i]) (b := D.int ((n : Int) + 1)) ?_ rfl).trans ?_
        · refine (m1_ok (a := D.int cs[3 + 2 * i]) ((m2_ok (a := D.lst (cs.map D.int)) (b := D.int ((3 + 2 * i : Nat) : Int)) rfl ?_).trans i3)).trans rfl
          exact (m2_ok (a := D.int 3) (b := D.int (2 * (i : Int))) rfl rfl).trans rfl
        · show (if (0 : Int) < (n : Int) + 1 then R.ok (D.int (cs[3 + 2 * i] % ((n : Int) + 1))) else R.stuck) = _
          rw [if_pos (by omega), hat])
  obtain ⟨e, e2, ys, t7, t11, t12, q1, q2, rfl⟩ := key2
  refine ⟨ys, q1, q2, fnS_rt ?_⟩
  unfold b__law_strings
  refine (mSeq_nx (mSet_ok (d := .str lows) rfl)).trans ((mSeq_nx (mSet_ok (d := .str signs) rfl)).trans ?_)
  refine (mSeq_nx (mSet_ok (d := .str hd) ?_)).trans ((mSeq_nx (mSet_ok (d := .str tl) ?_)).trans ?_)
  · exact sl_to rfl (mod_lit (int_of (cell_at rfl 0 (by omega))) (by decide)) ehd
  · exact sl_to rfl (mod_lit (int_of (div_lit (cell_at rfl 0 (by omega)) (by decide) (by decide))) (by decide)) etl
  refine (mSeq_nx (mSetN_ok (d := .lst []) rfl)).trans ?_
  refine (mSeq_nx ((mFor_ok (range_of (n := n) (var_val rfl) (by omega))).trans e1)).trans ?_
  refine (mSeq_nx (mSet_ok (d := odd) rfl)).trans ?_
  refine (mSeq_nx (mSet_ok (d := .str sg) ?_)).trans ?_
  · refine (m2_ok (a := D.str signs) (b := D.int (cs[9] % (signs.length : Int))) rfl ?_).trans esg
    exact mod_of (int_of (cell_at rfl 9 (by omega))) ((m1_ok (own_val (i := 3) (d := .str signs) rfl)).trans (len_str g_sig (by decide))) (by omega)
  refine (mSeq_nx ((mFor_ok (ds := (List.range 2).map fun i => D.int (i : Nat)) rfl).trans e2)).trans rfl
theorem ne_self_strs (xs : List Str) : neD (.lst (xs.map D.str)) (.lst (xs.map D.str)) = .ok (.bl false) := neD_self (sim_lst (simpL_strs xs))
theorem sim_told (xs : List Str) : sim (toldD xs) = true := by
  unfold toldD
  by_cases h : 24 < xs.length
  · rw [if_pos h]; rfl
  · rw [if_neg h]
    cases firstBad xs with
    | none => exact sim_tup (simpL_strs _)
    | some k => rfl
theorem isi_told (xs : List Str) : isiD "tuple" (toldD xs) = .ok (.bl true) := by
  have : kitB "tuple" "tuple" = some true := by decide +kernel
  have ht : tyD (toldD xs) = some "tuple" := by
    unfold toldD
    by_cases h : 24 < xs.length
    · rw [if_pos h]; rfl
    · rw [if_neg h]
      cases firstBad xs <;> rfl
  unfold isiD
  rw [ht]
  simp only [this]
theorem law_true : ∀ ns : List Int, ns.length ≤ 63 → ∃ o, f_law [.lst (ns.map D.int)] = .ok (o, .bl true) := by
  intro ns hns
  obtain ⟨cs, hcl, hcr, hd⟩ := drawn_ok ns 0 11 (by decide) (by decide)
  have hd' : f__law_drawn [.lst (ns.map D.int), .int 0, .int 11] = .ok (true, .lst (cs.map D.int)) := hd
  have p0 := Int.emod_nonneg cs[7] (b := 28) (by decide)
  have p1 := Int.emod_lt_of_pos cs[7] (b := 28) (by decide)
  obtain ⟨n, hn⟩ : ∃ n : Nat, cs[7] % 28 = n := ⟨(cs[7] % 28).toNat, by omega⟩
  obtain ⟨xs, hxl, hxg, hx⟩ := strings_ok cs n hcl hcr (by omega)
  have hasc : ∀ x ∈ xs, Asc x := fun x h => gd_asc (hxg x h) (by decide)
  let b : Bool := cs[8] % 2 == 1
  have told : ∀ b : Bool, f__law_told [given b (xs.map D.str)] = .ok (false, toldD xs) := fun b => told_ok b xs hasc (by omega)
  have due : f__law_due [.lst (xs.map D.str)] = .ok (false, toldD xs) := due_ok xs hasc (by omega)
  refine ⟨false, fnS_rt ?_⟩
  unfold b_law
  refine (mSeq_nx (mSet_ok (d := .lst (cs.map D.int)) (mCall_ok (ds := [.lst (ns.map D.int), .int 0, .int 11]) rfl hd'))).trans ?_
  refine (mSeq_nx (mSet_ok (d := .lst (xs.map D.str)) (mCall_ok (ds := [.lst (cs.map D.int), .int n]) (mCons_ok rfl (mCons_ok ?_ rfl)) hx))).trans ?_
  · refine (mod_lit (int_of (cell_at rfl 7 (by omega))) (by decide)).trans ?_
    rw [hn]
  refine (mSeq_nx (mSet_ok (d := .lst (xs.map D.str)) rfl)).trans ?_
  have hb : (m1 truB (m2 eqD (m2 modD (m1 intD (m2 ixD (mOwn 1) (mC (.int 8)))) (mC (.int 2))) (mC (.int 1)))) [Slot.val (.lst (ns.map D.int)), .val (.lst (cs.map D.int)), .val (.lst (xs.map D.str)), .val (.lst (xs.map D.str)), .no] = .ok b := by
    refine (m1_ok (a := D.bl b) ?_).trans rfl
    exact (m2_ok (a := D.int (cs[8] % 2)) (b := D.int 1) (mod_lit (int_of (cell_at rfl 8 (by omega))) (by decide)) rfl).trans (eq_int _ _)
  have hg : (mIfS (m1 truB (m2 eqD (m2 modD (m1 intD (m2 ixD (mOwn 1) (mC (.int 8)))) (mC (.int 2))) (mC (.int 1)))) (mSet 3 (m1 tupleD (mOwn 2))) mNext) [Slot.val (.lst (ns.map D.int)), .val (.lst (cs.map D.int)), .val (.lst (xs.map D.str)), .val (.lst (xs.map D.str)), .no] =
      .nx [Slot.val (.lst (ns.map D.int)), .val (.lst (cs.map D.int)), .val (.lst (xs.map D.str)), .val (given b (xs.map D.str)), .no] := by
    cases hbb : b with
    | true => rw [hbb] at hb; exact (mIf_tt hb).trans (mSet_ok (d := .tup (xs.map D.str)) rfl)
    | false => rw [hbb] at hb; exact (mIf_ff hb).trans rfl
  refine (mSeq_nx hg).trans ?_
  refine (mSeq_nx (mSet_ok (d := toldD xs) (mCall_ok (ds := [given b (xs.map D.str)]) rfl (told b)))).trans ?_
  have hlist : ∀ b : Bool, listD (given b (xs.map D.str)) = .ok (.lst (xs.map D.str)) := fun b => by cases b <;> rfl
  refine (mSeq_nx ((mIf_ff (mOr_ok (a := false) (b := false) ((m1_ok (a := D.bl false) ((m2_ok (a := D.lst (xs.map D.str)) (b := D.lst (xs.map D.str)) (hlist b) rfl).trans (ne_self_strs xs))).trans rfl) (mNot_ok (b := true) ((m1_ok (a := D.bl true) ((m1_ok (a := toldD xs) rfl).trans (isi_told xs))).trans rfl)))).trans rfl)).trans ?_
  refine mRet_ok (mAndV_ok (x := true) (y := true) ?_ fun _ => ?_)
  · exact (m2_ok (a := toldD xs) (b := toldD xs) rfl (mCall_ok (ds := [.lst (xs.map D.str)]) rfl due)).trans (eqD_self (sim_told xs))
  · exact (m2_ok (a := toldD xs) (b := toldD xs) (mCall_ok (ds := [given false (xs.map D.str)]) rfl (told false)) rfl).trans (eqD_self (sim_told xs))
end Gk03

open PySem PySem.W PyProof.Rows
set_option maxHeartbeats 0 in
theorem PySem.Challenge.cw_headless_k03_heads_are_checked_holds : PySem.Challenge.rw_headless_k03_heads_are_checked.Holds := by
  w_on; o_law; k_head; (case hw => w_witness2)
  k_fill
  refine L2.walk_of (l := PySem.Challenge.rw_headless_k03_heads_are_checked) (n := 63) (k := 4) (x := "_law_script") (CX := fun w => L2.CX PySem.Challenge.rw_headless_k03_heads_are_checked.prog w) (sp := Function.const PySem.World (HL.spD ?cl 1 Gk03.f_law)) rfl (by decide) rfl ⟨rfl, by decide, by decide⟩ (fun w h Y => PySem.W.kIn_of Y) ?F ?S (fun _ _ _ _ _ h => HL.cx_end h)
  case F =>
    intro w mg fa h KX G hmg
    refine' Gk03.all_mk KX G hmg ?a0 ?l0 ?c0 ?k0 ?a1 ?l1 ?c1 ?k1 ?a2 ?l2 ?c2 ?k2 ?a3 ?l3 ?c3 ?k3 ?a4 ?l4 ?c4 ?k4 ?a5 ?l5 ?c5 ?k5 ?a6 ?l6 ?c6 ?k6 ?z_int ?z_list ?z_tuple ?z_isinstance ?z_len ?z_range ?z_sorted ?z_str ?z_all ?z_super ?c_MOST_COLUMNS ?ea_TooMany ?el_TooMany ?ei_TooMany ?ef_TooMany ?ec_TooMany ?eL_TooMany ?eb_TooMany ?ea_Unread ?el_Unread ?ei_Unread ?ef_Unread ?ec_Unread ?eL_Unread ?eb_Unread ?ea_BadHead ?el_BadHead ?ei_BadHead ?ef_BadHead ?ec_BadHead ?eL_BadHead ?eb_BadHead ?ea_BadRow ?el_BadRow ?ei_BadRow ?ef_BadRow ?ec_BadRow ?eL_BadRow ?eb_BadRow ?ea_NoTable ?el_NoTable ?ei_NoTable ?ef_NoTable ?ec_NoTable ?eL_NoTable ?eb_NoTable ?ea_Refused ?el_Refused ?ei_Refused ?ef_Refused ?ec_Refused ?eL_Refused ?eb_Refused ?ex
    (case a0 => k_is); (case l0 => k_is); (case c0 => k_is); (case k0 => k_is); (case a1 => k_is); (case l1 => k_is); (case c1 => k_is); (case k1 => k_is); (case a2 => k_is); (case l2 => k_is); (case c2 => k_is); (case k2 => k_is); (case a3 => k_is); (case l3 => k_is); (case c3 => k_is); (case k3 => k_is); (case a4 => k_is); (case l4 => k_is); (case c4 => k_is); (case k4 => k_is); (case a5 => k_is); (case l5 => k_is); (case c5 => k_is); (case k5 => k_is); (case a6 => k_is); (case l6 => k_is); (case c6 => k_is); (case k6 => k_is); (case z_int => k_is); (case z_list => k_is); (case z_tuple => k_is); (case z_isinstance => k_is); (case z_len => k_is); (case z_range => k_is); (case z_sorted => k_is); (case z_str => k_is); (case z_all => k_is); (case z_super => k_is); (case c_MOST_COLUMNS => k_is); (case ea_TooMany => k_is); (case el_TooMany => k_is); (case ei_TooMany => k_is); (case ef_TooMany => k_is); (case ec_TooMany => k_is); (case eL_TooMany => k_is); (case ea_Unread => k_is); (case el_Unread => k_is); (case ei_Unread => k_is); (case ef_Unread => k_is); (case ec_Unread => k_is); (case eL_Unread => k_is); (case ea_BadHead => k_is); (case el_BadHead => k_is); (case ei_BadHead => k_is); (case ef_BadHead => k_is); (case ec_BadHead => k_is); (case eL_BadHead => k_is); (case ea_BadRow => k_is); (case el_BadRow => k_is); (case ei_BadRow => k_is); (case ef_BadRow => k_is); (case ec_BadRow => k_is); (case eL_BadRow => k_is); (case ea_NoTable => k_is); (case el_NoTable => k_is); (case ei_NoTable => k_is); (case ef_NoTable => k_is); (case ec_NoTable => k_is); (case eL_NoTable => k_is); (case ea_Refused => k_is); (case el_Refused => k_is); (case ei_Refused => k_is); (case ef_Refused => k_is); (case ec_Refused => k_is); (case eL_Refused => k_is)
    (case eb_TooMany => kernel_rfl)
    (case eb_Unread => kernel_rfl)
    (case eb_BadHead => kernel_rfl)
    (case eb_BadRow => kernel_rfl)
    (case eb_NoTable => kernel_rfl)
    (case eb_Refused => kernel_rfl)
    (case ex => kernel_rfl)
  case S => exact fun w H a ns h1 h2 h3 => HL.script_ok (by decide) Gk03.law_true (by kernel_rfl) h1 h3
