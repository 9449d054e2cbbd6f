import PyProof.Rows.All
import Wide.All
import OpenK.AllK
import Wide.FinOn
import PyProof.EqAt
import PyProof.EqKinds
import PyProof.TupleCall
import Open.SpecLaws
import KE.OsGo
import HandS.Base
import HandS.Call
import HandS.List
import HandS.Comp
import HandS.Dict
import HandS.Iter
import HandS.Text
import HandS.Exc
import HandS.ExcOwn
import HandS.Words
import HandS.WordsExc
import HandS.IsInst
import HandS.Style
import HandS.TupAny
import HandS.Deep
import HandS.TupLe
import HandS.StrMore
import HandS.StrSplit
import HandS.FStr
import HandS.Replace
import HandS.Rev
import HandS.Zip
import HandS.Conv
import HandS.RaiseMore
import HandS.TupLen
import HandS.More
import HandS.WordsDict
import HandS.TryMany
import KE.KExcSuper
import KE.KSuper
import HandS.ExcField
import HandS.ExcIs
import KE.KExcIs
import HandS.DictComp
import HandS.DictEq
import KE.DataFind
import HandS.Set
import HandS.SetFor
import HandS.Strs
import PyProof.Rows.SetFrom
import PyProof.SetRoads
import PyProof.Rows.DictTallyStr
import PyProof.Rows.SortStr
import HandS.Codes
import HandS.OwnEq
import HandS.SlotsOwn
import KE.KOpsOwn
import HandS.Property
import HandS.Star
import HandS.ReplaceLit
import HandS.ClsMeth
import PyProof.Rows.StrStrike
import PyProof.StrBlock2
import HandS.ForSpec
import PySem.Challenge.RW_headless_k16_texts_of_no_term
set_option Elab.async false
set_option linter.all false
set_option maxRecDepth 100000
set_option maxHeartbeats 4000000
/-! HL: plain data for what a program of tables reckons: each expression is read as a plain function of the names' data. -/
namespace HL
open PySem L2

/-! ### data -/
inductive D where
  | non | bl (b : Bool) | int (i : Int) | str (x : Str)
  | tup (xs : List D) | lst (xs : List D) | dic (t : Bool) (kvs : List (D × D)) | ins (c : Str) (fs : List (Str × D))
/-- an error: its class, its one field, what stands there -/
structure Er where
  cls : Str
  fld : Str
  arg : D
inductive R (α : Type) where
  | ok (a : α) | er (e : Er) | stuck
def R.bind {α β : Type} (r : R α) (k : α → R β) : R β := match r with
  | .ok a => k a
  | .er e => .er e
  | .stuck => .stuck
@[simp] theorem R.bind_ok {α β : Type} {a : α} {k : α → R β} : (R.ok a).bind k = k a := rfl
@[simp] theorem R.bind_er {α β : Type} {e : Er} {k : α → R β} : (R.er e).bind k = .er e := rfl
@[simp] theorem R.bind_stuck {α β : Type} {k : α → R β} : (R.stuck : R α).bind k = .stuck := rfl
/-- only where it raises nothing -/
def R.nr {α : Type} (r : R α) : R α := match r with
  | .ok a => .ok a
  | _ => .stuck
@[simp] theorem R.nr_ok {α : Type} {a : α} : (R.ok a).nr = .ok a := rfl

/-! ### data in an abstract heap of things that stay -/
abbrev Cl := Str → Option Addr
def keyD : D → Option Key
  | .int i => some (.inl i)
  | .str x => some (.inr x)
  | _ => none
def keysD : List D → Option (List Key)
  | [] => some []
  | d :: r => match keyD d, keysD r with
    | some k, some ks => some (k :: ks)
    | _, _ => none
def keyT : D → Option (List Key)
  | .tup xs => keysD xs
  | _ => none
mutual
def Rep (cl : Cl) (F : Hp) : D → V → Prop
  | .non, v => v = .non
  | .bl b, v => v = .bl b
  | .int i, v => v = .int i
  | .str x, v => v = .str x
  | .tup xs, v => ∃ p vs, v = .ref p ∧ F p = some (.tup vs) ∧ RepL cl F xs vs ∧ xs.length ≤ sizeLine
  | .lst xs, v => ∃ p vs, v = .ref p ∧ F p = some (.lst vs) ∧ RepL cl F xs vs ∧ xs.length ≤ sizeLine
  | .dic false kvs, v => ∃ p ks, v = .ref p ∧ F p = some (.dK ks) ∧ RepK cl F kvs ks
  | .dic true kvs, v => ∃ p ks, v = .ref p ∧ F p = some (.dT ks) ∧ RepT cl F kvs ks
  | .ins c fs, v => ∃ p C dx gs, v = .ref p ∧ F p = some (.ins C dx gs) ∧ cl c = some C ∧ RepF cl F fs gs
def RepL (cl : Cl) (F : Hp) : List D → List V → Prop
  | [], vs => vs = []
  | d :: ds, vs => ∃ v r, vs = v :: r ∧ Rep cl F d v ∧ RepL cl F ds r
def RepK (cl : Cl) (F : Hp) : List (D × D) → List (Key × V) → Prop
  | [], ks => ks = []
  | (k, d) :: r, ks => ∃ q v s, ks = (q, v) :: s ∧ keyD k = some q ∧ Rep cl F d v ∧ RepK cl F r s
def RepT (cl : Cl) (F : Hp) : List (D × D) → List (List Key × V) → Prop
  | [], ks => ks = []
  | (k, d) :: r, ks => ∃ q v s, ks = (q, v) :: s ∧ keyT k = some q ∧ Rep cl F d v ∧ RepT cl F r s
def RepF (cl : Cl) (F : Hp) : List (Str × D) → List (Str × V) → Prop
  | [], gs => gs = []
  | (n, d) :: r, gs => ∃ v s, gs = (n, v) :: s ∧ Rep cl F d v ∧ RepF cl F r s
end
/-- what stands at an address, as data -/
def ObjD (cl : Cl) (F : Hp) : D → HO → Prop
  | .tup xs, u => ∃ vs, u = .tup vs ∧ RepL cl F xs vs ∧ xs.length ≤ sizeLine
  | .lst xs, u => ∃ vs, u = .lst vs ∧ RepL cl F xs vs ∧ xs.length ≤ sizeLine
  | .dic false kvs, u => ∃ ks, u = .dK ks ∧ RepK cl F kvs ks
  | .dic true kvs, u => ∃ ks, u = .dT ks ∧ RepT cl F kvs ks
  | .ins c fs, u => ∃ C dx gs, u = .ins C dx gs ∧ cl c = some C ∧ RepF cl F fs gs
  | _, _ => False
/-- what can be changed -/
def mutD : D → Bool
  | .lst _ => true | .dic _ _ => true | .ins _ _ => true | _ => false
def ORep (cl : Cl) (F H : Hp) (p : Addr) (d : D) : Prop := ∃ u, H p = some u ∧ ObjD cl F d u ∧ mutD d = true
def Ext (F F' : Hp) : Prop := ∀ p u, F p = some u → F' p = some u
/-- what is never locked: a tuple, an instance -/
def fixO : HO → Bool
  | .tup _ => true | .ins _ _ _ => true | _ => false
def Sub (F H : Hp) : Prop := ∀ p u, F p = some u → Rd H p u ∧ (fixO u = true → H p = some u)
theorem Sub.rd {F H : Hp} (h : Sub F H) {p : Addr} {u : HO} (e : F p = some u) : Rd H p u := (h p u e).1
theorem Sub.fix {F H : Hp} (h : Sub F H) {p : Addr} {u : HO} (e : F p = some u) (k : fixO u = true := by rfl) : H p = some u := (h p u e).2 k
theorem Ext.refl (F : Hp) : Ext F F := fun _ _ h => h
theorem Ext.trans {F F1 F2 : Hp} (a : Ext F F1) (b : Ext F1 F2) : Ext F F2 := fun p u h => b p u (a p u h)
section
variable {cl : Cl} {F F' : Hp}
mutual
theorem Rep.ext (e : Ext F F') : ∀ {d : D} {v : V}, Rep cl F d v → Rep cl F' d v
  | .non, v, h => by simp only [Rep] at h ⊢; exact h
  | .bl _, v, h => by simp only [Rep] at h ⊢; exact h
  | .int _, v, h => by simp only [Rep] at h ⊢; exact h
  | .str _, v, h => by simp only [Rep] at h ⊢; exact h
  | .tup xs, v, h => by simp only [Rep] at h ⊢; obtain ⟨p, vs, a, b, c, z⟩ := h; exact ⟨p, vs, a, e _ _ b, RepL.ext e c, z⟩
  | .lst xs, v, h => by simp only [Rep] at h ⊢; obtain ⟨p, vs, a, b, c, z⟩ := h; exact ⟨p, vs, a, e _ _ b, RepL.ext e c, z⟩
  | .dic false kvs, v, h => by simp only [Rep] at h ⊢; obtain ⟨p, vs, a, b, c⟩ := h; exact ⟨p, vs, a, e _ _ b, RepK.ext e c⟩
  | .dic true kvs, v, h => by simp only [Rep] at h ⊢; obtain ⟨p, vs, a, b, c⟩ := h; exact ⟨p, vs, a, e _ _ b, RepT.ext e c⟩
  | .ins c fs, v, h => by simp only [Rep] at h ⊢; obtain ⟨p, C, dx, gs, a, b, z, c⟩ := h; exact ⟨p, C, dx, gs, a, e _ _ b, z, RepF.ext e c⟩
theorem RepL.ext (e : Ext F F') : ∀ {ds : List D} {vs : List V}, RepL cl F ds vs → RepL cl F' ds vs
  | [], vs, h => by simp only [RepL] at h ⊢; exact h
  | d :: ds, vs, h => by simp only [RepL] at h ⊢; obtain ⟨v, r, a, b, c⟩ := h; exact ⟨v, r, a, Rep.ext e b, RepL.ext e c⟩
theorem RepK.ext (e : Ext F F') : ∀ {ds : List (D × D)} {vs : List (Key × V)}, RepK cl F ds vs → RepK cl F' ds vs
  | [], vs, h => by simp only [RepK] at h ⊢; exact h
  | (k, d) :: ds, vs, h => by simp only [RepK] at h ⊢; obtain ⟨q, v, r, a, z, b, c⟩ := h; exact ⟨q, v, r, a, z, Rep.ext e b, RepK.ext e c⟩
theorem RepT.ext (e : Ext F F') : ∀ {ds : List (D × D)} {vs : List (List Key × V)}, RepT cl F ds vs → RepT cl F' ds vs
  | [], vs, h => by simp only [RepT] at h ⊢; exact h
  | (k, d) :: ds, vs, h => by simp only [RepT] at h ⊢; obtain ⟨q, v, r, a, z, b, c⟩ := h; exact ⟨q, v, r, a, z, Rep.ext e b, RepT.ext e c⟩
theorem RepF.ext (e : Ext F F') : ∀ {ds : List (Str × D)} {vs : List (Str × V)}, RepF cl F ds vs → RepF cl F' ds vs
  | [], vs, h => by simp only [RepF] at h ⊢; exact h
  | (k, d) :: ds, vs, h => by simp only [RepF] at h ⊢; obtain ⟨v, r, a, b, c⟩ := h; exact ⟨v, r, a, Rep.ext e b, RepF.ext e c⟩
end
theorem ObjD.ext (e : Ext F F') {d : D} {u : HO} (h : ObjD cl F d u) : ObjD cl F' d u := by
  cases d with
  | tup xs => obtain ⟨vs, a, b, c⟩ := h; exact ⟨vs, a, b.ext e, c⟩
  | lst xs => obtain ⟨vs, a, b, c⟩ := h; exact ⟨vs, a, b.ext e, c⟩
  | dic t kvs => cases t with
    | false => obtain ⟨vs, a, b⟩ := h; exact ⟨vs, a, b.ext e⟩
    | true => obtain ⟨vs, a, b⟩ := h; exact ⟨vs, a, b.ext e⟩
  | ins c fs => obtain ⟨C, dx, gs, a, b, c⟩ := h; exact ⟨C, dx, gs, a, b, c.ext e⟩
  | _ => exact h.elim
theorem ObjD.rep {p : Addr} {d : D} {u : HO} (h : ObjD cl F d u) (hp : F p = some u) : Rep cl F d (.ref p) := by
  cases d with
  | tup xs => obtain ⟨vs, rfl, b, c⟩ := h; simp only [Rep]; exact ⟨p, vs, rfl, hp, b, c⟩
  | lst xs => obtain ⟨vs, rfl, b, c⟩ := h; simp only [Rep]; exact ⟨p, vs, rfl, hp, b, c⟩
  | dic t kvs => cases t with
    | false => obtain ⟨vs, rfl, b⟩ := h; simp only [Rep]; exact ⟨p, vs, rfl, hp, b⟩
    | true => obtain ⟨vs, rfl, b⟩ := h; simp only [Rep]; exact ⟨p, vs, rfl, hp, b⟩
  | ins c fs => obtain ⟨C, dx, gs, rfl, b, c⟩ := h; simp only [Rep]; exact ⟨p, C, dx, gs, rfl, hp, b, c⟩
  | _ => exact h.elim
/-- of what is no atom: the address and what stands there -/
def atomD : D → Bool
  | .non => true | .bl _ => true | .int _ => true | .str _ => true | _ => false
theorem Rep.obj {d : D} {v : V} (h : Rep cl F d v) (ha : atomD d = false) : ∃ p u, v = .ref p ∧ F p = some u ∧ ObjD cl F d u := by
  cases d with
  | tup xs => simp only [Rep] at h; obtain ⟨p, vs, a, b, c⟩ := h; exact ⟨p, _, a, b, vs, rfl, c⟩
  | lst xs => simp only [Rep] at h; obtain ⟨p, vs, a, b, c⟩ := h; exact ⟨p, _, a, b, vs, rfl, c⟩
  | dic t kvs => cases t with
    | false => simp only [Rep] at h; obtain ⟨p, vs, a, b, c⟩ := h; exact ⟨p, _, a, b, vs, rfl, c⟩
    | true => simp only [Rep] at h; obtain ⟨p, vs, a, b, c⟩ := h; exact ⟨p, _, a, b, vs, rfl, c⟩
  | ins c fs => simp only [Rep] at h; obtain ⟨p, C, dx, gs, a, b, c⟩ := h; exact ⟨p, _, a, b, C, dx, gs, rfl, c⟩
  | _ => cases ha
theorem Rep.atom {d : D} {v : V} (h : Rep cl F d v) (ha : atomD d = true) : Rep cl F' d v := by
  cases d <;> first | (simp only [Rep] at h ⊢; exact h) | cases ha
end

/-! ### a state: what stays, what is one's own -/
structure Kp (F H F' H' : Hp) : Prop where
  ext : Ext F F'
  same : Same H H'
  fr : ∀ p u, H p = some u → F p = none → F' p = none
theorem Kp.refl (F H : Hp) : Kp F H F H := ⟨Ext.refl F, Same.refl H, fun _ _ _ h => h⟩
theorem Kp.trans {F H F1 H1 F2 H2 : Hp} (a : Kp F H F1 H1) (b : Kp F1 H1 F2 H2) : Kp F H F2 H2 :=
  ⟨a.ext.trans b.ext, a.same.trans b.same, fun p u h n => b.fr p u (a.same p u h) (a.fr p u h n)⟩
inductive Slot where
  | no | val (d : D) | own (d : D) | lent (d : D) | bor (d : D)
abbrev HEnv := List Slot
/-- one's own, lent or not -/
def oL : Slot → Option D
  | .own d => some d
  | .lent d => some d
  | _ => none
theorem oL_own {env : HEnv} {i : Nat} {d : D} (h : env[i]? = some (Slot.own d)) : env[i]?.bind oL = some d := by rw [h]; rfl
theorem oL_lent {env : HEnv} {i : Nat} {d : D} (h : env[i]? = some (Slot.lent d)) : env[i]?.bind oL = some d := by rw [h]; rfl
/-- the ground: the heap of things that stay at the start, and where the lent slots' things lie -/
abbrev Bs := Hp × (Nat → Option Addr)
theorem rdAt {H : Hp} {p : Addr} {u : HO} (h : Rd H p u) : ∃ w, H p = some w := by
  rcases h with h | ⟨o, h⟩
  · exact ⟨_, h⟩
  · exact ⟨_, h⟩
theorem rdKp {H H' : Hp} {p : Addr} {u : HO} (k : Same H H') (h : Rd H p u) : Rd H' p u := by
  rcases h with h | ⟨o, h⟩
  · exact .inl (k p u h)
  · exact .inr ⟨o, k p _ h⟩
/-- nothing that is locked is data -/
theorem ObjD.nofrz {cl : Cl} {F : Hp} {d : D} {u : HO} (h : ObjD cl F d u) (o : Obj) (w : HO) : u ≠ .frz o w := by
  intro e
  subst e
  cases d with
  | tup xs => obtain ⟨vs, a, _⟩ := h; cases a
  | lst xs => obtain ⟨vs, a, _⟩ := h; cases a
  | dic t kvs => cases t with
    | false => obtain ⟨vs, a, _⟩ := h; cases a
    | true => obtain ⟨vs, a, _⟩ := h; cases a
  | ins c fs =>
    obtain ⟨C, dx, gs, a, _⟩ := h
    cases a
  | _ => exact h.elim
theorem rdUniq {cl : Cl} {F F' H : Hp} {p : Addr} {d e : D} {u w : HO} (h : Rd H p u) (h' : Rd H p w) (o : ObjD cl F d u) (o' : ObjD cl F' e w) : u = w := by
  rcases h with h | ⟨x, h⟩
  · rcases h' with h' | ⟨y, h'⟩
    · rw [h] at h'
      exact Option.some.inj h'
    · rw [h] at h'
      exact (o.nofrz y w (Option.some.inj h')).elim
  · rcases h' with h' | ⟨y, h'⟩
    · rw [h] at h'
      exact (o'.nofrz x u (Option.some.inj h').symm).elim
    · rw [h] at h'
      have := Option.some.inj h'
      cases this
      rfl
structure HSt (cl : Cl) (F0 : Bs) (H0 F : Hp) (env : HEnv) (σ : L2.St) (H : Hp) : Prop where
  len : σ.length = env.length
  sub : Sub F H
  kp : Kp F0.1 H0 F H
  val : ∀ (i : Nat) (d : D), env[i]? = some (Slot.val d) → ∃ v, σ[i]? = some (some v) ∧ Rep cl F d v
  own : ∀ (i : Nat) (d : D), env[i]?.bind oL = some d → ∃ p, σ[i]? = some (some (V.ref p)) ∧ F p = none ∧ H0 p = none ∧ ORep cl F H p d
  lnt : ∀ (i : Nat) (d : D), env[i]? = some (Slot.lent d) → ∃ p, F0.2 i = some p ∧ σ[i]? = some (some (V.ref p))
  bor : ∀ (i : Nat) (d : D), env[i]? = some (Slot.bor d) → ∃ p u, σ[i]? = some (some (V.ref p)) ∧ F p = none ∧ Rd H0 p u ∧ ObjD cl F d u ∧ mutD d = true
  dis : ∀ (i j : Nat) (d e : D) (p : Addr), env[i]?.bind oL = some d → env[j]?.bind oL = some e → σ[i]? = some (some (V.ref p)) → σ[j]? = some (some (V.ref p)) → i = j
theorem ORep.kp {cl : Cl} {F H F' H' : Hp} {p : Addr} {d : D} (k : Kp F H F' H') (h : ORep cl F H p d) : ORep cl F' H' p d := by
  obtain ⟨u, a, b, c⟩ := h
  exact ⟨u, k.same p u a, b.ext k.ext, c⟩
theorem HSt.step {cl : Cl} {F0 : Bs} {H0 F F' : Hp} {env : HEnv} {σ : L2.St} {H H' : Hp} (s : HSt cl F0 H0 F env σ H) (k : Kp F H F' H') (hs : Sub F' H') : HSt cl F0 H0 F' env σ H' := by
  refine ⟨s.len, hs, s.kp.trans k, fun i d h => ?_, fun i d h => ?_, s.lnt, fun i d h => ?_, s.dis⟩
  · obtain ⟨v, a, b⟩ := s.val i d h
    exact ⟨v, a, b.ext k.ext⟩
  · obtain ⟨p, a, b, c, e⟩ := s.own i d h
    obtain ⟨u, hu, _⟩ := id e
    exact ⟨p, a, k.fr p u hu b, c, e.kp k⟩
  · obtain ⟨p, u, a, b, c, e, m⟩ := s.bor i d h
    obtain ⟨w, hw⟩ := rdAt (rdKp s.kp.same c)
    exact ⟨p, u, a, k.fr p w hw b, c, e.ext k.ext, m⟩
/-- a borrowed thing: one that stays, or one's own -/
def BRep (cl : Cl) (F H : Hp) (d : D) (v : V) : Prop := Rep cl F d v ∨ ∃ p, v = .ref p ∧ F p = none ∧ ∃ u, Rd H p u ∧ ObjD cl F d u ∧ mutD d = true
theorem BRep.kp {cl : Cl} {F H F' H' : Hp} {d : D} {v : V} (k : Kp F H F' H') (h : BRep cl F H d v) : BRep cl F' H' d v := by
  rcases h with h | ⟨p, a, b, c⟩
  · exact .inl (h.ext k.ext)
  · obtain ⟨u, hu, e, m⟩ := c
    obtain ⟨w, hw⟩ := rdAt hu
    exact .inr ⟨p, a, k.fr p w hw b, u, rdKp k.same hu, e.ext k.ext, m⟩
/-- the object of a borrowed thing -/
theorem BRep.obj {cl : Cl} {F H : Hp} {d : D} {v : V} (hs : Sub F H) (h : BRep cl F H d v) (ha : atomD d = false) : ∃ p u, v = .ref p ∧ Rd H p u ∧ ObjD cl F d u := by
  rcases h with h | ⟨p, a, b, u, c, e⟩
  · obtain ⟨p, u, a, b, c⟩ := h.obj ha
    exact ⟨p, u, a, hs.rd b, c⟩
  · exact ⟨p, u, a, c, e.1⟩
theorem BRep.atom {cl : Cl} {F H F' : Hp} {d : D} {v : V} (h : BRep cl F H d v) (ha : atomD d = true) : Rep cl F' d v := by
  rcases h with h | ⟨p, a, b, u, c, e⟩
  · exact h.atom ha
  · cases d <;> first | exact e.1.elim | cases ha
/-- a new thing becomes one that stays -/
theorem freezeO {cl : Cl} {F0 H0 F H : Hp} {p : Addr} {d : D} {u : HO} (k : Kp F0 H0 F H) (hs : Sub F H) (h0 : H0 p = none) (hf : F p = none) (hu : H p = some u) (ob : ObjD cl F d u) :
    ∃ F', Ext F F' ∧ Kp F0 H0 F' H ∧ Sub F' H ∧ Rep cl F' d (.ref p) ∧ ∀ q, q ≠ p → F' q = F q := by
  have ex : Ext F (upd F p u) := fun q w e => by
    rw [upd_ne (fun z => by rw [z, hf] at e; cases e)]
    exact e
  refine ⟨upd F p u, ex, ⟨k.ext.trans ex, k.same, fun q w e n => ?_⟩, fun q w e => ?_, (ob.ext ex).rep upd_same, fun q hq => upd_ne hq⟩
  · rw [upd_ne (fun z => by rw [z, h0] at e; cases e)]
    exact k.fr q w e n
  · by_cases hq : q = p
    · subst hq
      rw [upd_same] at e
      cases e
      exact ⟨.inl hu, fun _ => hu⟩
    · rw [upd_ne hq] at e
      exact hs q w e

theorem freeze {cl : Cl} {F0 H0 F H : Hp} {p : Addr} {d : D} (k : Kp F0 H0 F H) (hs : Sub F H) (h0 : H0 p = none) (hf : F p = none) (ho : ORep cl F H p d) :
    ∃ F', Ext F F' ∧ Kp F0 H0 F' H ∧ Sub F' H ∧ Rep cl F' d (.ref p) ∧ ∀ q, q ≠ p → F' q = F q := by
  obtain ⟨u, hu, ob, _⟩ := ho
  exact freezeO k hs h0 hf hu ob

/-! ### an exception in the abstract heap -/
def ERep (cl : Cl) (H : Hp) (e : Er) (cls : Value) (dd : Option Addr) : Prop :=
  ∃ C dx v, cls = .ref C ∧ cl e.cls = some C ∧ dd = some dx ∧ H dx = some (.xd [(e.fld, v)]) ∧ Rep cl (fun _ => none) e.arg v
abbrev WX := Value → Option Addr → L2.St → Hp → Prop
def WNo : WX := fun _ _ _ _ => False

/-! ### readings -/
section
variable {α β γ δ : Type}
abbrev Rel (α β : Type) := Hp → Hp → Hp → α → β → Prop
def PostG (cl : Cl) (rel : Rel α β) (W : WX) (r : R α) (F : Hp) (σ : L2.St) (H : Hp) (Q : β → Hp → Prop) : Prop := match r with
  | .ok d => ∀ v F' H', Kp F H F' H' → Sub F' H' → rel H F' H' d v → Q v H'
  | .er e => ∀ cls dd F' H', Kp F H F' H' → Sub F' H' → ERep cl H' e cls dd → W cls dd σ H'
  | .stuck => False
def tG (cl : Cl) (rel : Rel α β) (W : WX) (m : HEnv → R α) : L2.St → Hp → (β → Hp → Prop) → Prop := fun σ H Q =>
  ∃ F0 H0 F env, HSt cl F0 H0 F env σ H ∧ PostG cl rel W (m env) F σ H Q
/-- a relation that holds no less of an elder start -/
def Old (rel : Rel α β) : Prop := ∀ H H1 F' H' d v, Same H H1 → rel H1 F' H' d v → rel H F' H' d v
/-- a relation that is carried on -/
def Carry (rel : Rel α β) : Prop := ∀ Hs Hs' F H F' H' d v, Kp F H F' H' → rel Hs F H d v → rel Hs' F' H' d v
theorem PostG.step {cl : Cl} {rel : Rel α β} {W : WX} {r : R α} {F F1 : Hp} {σ : L2.St} {H H1 : Hp} {Q : β → Hp → Prop} (ho : Old rel) (h : PostG cl rel W r F σ H Q) (k : Kp F H F1 H1) : PostG cl rel W r F1 σ H1 Q := by
  cases r with
  | ok d => exact fun v F' H' k' hs hr => h v F' H' (k.trans k') hs (ho _ _ _ _ _ _ k.same hr)
  | er e => exact fun cls dd F' H' k' hs hr => h cls dd F' H' (k.trans k') hs hr
  | stuck => exact h
theorem bindG {cl : Cl} {rel : Rel α β} {rel' : Rel γ δ} {W : WX} {m : HEnv → R α} {k : α → HEnv → R γ} {σ : L2.St} {H : Hp} {Q : δ → Hp → Prop} {Q1 : β → Hp → Prop} (ho : Old rel')
    (h : tG cl rel' W (fun env => (m env).bind fun d => k d env) σ H Q)
    (hk : ∀ d v F0 H0 F1 env Hs H1, HSt cl F0 H0 F1 env σ H1 → rel Hs F1 H1 d v → PostG cl rel' W (k d env) F1 σ H1 Q → Q1 v H1) : tG cl rel W m σ H Q1 := by
  obtain ⟨F0, H0, F, env, s, h⟩ := h
  refine ⟨F0, H0, F, env, s, ?_⟩
  replace h : PostG cl rel' W ((m env).bind fun d => k d env) F σ H Q := h
  cases e : m env with
  | ok d =>
    rw [e] at h
    exact fun v F' H' kp hs hr => hk d v F0 H0 F' env H H' (s.step kp hs) hr (PostG.step ho h kp)
  | er x =>
    rw [e] at h
    exact h
  | stuck =>
    rw [e] at h
    exact h.elim
theorem tG.mono {cl : Cl} {rel rel1 : Rel α β} {W : WX} {m : HEnv → R α} {σ : L2.St} {H : Hp} {Q : β → Hp → Prop} (hr : ∀ Hs F H d v, rel1 Hs F H d v → rel Hs F H d v) (h : tG cl rel W m σ H Q) : tG cl rel1 W m σ H Q := by
  obtain ⟨F0, H0, F, env, s, h⟩ := h
  refine ⟨F0, H0, F, env, s, ?_⟩
  cases e : m env with
  | ok d =>
    rw [e] at h
    exact fun v F' H' kp hs q => h v F' H' kp hs (hr _ _ _ _ _ q)
  | er x =>
    rw [e] at h
    exact h
  | stuck =>
    rw [e] at h
    exact h
end
def relF (cl : Cl) : Rel D V := fun _ F _ d v => Rep cl F d v
def relB (cl : Cl) : Rel D V := fun _ F H d v => BRep cl F H d v
def relN (cl : Cl) : Rel D V := fun Hs F H d v => ∃ p, v = .ref p ∧ Hs p = none ∧ F p = none ∧ ORep cl F H p d
def relA (cl : Cl) : Rel (List D) (List V) := fun _ F _ ds vs => RepL cl F ds vs
def relT : Rel Bool Bool := fun _ _ _ b c => c = b
abbrev tF (cl : Cl) (W : WX) (m : HEnv → R D) : TE := tG cl (relF cl) W m
abbrev tB (cl : Cl) (W : WX) (m : HEnv → R D) : TE := tG cl (relB cl) W m
abbrev tN (cl : Cl) (W : WX) (m : HEnv → R D) : TE := tG cl (relN cl) W m
abbrev tA (cl : Cl) (W : WX) (m : HEnv → R (List D)) : TA := tG cl (relA cl) W m
abbrev tT (cl : Cl) (W : WX) (m : HEnv → R Bool) : TT := tG cl relT W m
theorem oldF {cl : Cl} : Old (relF cl) := fun _ _ _ _ _ _ _ h => h
theorem oldB {cl : Cl} : Old (relB cl) := fun _ _ _ _ _ _ _ h => h
theorem oldA {cl : Cl} : Old (relA cl) := fun _ _ _ _ _ _ _ h => h
theorem oldT : Old relT := fun _ _ _ _ _ _ _ h => h
theorem oldN {cl : Cl} : Old (relN cl) := fun H H1 F' H' d v k ⟨p, a, b, c⟩ => ⟨p, a, k.free b, c⟩
theorem carF {cl : Cl} : Carry (relF cl) := fun _ _ _ _ _ _ _ _ k h => Rep.ext k.ext h
theorem carB {cl : Cl} : Carry (relB cl) := fun _ _ _ _ _ _ _ _ k h => BRep.kp k h
theorem carA {cl : Cl} : Carry (relA cl) := fun _ _ _ _ _ _ _ _ k h => RepL.ext k.ext h
theorem carT : Carry relT := fun _ _ _ _ _ _ _ _ _ h => h

/-! ### the judgements -/
section
variable {X : Cx} {cl : Cl} {W : WX}
theorem pe_weak {e : Expr} {t t' : TE} (h : PE X e t) (w : ∀ σ H Q, t' σ H Q → t σ H Q) : PE X e t' := ⟨fun pins s σ H Q I q => h.run pins s σ H Q I (w σ H Q q)⟩
theorem pt_weak {e : Expr} {t t' : TT} (h : PT X e t) (w : ∀ σ H Q, t' σ H Q → t σ H Q) : PT X e t' := ⟨fun pins s σ H Q I q => h.run pins s σ H Q I (w σ H Q q)⟩
theorem pw_weak {e : Expr} {t t' : TT} (h : PW X e t) (w : ∀ σ H Q, t' σ H Q → t σ H Q) : PW X e t' := ⟨fun wh pins s σ H Q I q => h.run wh pins s σ H Q I (w σ H Q q)⟩
theorem pa_weak {e : List Expr} {t t' : TA} (h : PA X e t) (w : ∀ σ H Q, t' σ H Q → t σ H Q) : PA X e t' := ⟨fun pos pins s σ H Q I q => h.run pos pins s σ H Q I (w σ H Q q)⟩
theorem ps_weak {e : Stmt} {t t' : TS} (h : PS X e t) (w : ∀ D σ H, t' D σ H → t D σ H) : PS X e t' := ⟨fun pins s σ H D I q => h.run pins s σ H D I (w D σ H q)⟩
theorem pss_weak {e : List Stmt} {t t' : TS} (h : PSs X e t) (w : ∀ D σ H, t' D σ H → t D σ H) : PSs X e t' := ⟨fun pins s σ H D I q => h.run pins s σ H D I (w D σ H q)⟩
/-- what stays may be borrowed; what is new may stay -/
theorem fb {e : Expr} {m : HEnv → R D} (h : PE X e (tF cl W m)) : PE X e (tB cl W m) := pe_weak h fun _ _ _ q => tG.mono (fun _ _ _ _ _ z => .inl z) q
theorem nf_read {m : HEnv → R D} {σ : L2.St} {H : Hp} {Q : VK} (q : tF cl W m σ H Q) : tN cl W m σ H Q := by
  obtain ⟨F0, H0, F, env, s, q⟩ := q
  refine ⟨F0, H0, F, env, s, ?_⟩
  cases e : m env with
  | ok d =>
    rw [e] at q
    intro v F' H' kp hs ⟨p, ev, h0, hf, ho⟩
    obtain ⟨F2, _, k2, s2, r2, _⟩ := freeze kp hs h0 hf ho
    subst ev
    exact q _ F2 H' k2 s2 r2
  | er x =>
    rw [e] at q
    exact q
  | stuck =>
    rw [e] at q
    exact q
theorem nf {e : Expr} {m : HEnv → R D} (h : PE X e (tN cl W m)) : PE X e (tF cl W m) := pe_weak h fun σ H Q q => nf_read q
theorem nb {e : Expr} {m : HEnv → R D} (h : PE X e (tN cl W m)) : PE X e (tB cl W m) := fb (nf h)
end

/-! ### operations on data, in a row -/
def m1 {α β : Type} (f : α → R β) (m : HEnv → R α) : HEnv → R β := fun env => (m env).bind f
def m2 {α β γ : Type} (f : α → β → R γ) (ma : HEnv → R α) (mb : HEnv → R β) : HEnv → R γ := fun env => (ma env).bind fun a => (mb env).bind fun b => f a b
section
variable {cl : Cl} {W : WX} {α β γ δ α' β' : Type}
theorem read1 {rel : Rel α α'} {rel' : Rel γ δ} {f : α → R γ} {m : HEnv → R α} {r : α' → Hp → (δ → Hp → Prop) → Prop} {σ : L2.St} {H : Hp} {Q : δ → Hp → Prop} (ho : Old rel')
    (hr : ∀ Hs F H d v Q σ, Sub F H → rel Hs F H d v → PostG cl rel' W (f d) F σ H Q → r v H Q) (h : tG cl rel' W (m1 f m) σ H Q) : tG cl rel W m σ H (fun x H1 => r x H1 Q) :=
  bindG (k := fun d _ => f d) ho h fun d v F0 H0 F1 env Hs H1 s r1 p => hr _ _ _ _ _ _ _ s.sub r1 p
theorem read2 {rel : Rel α α'} {rel1 : Rel β β'} {rel' : Rel γ δ} {f : α → β → R γ} {ma : HEnv → R α} {mb : HEnv → R β} {r : α' → β' → Hp → (δ → Hp → Prop) → Prop} {σ : L2.St} {H : Hp} {Q : δ → Hp → Prop} (ho : Old rel') (hc : Carry rel)
    (hr : ∀ Hs F H d v e u Q σ, Sub F H → rel Hs F H d v → rel1 Hs F H e u → PostG cl rel' W (f d e) F σ H Q → r v u H Q) (h : tG cl rel' W (m2 f ma mb) σ H Q) :
    tG cl rel W ma σ H (fun x H1 => tG cl rel1 W mb σ H1 fun y H2 => r x y H2 Q) := by
  refine bindG (k := fun a env => (mb env).bind fun b => f a b) ho h fun d v F0 H0 F1 env Hs H1 s r1 p => ?_
  refine ⟨F0, H0, F1, env, s, ?_⟩
  cases e : mb env with
  | ok b =>
    rw [e] at p
    intro u F2 H2 k2 s2 r2
    exact hr H1 F2 H2 d v b u Q σ s2 (hc _ _ _ _ _ _ _ _ k2 r1) r2 (PostG.step ho p k2)
  | er x =>
    rw [e] at p
    exact p
  | stuck =>
    rw [e] at p
    exact p.elim
theorem sub_none {F H : Hp} {p : Addr} (hs : Sub F H) (h : H p = none) : F p = none := by
  cases e : F p with
  | none => rfl
  | some u =>
    rcases hs.rd e with q | ⟨o, q⟩
    · rw [h] at q; cases q
    · rw [h] at q; cases q
theorem sub_upd {F H : Hp} {p : Addr} {u : HO} (hs : Sub F H) (h : F p = none) : Sub F (upd H p u) := fun q w e => by
  have hq : q ≠ p := fun z => by rw [z, h] at e; cases e
  refine ⟨?_, fun k => by rw [upd_ne hq]; exact hs.fix e k⟩
  rcases hs.rd e with z | ⟨o, z⟩
  · exact .inl (by rw [upd_ne hq]; exact z)
  · exact .inr ⟨o, by rw [upd_ne hq]; exact z⟩
theorem kp_new {F H : Hp} {p : Addr} {u : HO} (h : H p = none) : Kp F H F (upd H p u) :=
  ⟨Ext.refl F, fun q w e => by rw [upd_ne (ne_of_none e h)]; exact e, fun _ _ _ n => n⟩
theorem PostG.done {rel : Rel α β} {F H : Hp} {σ : L2.St} {d : α} {v : β} {Q : β → Hp → Prop} (h : PostG cl rel W (.ok d) F σ H Q) (hs : Sub F H) (r : rel H F H d v) : Q v H := h v F H (Kp.refl F H) hs r
/-- a new object -/
theorem PostG.new {F H : Hp} {σ : L2.St} {d : D} {p : Addr} {u : HO} {Q : VK} (h : PostG cl (relN cl) W (.ok d) F σ H Q) (hs : Sub F H) (hp : H p = none) (o : ObjD cl F d u) (hm : mutD d = true := by rfl) : Q (.ref p) (upd H p u) :=
  h _ F _ (kp_new hp) (sub_upd hs (sub_none hs hp)) ⟨p, rfl, hp, sub_none hs hp, u, upd_same, o, hm⟩
/-- .. that stays -/
theorem PostG.newF {F H : Hp} {σ : L2.St} {d : D} {p : Addr} {u : HO} {Q : VK} (h : PostG cl (relF cl) W (.ok d) F σ H Q) (hs : Sub F H) (hp : H p = none) (o : ObjD cl F d u) : Q (.ref p) (upd H p u) := by
  have hf := sub_none hs hp
  obtain ⟨F2, x2, k2, s2, r2, _⟩ := freezeO (kp_new (u := u) hp) (sub_upd hs hf) hp hf upd_same o
  exact h _ F2 _ k2 s2 r2
end

/-! ### arguments and displays -/
def mNil : HEnv → R (List D) := fun _ => .ok []
def mCons (m : HEnv → R D) (ms : HEnv → R (List D)) : HEnv → R (List D) := m2 (fun d ds => .ok (d :: ds)) m ms
section
variable {X : Cx} {cl : Cl} {W : WX} {e : Expr} {es : List Expr} {pos : Pos} {m : HEnv → R D} {ms : HEnv → R (List D)}
theorem da_nil : PA X [] (tA cl W mNil) := pa_weak pa_nil fun σ H Q ⟨F0, H0, F, env, s, h⟩ => PostG.done (rel := relA cl) h s.sub (by simp only [relA, RepL])
theorem da_cons (h : PE X e (tF cl W m)) (hr : PA X es (tA cl W ms)) (hs : starEach (e :: es) X.env = (false, eval e X.env) :: starEach es X.env := by rfl) : PA X (e :: es) (tA cl W (mCons m ms)) := by
  refine pa_weak (pa_cons h hr hs) fun σ H Q q => ?_
  refine read2 (rel := relF cl) (rel1 := relA cl) (r := fun x xs H Q => Q (x :: xs) H) oldA carF (fun Hs F H d v ds vs Q σ s r1 r2 p => ?_) q
  exact PostG.done p s (by simp only [relA, RepL]; exact ⟨v, vs, rfl, r1, r2⟩)
end
theorem RepL.len {cl : Cl} {F : Hp} : ∀ {ds : List D} {vs : List V}, RepL cl F ds vs → vs.length = ds.length
  | [], vs, h => by simp only [RepL] at h; rw [h]; rfl
  | d :: ds, vs, h => by
    simp only [RepL] at h
    obtain ⟨v, r, rfl, _, q⟩ := h
    simp [RepL.len q]
theorem RepL.at {cl : Cl} {F : Hp} : ∀ {ds : List D} {vs : List V} {i : Nat} {d : D}, RepL cl F ds vs → ds[i]? = some d → ∃ v, vs[i]? = some v ∧ Rep cl F d v
  | [], vs, i, d, h, e => by simp at e
  | c :: ds, vs, 0, d, h, e => by
    simp only [RepL] at h
    obtain ⟨v, r, rfl, a, q⟩ := h
    simp only [List.getElem?_cons_zero, Option.some.injEq] at e
    subst e
    exact ⟨v, rfl, a⟩
  | c :: ds, vs, i + 1, d, h, e => by
    simp only [RepL] at h
    obtain ⟨v, r, rfl, a, q⟩ := h
    simp only [List.getElem?_cons_succ] at e ⊢
    exact RepL.at q e
theorem RepL.app {cl : Cl} {F : Hp} : ∀ {ds es : List D} {vs us : List V}, RepL cl F ds vs → RepL cl F es us → RepL cl F (ds ++ es) (vs ++ us)
  | [], es, vs, us, h, q => by simp only [RepL] at h; subst h; exact q
  | d :: ds, es, vs, us, h, q => by
    simp only [RepL] at h
    obtain ⟨v, r, rfl, a, z⟩ := h
    simp only [List.cons_append, RepL]
    exact ⟨v, r ++ us, rfl, a, RepL.app z q⟩
def mTupE (ms : HEnv → R (List D)) : HEnv → R D := m1 (fun ds => .ok (.tup ds)) ms
def mLstE (ms : HEnv → R (List D)) : HEnv → R D := m1 (fun ds => .ok (.lst ds)) ms
section
variable {X : Cx} {cl : Cl} {W : WX} {es : List Expr} {pos : Pos} {ms : HEnv → R (List D)} {x1 : _}
theorem few_line {n : Nat} (h : decide (n ≤ 60) = true) : n ≤ sizeLine := by
  have := of_decide_eq_true h
  rw [sizeLine_eq]
  omega
inductive Ln : (HEnv → R (List D)) → Nat → Prop where
  | nil : Ln mNil 0
  | cons {m : HEnv → R D} {ms : HEnv → R (List D)} {n : Nat} (h : Ln ms n) : Ln (mCons m ms) (n + 1)
theorem Ln.len {ms : HEnv → R (List D)} {n : Nat} (h : Ln ms n) : ∀ {env : HEnv} {ds : List D}, ms env = .ok ds → ds.length = n := by
  induction h with
  | nil =>
    intro env ds e
    cases e
    rfl
  | cons h ih =>
    rename_i m ms n
    intro env ds e
    simp only [mCons, m2] at e
    cases e1 : m env with
    | ok a =>
      rw [e1] at e
      cases e2 : ms env with
      | ok b =>
        rw [e2] at e
        cases e
        simp [ih e2]
      | er x => rw [e2] at e; cases e
      | stuck => rw [e2] at e; cases e
    | er x => rw [e1] at e; cases e
    | stuck => rw [e1] at e; cases e
theorem read1L {n : Nat} {f : List D → D} {r : List V → Hp → VK → Prop} {σ : L2.St} {H : Hp} {Q : VK} (hl : Ln ms n)
    {rel : Rel D V} (ho : Old rel) (hr : ∀ F H ds vs Q σ, Sub F H → RepL cl F ds vs → ds.length = n → PostG cl rel W (.ok (f ds)) F σ H Q → r vs H Q) (h : tG cl rel W (m1 (fun ds => .ok (f ds)) ms) σ H Q) : tA cl W ms σ H (fun x H1 => r x H1 Q) := by
  obtain ⟨F0, H0, F, env, s, h⟩ := h
  refine ⟨F0, H0, F, env, s, ?_⟩
  simp only [m1] at h
  cases e : ms env with
  | ok d =>
    rw [e] at h
    exact fun v F' H' kp hs q => hr F' H' d v Q σ hs q (hl.len e) (PostG.step ho h kp)
  | er x =>
    rw [e] at h
    exact h
  | stuck =>
    rw [e] at h
    exact h.elim
theorem de_tup (h : PA X es (tA cl W ms)) {n : Nat} (hl : Ln ms n := by repeat constructor) (hz : decide (n ≤ 60) = true := by rfl) : PE X (.Tuple es x1 pos) (tF cl W (mTupE ms)) := by
  refine pe_weak (pe_tup h) fun σ H Q q => ?_
  refine read1L (f := fun ds => .tup ds) (r := fun xs H1 Q => xs.length ≤ sizeLine ∧ ∀ p, H1 p = none → Q (.ref p) (upd H1 p (.tup xs))) hl oldF (fun F H ds vs Q σ s r e p => ?_) q
  have z : ds.length ≤ sizeLine := by rw [e]; exact few_line hz
  exact ⟨by rw [r.len]; exact z, fun a ha => PostG.newF p s ha ⟨vs, rfl, r, z⟩⟩
theorem de_lst (h : PA X es (tA cl W ms)) {n : Nat} (hl : Ln ms n := by repeat constructor) (hz : decide (n ≤ 60) = true := by rfl) : PE X (.List es pos) (tN cl W (mLstE ms)) := by
  refine pe_weak (pe_lst h) fun σ H Q q => ?_
  refine read1L (f := fun ds => .lst ds) (r := fun xs H1 Q => xs.length ≤ sizeLine ∧ ∀ p, H1 p = none → Q (.ref p) (upd H1 p (.lst xs))) hl oldN (fun F H ds vs Q σ s r e p => ?_) q
  have z : ds.length ≤ sizeLine := by rw [e]; exact few_line hz
  exact ⟨by rw [r.len]; exact z, fun a ha => PostG.new p s ha ⟨vs, rfl, r, z⟩⟩
end

/-! ### names, constants -/
def mVar (i : Nat) : HEnv → R D := fun env => match env[i]? with
  | some (.val d) => .ok d
  | _ => .stuck
/-- a name whose thing is one's own, borrowed -/
def mOwn (i : Nat) : HEnv → R D := fun env => match env[i]? with
  | some (.own d) => .ok d
  | some (.lent d) => .ok d
  | some (.bor d) => .ok d
  | some (.val d) => .ok d
  | _ => .stuck
def mC (d : D) : HEnv → R D := fun _ => .ok d
section
variable {X : Cx} {cl : Cl} {W : WX} {pos : Pos}
theorem d_var {e : Expr} {i : Nat} (h : PE X e (tVar i)) : PE X e (tF cl W (mVar i)) := by
  refine pe_weak h fun σ H Q ⟨F0, H0, F, env, s, q⟩ => ?_
  unfold mVar at q
  split at q
  · rename_i d e
    obtain ⟨v, a, b⟩ := s.val i d e
    exact ⟨v, a, PostG.done q s.sub b⟩
  · exact q.elim
theorem d_own {e : Expr} {i : Nat} (h : PE X e (tVar i)) : PE X e (tB cl W (mOwn i)) := by
  refine pe_weak h fun σ H Q ⟨F0, H0, F, env, s, q⟩ => ?_
  unfold mOwn at q
  split at q
  · rename_i d e
    obtain ⟨p, a, b, c, u, o1, o2⟩ := s.own i d (oL_own e)
    exact ⟨_, a, PostG.done q s.sub (.inr ⟨p, rfl, b, u, .inl o1, o2⟩)⟩
  · rename_i d e
    obtain ⟨p, a, b, c, u, o1, o2⟩ := s.own i d (oL_lent e)
    exact ⟨_, a, PostG.done q s.sub (.inr ⟨p, rfl, b, u, .inl o1, o2⟩)⟩
  · rename_i d e
    obtain ⟨p, u, a, b, c, o, m⟩ := s.bor i d e
    exact ⟨_, a, PostG.done q s.sub (.inr ⟨p, rfl, b, u, rdKp s.kp.same c, o, m⟩)⟩
  · rename_i d e
    obtain ⟨v, a, b⟩ := s.val i d e
    exact ⟨v, a, PostG.done q s.sub (.inl b)⟩
  · exact q.elim
/-- constants -/
def vD : D → Option V
  | .non => some .non
  | .bl b => some (.bl b)
  | .int i => some (.int i)
  | .str x => some (.str x)
  | _ => none
theorem vD_rep {F : Hp} {d : D} {v : V} (h : vD d = some v) : Rep cl F d v := by
  cases d <;> first | (cases h; simp only [Rep]) | cases h
theorem d_c {e : Expr} {d : D} {v : V} (h : PE X e (tC v)) (hv : vD d = some v := by rfl) : PE X e (tF cl W (mC d)) :=
  pe_weak h fun σ H Q ⟨F0, H0, F, env, s, q⟩ => PostG.done q s.sub (vD_rep hv)
end

/-! ### statements -/
inductive SO where
  | nx (e : HEnv) | rt (own : Bool) (d : D) | er (x : Er) (e : HEnv) | bk (e : HEnv) | ct (e : HEnv) | stuck
def RetR (cl : Cl) (H0 F H : Hp) (o : Bool) (d : D) (v : V) : Prop := if o = true then relN cl H0 F H d v else Rep cl F d v
def PostS (cl : Cl) (W : WX) (Dn : Ends) (F0 : Bs) (H0 F : Hp) : SO → Prop
  | .nx e => ∀ σ F' H', Ext F F' → HSt cl F0 H0 F' e σ H' → Dn.nx σ H'
  | .bk e => ∀ σ F' H', Ext F F' → HSt cl F0 H0 F' e σ H' → Dn.bk σ H'
  | .ct e => ∀ σ F' H', Ext F F' → HSt cl F0 H0 F' e σ H' → Dn.ct σ H'
  | .rt o d => ∀ v F' H', Kp F0.1 H0 F' H' → Sub F' H' → RetR cl H0 F' H' o d v → Dn.rt v H'
  | .er x e => ∀ cls dd σ F' H', Ext F F' → HSt cl F0 H0 F' e σ H' → ERep cl H' x cls dd → W cls dd σ H'
  | .stuck => False
theorem PostS.ext {cl : Cl} {W : WX} {Dn : Ends} {F0 : Bs} {H0 F F1 : Hp} {o : SO} (h : PostS cl W Dn F0 H0 F o) (x : Ext F F1) : PostS cl W Dn F0 H0 F1 o := by
  cases o with
  | nx e => exact fun σ F' H' k s => h σ F' H' (x.trans k) s
  | bk e => exact fun σ F' H' k s => h σ F' H' (x.trans k) s
  | ct e => exact fun σ F' H' k s => h σ F' H' (x.trans k) s
  | rt o d => exact h
  | er y e => exact fun cls dd σ F' H' k s => h cls dd σ F' H' (x.trans k) s
  | stuck => exact h
def tS (cl : Cl) (W : WX) (ms : HEnv → SO) : TS := fun Dn σ H => ∃ F0 H0 F env, HSt cl F0 H0 F env σ H ∧ PostS cl W Dn F0 H0 F (ms env)
/-- a value reckoned, then a statement's end -/
def sB {α : Type} (m : HEnv → R α) (k : α → HEnv → SO) : HEnv → SO := fun env => match m env with
  | .ok a => k a env
  | .er x => .er x env
  | .stuck => .stuck
theorem stB {α β : Type} {cl : Cl} {rel : Rel α β} {W : WX} {m : HEnv → R α} {k : α → HEnv → SO} {Dn : Ends} {σ : L2.St} {H : Hp} {Q : β → Hp → Prop} (h : tS cl W (sB m k) Dn σ H)
    (hk : ∀ d v F0 H0 F env Hs H1, HSt cl F0 H0 F env σ Hs → ∀ F1, Kp F Hs F1 H1 → HSt cl F0 H0 F1 env σ H1 → rel Hs F1 H1 d v → PostS cl W Dn F0 H0 F1 (k d env) → Q v H1) : tG cl rel W m σ H Q := by
  obtain ⟨F0, H0, F, env, s, h⟩ := h
  refine ⟨F0, H0, F, env, s, ?_⟩
  unfold sB at h
  cases e : m env with
  | ok a =>
    rw [e] at h
    exact fun v F' H' kp hs r => hk a v F0 H0 F env H H' s F' kp (s.step kp hs) r (h.ext kp.ext)
  | er x =>
    rw [e] at h
    exact fun cls dd F' H' kp hs r => h cls dd σ F' H' kp.ext (s.step kp hs) r
  | stuck =>
    rw [e] at h
    exact h.elim
def mNext : HEnv → SO := .nx
def mSeq (a b : HEnv → SO) : HEnv → SO := fun env => match a env with
  | .nx e => b e
  | .rt o d => .rt o d
  | .er x e => .er x e
  | .bk e => .bk e
  | .ct e => .ct e
  | .stuck => .stuck
section
variable {X : Cx} {cl : Cl} {W : WX} {pos : Pos} {st : Stmt} {sts : List Stmt} {a b : HEnv → SO}
theorem HSt.get {F0 : Bs} {H0 F H : Hp} {env : HEnv} {σ : L2.St} (s : HSt cl F0 H0 F env σ H) {Dn : Ends} (h : PostS cl W Dn F0 H0 F (.nx env)) : Dn.nx σ H := h σ F H (Ext.refl F) s
theorem ds_nil : PSs X [] (tS cl W mNext) := pss_weak pss_nil fun Dn σ H ⟨F0, H0, F, env, s, q⟩ => s.get q
theorem ds_cons (h1 : PS X st (tS cl W a)) (h2 : PSs X sts (tS cl W b)) : PSs X (st :: sts) (tS cl W (mSeq a b)) := by
  refine pss_weak (pss_cons h1 h2) fun Dn σ H ⟨F0, H0, F, env, s, q⟩ => ?_
  refine ⟨F0, H0, F, env, s, ?_⟩
  unfold mSeq at q
  cases e : a env with
  | nx e1 =>
    rw [e] at q
    exact fun σ' F' H' x s' => ⟨F0, H0, F', e1, s', q.ext x⟩
  | rt o d => rw [e] at q; exact q
  | er y e1 => rw [e] at q; exact q
  | bk e1 => rw [e] at q; exact q
  | ct e1 => rw [e] at q; exact q
  | stuck => rw [e] at q; exact q
theorem ds_one (h1 : PS X st (tS cl W a)) : PSs X [st] (tS cl W a) := pss_one h1
/-- a name gets a thing that stays -/
theorem HSt.set {F0 : Bs} {H0 F H : Hp} {env : HEnv} {σ : L2.St} (s : HSt cl F0 H0 F env σ H) {i : Nat} {d : D} {v : V} (r : Rep cl F d v) : HSt cl F0 H0 F (env.set i (.val d)) (σ.set i (some v)) H := by
  have ne : ∀ (j : Nat) (e : D), (env.set i (.val d))[j]?.bind oL = some e → i ≠ j := fun j e h z => by
    subst z
    by_cases hl : i < env.length
    · rw [List.getElem?_set_self hl] at h
      cases h
    · rw [List.getElem?_eq_none (by simp; omega)] at h
      cases h
  refine ⟨by simp [s.len], s.sub, s.kp, fun j e h => ?_, fun j e h => ?_, fun j e h => ?_, fun j e h => ?_, fun j k e g p h1 h2 h3 h4 => ?_⟩
  · by_cases hj : i = j
    · subst hj
      by_cases hl : i < env.length
      · rw [List.getElem?_set_self hl] at h
        cases h
        exact ⟨v, by rw [List.getElem?_set_self (by rw [s.len]; exact hl)], r⟩
      · rw [List.getElem?_eq_none (by simp; omega)] at h
        cases h
    · rw [List.getElem?_set_ne hj] at h
      obtain ⟨w, a, b⟩ := s.val j e h
      exact ⟨w, by rw [List.getElem?_set_ne hj]; exact a, b⟩
  · have hj := ne j e h
    rw [List.getElem?_set_ne hj] at h
    obtain ⟨p, a, b⟩ := s.own j e h
    exact ⟨p, by rw [List.getElem?_set_ne hj]; exact a, b⟩
  · have hj := ne j e (oL_lent h)
    rw [List.getElem?_set_ne hj] at h ⊢
    exact s.lnt j e h
  · have hj : i ≠ j := fun z => by
      subst z
      by_cases hl : i < env.length
      · rw [List.getElem?_set_self hl] at h
        cases h
      · rw [List.getElem?_eq_none (by simp; omega)] at h
        cases h
    rw [List.getElem?_set_ne hj] at h ⊢
    exact s.bor j e h
  · have n1 := ne j e h1
    have n2 := ne k g h2
    rw [List.getElem?_set_ne n1] at h1 h3
    rw [List.getElem?_set_ne n2] at h2 h4
    exact s.dis j k e g p h1 h2 h3 h4
/-- a name gets a new thing of one's own -/
theorem HSt.setOwn {F0 : Bs} {H0 F H : Hp} {env : HEnv} {σ : L2.St} (s : HSt cl F0 H0 F env σ H) {i : Nat} {d : D} {p : Addr} (hf : F p = none) (h0 : H0 p = none) (r : ORep cl F H p d)
    (hn : ∀ (j : Nat) (e : D), j ≠ i → env[j]?.bind oL = some e → σ[j]? ≠ some (some (.ref p))) : HSt cl F0 H0 F (env.set i (.own d)) (σ.set i (some (.ref p))) H := by
  refine ⟨by simp [s.len], s.sub, s.kp, fun j e h => ?_, fun j e h => ?_, fun j e h => ?_, fun j e h => ?_, fun j k e g q h1 h2 h3 h4 => ?_⟩
  · have hj : i ≠ j := fun z => by
      subst z
      by_cases hl : i < env.length
      · rw [List.getElem?_set_self hl] at h
        cases h
      · rw [List.getElem?_eq_none (by simp; omega)] at h
        cases h
    rw [List.getElem?_set_ne hj] at h
    obtain ⟨w, a, b⟩ := s.val j e h
    exact ⟨w, by rw [List.getElem?_set_ne hj]; exact a, b⟩
  · by_cases hj : i = j
    · subst hj
      by_cases hl : i < env.length
      · rw [List.getElem?_set_self hl] at h
        cases h
        exact ⟨p, by rw [List.getElem?_set_self (by rw [s.len]; exact hl)], hf, h0, r⟩
      · rw [List.getElem?_eq_none (by simp; omega)] at h
        cases h
    · rw [List.getElem?_set_ne hj] at h
      obtain ⟨p, a, b⟩ := s.own j e h
      exact ⟨p, by rw [List.getElem?_set_ne hj]; exact a, b⟩
  · have hj : i ≠ j := fun z => by
      subst z
      by_cases hl : i < env.length
      · rw [List.getElem?_set_self hl] at h
        cases h
      · rw [List.getElem?_eq_none (by simp; omega)] at h
        cases h
    rw [List.getElem?_set_ne hj] at h ⊢
    exact s.lnt j e h
  · have hj : i ≠ j := fun z => by
      subst z
      by_cases hl : i < env.length
      · rw [List.getElem?_set_self hl] at h
        cases h
      · rw [List.getElem?_eq_none (by simp; omega)] at h
        cases h
    rw [List.getElem?_set_ne hj] at h ⊢
    exact s.bor j e h
  · by_cases hj : i = j
    · by_cases hk : i = k
      · rw [← hj, ← hk]
      · exfalso
        subst hj
        rw [List.getElem?_set_ne hk] at h2 h4
        have hl : i < σ.length := by
          by_cases z : i < σ.length
          · exact z
          · rw [List.getElem?_eq_none (by simp; omega)] at h3
            cases h3
        rw [List.getElem?_set_self hl] at h3
        cases h3
        exact hn k g (Ne.symm hk) h2 h4
    · by_cases hk : i = k
      · exfalso
        subst hk
        rw [List.getElem?_set_ne hj] at h1 h3
        have hl : i < σ.length := by
          by_cases z : i < σ.length
          · exact z
          · rw [List.getElem?_eq_none (by simp; omega)] at h4
            cases h4
        rw [List.getElem?_set_self hl] at h4
        cases h4
        exact hn j e (Ne.symm hj) h1 h3
      · rw [List.getElem?_set_ne hj] at h1 h3
        rw [List.getElem?_set_ne hk] at h2 h4
        exact s.dis j k e g q h1 h2 h3 h4
theorem HSt.newOwn {F0 : Bs} {H0 F H : Hp} {env : HEnv} {σ : L2.St} (s : HSt cl F0 H0 F env σ H) {p : Addr} (hp : H p = none) (j : Nat) (e : D) (h : env[j]?.bind oL = some e) : σ[j]? ≠ some (some (.ref p)) := fun z => by
  obtain ⟨q, a, _, _, u, hu, _⟩ := s.own j e h
  rw [a] at z
  cases z
  rw [hp] at hu
  cases hu
def mSet (i : Nat) (m : HEnv → R D) : HEnv → SO := sB m fun d env => .nx (env.set i (.val d))
def mSetN (i : Nat) (m : HEnv → R D) : HEnv → SO := sB m fun d env => .nx (env.set i (.own d))
theorem read_set {m : HEnv → R D} {i : Nat} {Dn : Ends} {σ : L2.St} {H : Hp} (q : tS cl W (mSet i m) Dn σ H) : tAsg (tF cl W m) (gName i) Dn σ H :=
  stB q fun d v F0 H0 F env Hs H1 s0 F1 kp s r p => HSt.get (W := W) (s.set r) p
theorem read_setN {m : HEnv → R D} {i : Nat} {Dn : Ends} {σ : L2.St} {H : Hp} (q : tS cl W (mSetN i m) Dn σ H) : tAsg (tN cl W m) (gName i) Dn σ H := by
  refine stB q fun d v F0 H0 F env Hs H1 s0 F1 kp s r p => ?_
  obtain ⟨a, rfl, h1, h2, h3⟩ := r
  exact HSt.get (W := W) (s.setOwn h2 (s0.kp.same.free h1) h3 fun j e _ h => s0.newOwn h1 j e h) p
/-- name = value -/
theorem ds_set {i : Nat} {x : Str} {e : Expr} {m : HEnv → R D} {pos' : Pos} (hN : X.N.Nodup) (hi : X.N[i]? = some x) (hx : Loc X.env.scope x) (he : PE X e (tF cl W m)) (hs : swapsWith e (some (.Name x pos')) pos.line X.env = pure false := by rfl)
    (hf : X.fn x = true ∨ X.env.scope.names.lookup x = some .local := by first | exact .inl rfl | exact .inr rfl | assumption) : PS X (.Assign [.Name x pos'] e pos) (tS cl W (mSet i m)) :=
  ps_weak (ps_set hN hi hx he hs hf) fun Dn σ H q => read_set q
theorem ds_setN {i : Nat} {x : Str} {e : Expr} {m : HEnv → R D} {pos' : Pos} (hN : X.N.Nodup) (hi : X.N[i]? = some x) (hx : Loc X.env.scope x) (he : PE X e (tN cl W m)) (hs : swapsWith e (some (.Name x pos')) pos.line X.env = pure false := by rfl)
    (hf : X.fn x = true ∨ X.env.scope.names.lookup x = some .local := by first | exact .inl rfl | exact .inr rfl | assumption) : PS X (.Assign [.Name x pos'] e pos) (tS cl W (mSetN i m)) :=
  ps_weak (ps_set hN hi hx he hs hf) fun Dn σ H q => read_setN q
def mRet (m : HEnv → R D) : HEnv → SO := sB m fun d _ => .rt false d
def mRetN (m : HEnv → R D) : HEnv → SO := sB m fun d _ => .rt true d
def mRetNone : HEnv → SO := fun _ => .rt false .non
/-- a name's own thing is handed back -/
def mRetOwn (i : Nat) : HEnv → SO := fun env => match env[i]? with
  | some (.own d) => .rt true d
  | some (.val d) => .rt false d
  | _ => .stuck
theorem ds_ret {e : Expr} {m : HEnv → R D} (he : PE X e (tF cl W m)) : PS X (.Return (some e) pos) (tS cl W (mRet m)) :=
  ps_weak (ps_ret he) fun Dn σ H q => stB (k := fun d _ => .rt false d) q fun d v F0 H0 F env Hs H1 s0 F1 kp s r p => p v F1 H1 s.kp s.sub (by unfold RetR; rw [if_neg (by decide)]; exact r)
theorem ds_retN {e : Expr} {m : HEnv → R D} (he : PE X e (tN cl W m)) : PS X (.Return (some e) pos) (tS cl W (mRetN m)) :=
  ps_weak (ps_ret he) fun Dn σ H q => stB (k := fun d _ => .rt true d) q fun d v F0 H0 F env Hs H1 s0 F1 kp s ⟨a, ev, h1, h2, h3⟩ p => p v F1 H1 s.kp s.sub (by unfold RetR; rw [if_pos rfl]; exact ⟨a, ev, s0.kp.same.free h1, h2, h3⟩)
theorem ds_retNone : PS X (.Return none pos) (tS cl W mRetNone) :=
  ps_weak ps_retN fun Dn σ H ⟨F0, H0, F, env, s, q⟩ => q .non F H s.kp s.sub (by unfold RetR; rw [if_neg (by decide)]; simp only [Rep])
theorem ds_retOwn {e : Expr} {i : Nat} (h : PE X e (tVar i)) : PS X (.Return (some e) pos) (tS cl W (mRetOwn i)) := by
  refine ps_weak (ps_ret h) fun Dn σ H ⟨F0, H0, F, env, s, q⟩ => ?_
  unfold mRetOwn at q
  split at q
  · rename_i d e
    obtain ⟨p, a, b, c, o⟩ := s.own i d (oL_own e)
    exact ⟨_, a, q _ F H s.kp s.sub (by unfold RetR; rw [if_pos rfl]; exact ⟨p, rfl, c, b, o⟩)⟩
  · rename_i d e
    obtain ⟨v, a, b⟩ := s.val i d e
    exact ⟨v, a, q v F H s.kp s.sub (by unfold RetR; rw [if_neg (by decide)]; exact b)⟩
  · exact q.elim
/-- a thing of one's own stays from here on -/
def mFrz (i : Nat) (a : HEnv → SO) : HEnv → SO := fun env => match env[i]? with
  | some (.own d) => a (env.set i (.val d))
  | _ => .stuck
theorem set_same {σ : L2.St} {i : Nat} {v : Option V} (h : σ[i]? = some v) : σ.set i v = σ := by
  refine List.ext_getElem? fun j => ?_
  by_cases hj : i = j
  · subst hj
    rw [List.getElem?_set_self (List.getElem?_eq_some_iff.mp h).1, h]
  · rw [List.getElem?_set_ne hj]
theorem read_frz {i : Nat} {Dn : Ends} {σ : L2.St} {H : Hp} (q : tS cl W (mFrz i a) Dn σ H) : tS cl W a Dn σ H := by
  obtain ⟨F0, H0, F, env, s, q⟩ := q
  unfold mFrz at q
  split at q
  · rename_i d e
    obtain ⟨p, h1, h2, h3, h4⟩ := s.own i d (oL_own e)
    obtain ⟨F2, x2, k2, s2, r2, n2⟩ := freeze s.kp s.sub h3 h2 h4
    have nn : ∀ (j : Nat) (e' : D) (p' : Addr), j ≠ i → env[j]?.bind oL = some e' → σ[j]? = some (some (.ref p')) → p' ≠ p := fun j e' p' hj h5 h6 z => by
      subst z
      exact hj (s.dis j i e' d p' h5 (oL_own e) h6 h1)
    have sb : HSt cl F0 H0 F2 (env.set i .no) σ H := by
      have ne : ∀ (j : Nat) (w : Slot), w ≠ .no → (env.set i .no)[j]? = some w → i ≠ j := fun j w hw h z => by
        subst z
        by_cases hl : i < env.length
        · rw [List.getElem?_set_self hl] at h
          exact hw (Option.some.inj h).symm
        · rw [List.getElem?_eq_none (by simp; omega)] at h
          cases h
      have neo : ∀ (j : Nat) (w : D), (env.set i .no)[j]?.bind oL = some w → i ≠ j := fun j w h z => by
        subst z
        by_cases hl : i < env.length
        · rw [List.getElem?_set_self hl] at h
          cases h
        · rw [List.getElem?_eq_none (by simp; omega)] at h
          cases h
      refine ⟨by simp [s.len], s2, k2, fun j e' h => ?_, fun j e' h => ?_, fun j e' h => ?_, fun j e' h => ?_, fun j k e1 e2 q' g1 g2 g3 g4 => ?_⟩
      · rw [List.getElem?_set_ne (ne j _ (by intro z; cases z) h)] at h
        obtain ⟨v, a1, b1⟩ := s.val j e' h
        exact ⟨v, a1, b1.ext x2⟩
      · have hij := neo j _ h
        rw [List.getElem?_set_ne hij] at h
        obtain ⟨p', a1, b1, c1, o1⟩ := s.own j e' h
        obtain ⟨u, hu, ob, mu⟩ := o1
        exact ⟨p', a1, by rw [n2 p' (nn j e' p' (Ne.symm hij) h a1)]; exact b1, c1, u, hu, ob.ext x2, mu⟩
      · have hij := ne j _ (by intro z; cases z) h
        rw [List.getElem?_set_ne hij] at h
        exact s.lnt j e' h
      · have hij := ne j _ (by intro z; cases z) h
        rw [List.getElem?_set_ne hij] at h
        obtain ⟨p', u', a1, b1, c1, o1, m1⟩ := s.bor j e' h
        have hne : p' ≠ p := fun z => by obtain ⟨w1, hw1⟩ := rdAt c1; rw [z, h3] at hw1; cases hw1
        exact ⟨p', u', a1, by rw [n2 p' hne]; exact b1, c1, o1.ext x2, m1⟩
      · rw [List.getElem?_set_ne (neo j _ g1)] at g1
        rw [List.getElem?_set_ne (neo k _ g2)] at g2
        exact s.dis j k e1 e2 q' g1 g2 g3 g4
    have s3 := sb.set (i := i) r2
    rw [set_same h1] at s3
    have ee : (env.set i .no).set i (.val d) = env.set i (.val d) := by simp
    rw [ee] at s3
    exact ⟨F0, H0, F2, _, s3, q.ext x2⟩
  · exact q.elim
theorem ds_frz {i : Nat} (h : PSs X sts (tS cl W a)) : PSs X sts (tS cl W (mFrz i a)) := pss_weak h fun _ _ _ q => read_frz q
def mDrop (m : HEnv → R D) : HEnv → SO := sB m fun _ env => .nx env
theorem ds_expr {e : Expr} {m : HEnv → R D} (he : PE X e (tF cl W m)) (hs : swapsWith e none pos.line X.env = pure false := by rfl) : PS X (.Expr e pos) (tS cl W (mDrop m)) :=
  ps_weak (ps_expr he hs) fun Dn σ H q => stB q fun d v F0 H0 F env Hs H1 s0 F1 kp s r p => HSt.get (W := W) s p
theorem ds_doc {x j pos' pos2} : PS X (.Expr (.Constant (.str x) j pos') pos2) (tS cl W mNext) := ps_weak ps_doc fun Dn σ H ⟨F0, H0, F, env, s, q⟩ => s.get q
theorem ds_pass : PS X (.Pass pos) (tS cl W mNext) := ps_weak ps_pass fun Dn σ H ⟨F0, H0, F, env, s, q⟩ => s.get q
def mBreak : HEnv → SO := .bk
def mCont : HEnv → SO := .ct
theorem ds_break : PS X (.Break pos) (tS cl W mBreak) := ps_weak ps_break fun Dn σ H ⟨F0, H0, F, env, s, q⟩ => q σ F H (Ext.refl F) s
theorem ds_cont : PS X (.Continue pos) (tS cl W mCont) := ps_weak ps_continue fun Dn σ H ⟨F0, H0, F, env, s, q⟩ => q σ F H (Ext.refl F) s
def mIfS (t : HEnv → R Bool) (a b : HEnv → SO) : HEnv → SO := sB t fun c env => if c = true then a env else b env
theorem ds_if {c : Expr} {s1 s2 : List Stmt} {t : HEnv → R Bool} (hc : PT X c (tT cl W t)) (h1 : PSs X s1 (tS cl W a)) (h2 : PSs X s2 (tS cl W b)) : PS X (.If c s1 s2 pos) (tS cl W (mIfS t a b)) := by
  refine ps_weak (ps_if hc h1 h2) fun Dn σ H q => ?_
  refine stB (k := fun c env => if c = true then a env else b env) q fun d v F0 H0 F env Hs H1 s0 F1 kp s r p => ?_
  obtain rfl : v = d := r
  cases v with
  | true => exact ⟨F0, H0, F1, env, s, p⟩
  | false => exact ⟨F0, H0, F1, env, s, p⟩
end
end HL

namespace HL
open PySem L2

/-! ### what is walked -/
structure ItD (cl : Cl) (J : It) (ds : List D) (F : Hp) : Prop where
  few : ds.length ≤ sizeLine
  stop : ∀ F1 H1, Ext F F1 → Sub F1 H1 → J.stop ds.length H1
  go : ∀ (i : Nat) (d : D) F1 H1, ds[i]? = some d → Ext F F1 → Sub F1 H1 → J.go i H1
  yld : ∀ (i : Nat) (d : D) F1 H1 x H2, ds[i]? = some d → Ext F F1 → Sub F1 H1 → J.yld i H1 x H2 → ∃ F2, Kp F1 H1 F2 H2 ∧ Sub F2 H2 ∧ Rep cl F2 d x
structure ItK (cl : Cl) (J : It) (ds : List D) (F H : Hp) : Prop where
  few : ds.length ≤ sizeLine
  stop : ∀ F1 H1, Kp F H F1 H1 → Sub F1 H1 → J.stop ds.length H1
  go : ∀ (i : Nat) (d : D) F1 H1, ds[i]? = some d → Kp F H F1 H1 → Sub F1 H1 → J.go i H1
  yld : ∀ (i : Nat) (d : D) F1 H1 x H2, ds[i]? = some d → Kp F H F1 H1 → Sub F1 H1 → J.yld i H1 x H2 → ∃ F2, Kp F1 H1 F2 H2 ∧ Sub F2 H2 ∧ Rep cl F2 d x
theorem ItD.k {cl : Cl} {J : It} {ds : List D} {F H : Hp} (h : ItD cl J ds F) : ItK cl J ds F H :=
  ⟨h.few, fun F1 H1 k => h.stop F1 H1 k.ext, fun i d F1 H1 e k => h.go i d F1 H1 e k.ext, fun i d F1 H1 x H2 e k => h.yld i d F1 H1 x H2 e k.ext⟩
def relI (cl : Cl) : Rel (List D) It := fun _ F _ ds J => ItD cl J ds F
def relK (cl : Cl) : Rel (List D) It := fun _ F H ds J => ItK cl J ds F H
abbrev tI (cl : Cl) (W : WX) (m : HEnv → R (List D)) : TI := tG cl (relI cl) W m
abbrev tK (cl : Cl) (W : WX) (m : HEnv → R (List D)) : TI := tG cl (relK cl) W m
section
variable {X : Cx} {cl : Cl} {W : WX} {tg e : Expr}
theorem pi_weak {t t' : TI} (h : PI X tg e t) (w : ∀ σ H Q, t' σ H Q → t σ H Q) : PI X tg e t' := ⟨fun pins s σ H Q I q => h.run pins s σ H Q I (w σ H Q q)⟩
theorem di_k {m : HEnv → R (List D)} (h : PI X tg e (tI cl W m)) : PI X tg e (tK cl W m) := pi_weak h fun _ _ _ q => tG.mono (fun _ _ _ _ _ z => ItD.k z) q
/-- by the data's kind, ahead of the run -/
theorem pi_case {α : Type} {m : HEnv → R (List D)} {n : HEnv → R α} (h : ∀ a : R α, ∃ t : TI, PI X tg e t ∧ ∀ σ H Q F0 H0 F env, HSt cl F0 H0 F env σ H → n env = a → PostG cl (relI cl) W (m env) F σ H Q → t σ H Q) : PI X tg e (tI cl W m) := by
  refine ⟨fun pins s σ H Q I q => ?_⟩
  obtain ⟨F0, H0, F, env, st, q⟩ := q
  obtain ⟨t, h1, h2⟩ := h (n env)
  exact h1.run pins s σ H Q I (h2 σ H Q F0 H0 F env st rfl q)
theorem pe_case {α : Type} {rel : Rel D V} {m : HEnv → R D} {n : HEnv → R α} (h : ∀ a : R α, ∃ t : TE, PE X e t ∧ ∀ σ H Q F0 H0 F env, HSt cl F0 H0 F env σ H → n env = a → PostG cl rel W (m env) F σ H Q → t σ H Q) : PE X e (tG cl rel W m) := by
  refine ⟨fun pins s σ H Q I q => ?_⟩
  obtain ⟨F0, H0, F, env, st, q⟩ := q
  obtain ⟨t, h1, h2⟩ := h (n env)
  exact h1.run pins s σ H Q I (h2 σ H Q F0 H0 F env st rfl q)
end
theorem Rd.ext {F H : Hp} {p : Addr} {u : HO} (hs : Sub F H) (h : F p = some u) : Rd H p u := hs.rd h
theorem itd_list {cl : Cl} {K : PySem.W.Frag} {F : Hp} {p : Addr} {ds : List D} {vs : List V} (hp : F p = some (.lst vs)) (r : RepL cl F ds vs) (z : ds.length ≤ sizeLine) : ItD cl (Itl K p) ds F where
  few := z
  stop := fun F1 H1 x s => ⟨vs, .inl (s.rd (x p _ hp)), by rw [r.len]; exact Nat.le_refl _⟩
  go := fun i d F1 H1 e x s => by
    obtain ⟨v, a, _⟩ := r.at e
    exact ⟨vs, v, .inl (s.rd (x p _ hp)), a⟩
  yld := fun i d F1 H1 x H2 e k s y => by
    obtain ⟨v, a, b⟩ := r.at e
    obtain ⟨rfl, q⟩ := y
    have := q vs (.inl (s.rd (k p _ hp)))
    rw [a] at this
    cases this
    exact ⟨F1, Kp.refl _ _, s, b.ext k⟩
theorem itd_tup {cl : Cl} {K : PySem.W.Frag} {F : Hp} {p : Addr} {ds : List D} {vs : List V} (hp : F p = some (.tup vs)) (r : RepL cl F ds vs) (z : ds.length ≤ sizeLine) : ItD cl (Itt K p) ds F where
  few := z
  stop := fun F1 H1 x s => ⟨vs, .inl (s.rd (x p _ hp)), by rw [r.len]; exact Nat.le_refl _⟩
  go := fun i d F1 H1 e x s => by
    obtain ⟨v, a, _⟩ := r.at e
    exact ⟨vs, v, .inl (s.rd (x p _ hp)), a⟩
  yld := fun i d F1 H1 x H2 e k s y => by
    obtain ⟨v, a, b⟩ := r.at e
    obtain ⟨rfl, q⟩ := y
    have := q vs (.inl (s.rd (k p _ hp)))
    rw [a] at this
    cases this
    exact ⟨F1, Kp.refl _ _, s, b.ext k⟩
theorem itk_list {cl : Cl} {K : PySem.W.Frag} {F H : Hp} {p : Addr} {ds : List D} {vs : List V} (hp : Rd H p (.lst vs)) (r : RepL cl F ds vs) (z : ds.length ≤ sizeLine) : ItK cl (Itl K p) ds F H where
  few := z
  stop := fun F1 H1 x s => ⟨vs, .inl (rdKp x.same hp), by rw [r.len]; exact Nat.le_refl _⟩
  go := fun i d F1 H1 e x s => by
    obtain ⟨v, a, _⟩ := r.at e
    exact ⟨vs, v, .inl (rdKp x.same hp), a⟩
  yld := fun i d F1 H1 x H2 e k s y => by
    obtain ⟨v, a, b⟩ := r.at e
    obtain ⟨rfl, q⟩ := y
    have := q vs (.inl (rdKp k.same hp))
    rw [a] at this
    cases this
    exact ⟨F1, Kp.refl _ _, s, b.ext k.ext⟩
/-- the signs of a text -/
def signsD (x : Str) : List D := x.cps.toList.map fun c => .str ⟨#[c]⟩
def itemsD : D → R (List D)
  | .lst ds => .ok ds
  | .tup ds => .ok ds
  | .str x => if x.length ≤ sizeLine then .ok (signsD x) else .stuck
  | _ => .stuck
section
variable {X : Cx} {cl : Cl} {W : WX} {tg e : Expr} {pos : Pos}
theorem PostG.lift {α β γ δ : Type} {rel : Rel α β} {rel' : Rel γ δ} {r : R α} {f : α → R γ} {F H : Hp} {σ : L2.St} {Q : δ → Hp → Prop} {Q1 : β → Hp → Prop} (h : PostG cl rel' W (r.bind f) F σ H Q)
    (hk : ∀ d, r = .ok d → ∀ v F' H', Kp F H F' H' → Sub F' H' → rel H F' H' d v → PostG cl rel' W (f d) F σ H Q → Q1 v H') : PostG cl rel W r F σ H Q1 := by
  cases r with
  | ok d => exact fun v F' H' k s q => hk d rfl v F' H' k s q h
  | er x => exact h
  | stuck => exact h.elim
theorem RepIn.lst {F : Hp} {xs : List D} {v : V} (h : Rep cl F (.lst xs) v) : ∃ p vs, v = .ref p ∧ F p = some (.lst vs) ∧ RepL cl F xs vs ∧ xs.length ≤ sizeLine := by simpa only [Rep] using h
theorem RepIn.tup {F : Hp} {xs : List D} {v : V} (h : Rep cl F (.tup xs) v) : ∃ p vs, v = .ref p ∧ F p = some (.tup vs) ∧ RepL cl F xs vs ∧ xs.length ≤ sizeLine := by simpa only [Rep] using h
theorem RepIn.str {F : Hp} {x : Str} {v : V} (h : Rep cl F (.str x) v) : v = .str x := by simpa only [Rep] using h
theorem RepIn.int {F : Hp} {x : Int} {v : V} (h : Rep cl F (.int x) v) : v = .int x := by simpa only [Rep] using h
theorem RepIn.bl {F : Hp} {x : Bool} {v : V} (h : Rep cl F (.bl x) v) : v = .bl x := by simpa only [Rep] using h
theorem RepIn.non {F : Hp} {v : V} (h : Rep cl F .non v) : v = .non := by simpa only [Rep] using h
theorem signs_get {x : Str} {i : Nat} {d : D} (h : (signsD x)[i]? = some d) : ∃ c, x.cps[i]? = some c ∧ d = .str ⟨#[c]⟩ := by
  unfold signsD at h
  rw [List.getElem?_map] at h
  cases e : x.cps.toList[i]? with
  | none => rw [e] at h; cases h
  | some c =>
    rw [e] at h
    cases h
    exact ⟨c, by simpa using e, rfl⟩
theorem itd_str {F : Hp} {x : Str} (z : x.length ≤ sizeLine) : ItD cl (Its x) (signsD x) F := by
  have hl : (signsD x).length = x.cps.size := by simp [signsD]
  refine ⟨by rw [hl]; exact z, fun F1 H1 _ _ => by show x.cps.size ≤ _; omega, fun i d F1 H1 e _ _ => ?_, fun i d F1 H1 v H2 e _ s y => ?_⟩
  · show i < x.cps.size
    have := (List.getElem?_eq_some_iff.mp e).1
    omega
  · obtain ⟨rfl, c, hc, rfl⟩ := y
    obtain ⟨c', hc', rfl⟩ := signs_get e
    rw [hc] at hc'
    cases hc'
    exact ⟨F1, Kp.refl _ _, s, by simp only [Rep]⟩
/-- for x in a list, a tuple, a text -/
theorem di_any {m : HEnv → R D} (h : PE X e (tF cl W m)) : PI X tg e (tI cl W (m1 itemsD m)) := by
  refine pi_case (n := m) fun a => ?_
  rcases a with (_ | b | i | x | xs | xs | _ | _) | x | _
  case ok.lst =>
    refine ⟨_, pi_list h, fun σ H Q F0 H0 F env st em q => ⟨F0, H0, F, env, st, ?_⟩⟩
    unfold m1 at q
    refine PostG.lift q fun d ed v F' H' k s r p => ?_
    rw [em] at ed
    cases ed
    obtain ⟨a, vs, rfl, ha, rl, z⟩ := RepIn.lst r
    exact ⟨a, rfl, ⟨vs, .inl (s.rd ha)⟩, p _ F' H' k s (itd_list ha rl z)⟩
  case ok.tup =>
    refine ⟨_, pi_tup h, fun σ H Q F0 H0 F env st em q => ⟨F0, H0, F, env, st, ?_⟩⟩
    unfold m1 at q
    refine PostG.lift q fun d ed v F' H' k s r p => ?_
    rw [em] at ed
    cases ed
    obtain ⟨a, vs, rfl, ha, rl, z⟩ := RepIn.tup r
    exact ⟨a, rfl, ⟨vs, .inl (s.rd ha)⟩, p _ F' H' k s (itd_tup ha rl z)⟩
  case ok.str =>
    refine ⟨_, pi_str h, fun σ H Q F0 H0 F env st em q => ⟨F0, H0, F, env, st, ?_⟩⟩
    unfold m1 at q
    refine PostG.lift q fun d ed v F' H' k s r p => ?_
    rw [em] at ed
    cases ed
    refine ⟨x, RepIn.str r, ?_⟩
    replace p : PostG cl (relI cl) W (if x.length ≤ sizeLine then R.ok (signsD x) else R.stuck) F σ H Q := p
    split at p
    · rename_i z
      exact p _ F' H' k s (itd_str z)
    · exact p.elim
  all_goals
    refine ⟨_, pi_list h, fun σ H Q F0 H0 F env st em q => ⟨F0, H0, F, env, st, ?_⟩⟩
    unfold m1 at q
    refine PostG.lift q fun d ed v F' H' k s r p => ?_
    rw [em] at ed
    first
      | (cases ed; done)
      | (cases ed; exact p.elim)
/-- a borrowed list walked (in a comprehension) -/
theorem BRep.lst {F H : Hp} {xs : List D} {v : V} (hs : Sub F H) (h : BRep cl F H (.lst xs) v) : ∃ p vs, v = .ref p ∧ Rd H p (.lst vs) ∧ RepL cl F xs vs ∧ xs.length ≤ sizeLine ∧ (F p = some (.lst vs) ∨ Rd H p (.lst vs)) := by
  rcases h with h | ⟨p, a, b, u, c, ⟨vs, rfl, e, f⟩, _⟩
  · obtain ⟨p, vs, a, b, c, d⟩ := RepIn.lst h
    exact ⟨p, vs, a, hs.rd b, c, d, .inl b⟩
  · exact ⟨p, vs, a, c, e, f, .inr c⟩
theorem dk_any {m : HEnv → R D} (h : PE X e (tB cl W m)) : PI X tg e (tK cl W (m1 itemsD m)) := by
  refine ⟨fun pins s σ H Q I q => ?_⟩
  obtain ⟨F0, H0, F, env, st, q⟩ := q
  unfold m1 at q
  have key : ∀ (t : TI), PI X tg e t → t σ H Q → wpAny (model X.prog X.w) X.A (eval e X.env) (fun v s1 => wpAny (model X.prog X.w) X.A (pyIter v) (PIE X pins σ tg Q) X.xe s1) X.xe s := fun t h1 h2 => h1.run pins s σ H Q I h2
  cases em : m env with
  | er x =>
    refine key _ (pi_list h) ⟨F0, H0, F, env, st, ?_⟩
    rw [em] at q ⊢
    exact q
  | stuck =>
    rw [em] at q
    exact q.elim
  | ok d =>
    rw [em] at q
    simp only [R.bind_ok] at q
    cases d with
    | lst xs =>
      refine key _ (pi_list h) ⟨F0, H0, F, env, st, ?_⟩
      rw [em]
      intro v F' H' k s' r
      obtain ⟨p, vs, rfl, rd, rl, z, o⟩ := BRep.lst s' r
      refine ⟨p, rfl, ⟨vs, .inl rd⟩, q _ F' H' k s' ?_⟩
      rcases o with o | o
      · exact (itd_list o rl z).k
      · exact itk_list o rl z
    | tup xs =>
      refine key _ (pi_tup h) ⟨F0, H0, F, env, st, ?_⟩
      rw [em]
      intro v F' H' k s' r
      rcases r with r | ⟨p, _, hf, u, hu, _, mu⟩
      · obtain ⟨a, vs, rfl, ha, rl, z⟩ := RepIn.tup r
        exact ⟨a, rfl, ⟨vs, .inl (s'.rd ha)⟩, q _ F' H' k s' (itd_tup ha rl z).k⟩
      · cases mu
    | str x =>
      refine key _ (pi_str h) ⟨F0, H0, F, env, st, ?_⟩
      rw [em]
      intro v F' H' k s' r
      refine ⟨x, RepIn.str (BRep.atom (F' := F') r rfl), ?_⟩
      replace q : PostG cl (relK cl) W (if x.length ≤ sizeLine then R.ok (signsD x) else R.stuck) F σ H Q := q
      split at q
      · rename_i z
        exact q _ F' H' k s' (itd_str z).k
      · exact q.elim
    | _ => exact q.elim
/-- range -/
def rangeD (lo hi : Int) : R (List D) := if -(2 ^ 62) ≤ lo ∧ lo < 2 ^ 62 ∧ -(2 ^ 62) ≤ hi ∧ hi < 2 ^ 62 ∧ (hi - lo).toNat ≤ 16777216 then .ok ((List.range (hi - lo).toNat).map fun i => .int (lo + (i : Nat))) else .stuck
def range1D : List D → R (List D)
  | [.int n] => rangeD 0 n
  | _ => .stuck
def range2D : List D → R (List D)
  | [.int a, .int b] => rangeD a b
  | _ => .stuck
theorem itd_range {F : Hp} {lo : Int} {n : Nat} (z : n ≤ 16777216) : ItD cl (Itr lo n) ((List.range n).map fun i => .int (lo + (i : Nat))) F := by
  have hl : ((List.range n).map fun i => D.int (lo + (i : Nat))).length = n := by simp
  refine ⟨by rw [hl, sizeLine_eq]; exact z, fun F1 H1 _ _ => by rw [hl]; exact Nat.le_refl _, fun i d F1 H1 e _ _ => ?_, fun i d F1 H1 v H2 e _ s y => ?_⟩
  · have := (List.getElem?_eq_some_iff.mp e).1
    show i < n
    omega
  · obtain ⟨rfl, rfl⟩ := y
    have hi : i < n := by
      have := (List.getElem?_eq_some_iff.mp e).1
      omega
    rw [List.getElem?_map, List.getElem?_range hi] at e
    cases e
    exact ⟨F1, Kp.refl _ _, s, by simp only [Rep]⟩
theorem RepL.one {F : Hp} {d : D} {vs : List V} (h : RepL cl F [d] vs) : ∃ v, vs = [v] ∧ Rep cl F d v := by
  simp only [RepL] at h
  obtain ⟨v, r, rfl, a, rfl⟩ := h
  exact ⟨v, rfl, a⟩
theorem RepL.two {F : Hp} {d e : D} {vs : List V} (h : RepL cl F [d, e] vs) : ∃ v u, vs = [v, u] ∧ Rep cl F d v ∧ Rep cl F e u := by
  simp only [RepL] at h
  obtain ⟨v, r, rfl, a, u, r', rfl, b, rfl⟩ := h
  exact ⟨v, u, rfl, a, b⟩
theorem RepL.three {F : Hp} {d e f : D} {vs : List V} (h : RepL cl F [d, e, f] vs) : ∃ v u w, vs = [v, u, w] ∧ Rep cl F d v ∧ Rep cl F e u ∧ Rep cl F f w := by
  simp only [RepL] at h
  obtain ⟨v, r, rfl, a, u, r', rfl, b, w, r'', rfl, c, rfl⟩ := h
  exact ⟨v, u, w, rfl, a, b, c⟩
theorem di_range1 {a : Expr} {ms : HEnv → R (List D)} {p : Pos} (hg : Gl X "range") (hm : X.mg "range" = none) (ha : PA X [a] (tA cl W ms)) (hs : starEach [a] X.env = [(false, eval a X.env)] := by rfl) :
    PI X tg (.Call (.Name "range" p) [a] [] pos) (tI cl W (m1 range1D ms)) := by
  refine pi_weak (pi_range1 hg hm ha hs) fun σ H Q q => ?_
  refine read1 (rel := relA cl) (r := fun vs H1 Q => ∃ j : Int, vs = [.int j] ∧ -(2 ^ 62) ≤ j ∧ j < 2 ^ 62 ∧ Q (Itr 0 j.toNat) H1) (rel' := relI cl) (fun _ _ _ _ _ _ _ z => z) (fun Hs F H ds vs Q σ s r p => ?_) q
  unfold range1D at p
  split at p
  · rename_i n
    obtain ⟨v, rfl, h1⟩ := RepL.one r
    unfold rangeD at p
    split at p
    · rename_i hc
      refine ⟨n, by rw [RepIn.int h1], hc.2.2.1, hc.2.2.2.1, ?_⟩
      have e : (n - 0).toNat = n.toNat := by rw [Int.sub_zero]
      refine PostG.done p s ?_
      have z := hc.2.2.2.2
      rw [e] at z ⊢
      exact itd_range z
    · exact p.elim
  · exact p.elim
theorem di_range2 {a b : Expr} {ms : HEnv → R (List D)} {p : Pos} (hg : Gl X "range") (hm : X.mg "range" = none) (ha : PA X [a, b] (tA cl W ms)) (hs : starEach [a, b] X.env = [(false, eval a X.env), (false, eval b X.env)] := by rfl) (hs2 : starEach [b] X.env = [(false, eval b X.env)] := by rfl) :
    PI X tg (.Call (.Name "range" p) [a, b] [] pos) (tI cl W (m1 range2D ms)) := by
  refine pi_weak (pi_range2 hg hm ha hs hs2) fun σ H Q q => ?_
  refine read1 (rel := relA cl) (r := fun vs H1 Q => ∃ i j : Int, vs = [.int i, .int j] ∧ (-(2 ^ 62) ≤ i ∧ i < 2 ^ 62 ∧ -(2 ^ 62) ≤ j ∧ j < 2 ^ 62) ∧ Q (Itr i (j - i).toNat) H1) (rel' := relI cl) (fun _ _ _ _ _ _ _ z => z) (fun Hs F H ds vs Q σ s r p => ?_) q
  unfold range2D at p
  split at p
  · rename_i a b
    obtain ⟨v, u, rfl, h1, h2⟩ := RepL.two r
    unfold rangeD at p
    split at p
    · rename_i hc
      exact ⟨a, b, by rw [RepIn.int h1, RepIn.int h2], ⟨hc.1, hc.2.1, hc.2.2.1, hc.2.2.2.1⟩, PostG.done p s (itd_range hc.2.2.2.2)⟩
    · exact p.elim
  · exact p.elim
end

/-! ### targets -/
/-- the slots at is get what g says -/
def tTg (cl : Cl) (is : List Nat) (g : D → HEnv → R HEnv) : TG := fun v σ H Q => ∃ F0 H0 F env d, HSt cl F0 H0 F env σ H ∧ Rep cl F d v ∧ match g d env with
  | .ok e => ∀ σ', HSt cl F0 H0 F e σ' H → σ'.length = σ.length → (∀ j : Nat, j ∉ is → σ'[j]? = σ[j]?) → Q σ' H
  | _ => False
def gN (i : Nat) : D → HEnv → R HEnv := fun d env => .ok (env.set i (.val d))
section
variable {X : Cx} {cl : Cl} {pos : Pos}
theorem pg_weak {e : Expr} {t t' : TG} (h : PG X e t) (w : ∀ v σ H Q, t' v σ H Q → t v σ H Q) : PG X e t' := ⟨fun pins s σ H v u Q I r q => h.run pins s σ H v u Q I r (w v σ H Q q)⟩
theorem dg_name {i : Nat} {x : Str} (hN : X.N.Nodup) (hi : X.N[i]? = some x) (hx : Loc X.env.scope x) (hf : X.fn x = true ∨ X.env.scope.names.lookup x = some .local := by first | exact .inl rfl | exact .inr rfl | assumption) :
    PG X (.Name x pos) (tTg cl [i] (gN i)) := by
  refine pg_weak (pg_name hN hi hx hf) fun v σ H Q ⟨F0, H0, F, env, d, s, r, q⟩ => ?_
  exact q _ (s.set r) (by simp) fun j hj => by
    rw [List.getElem?_set_ne (fun z => hj (by rw [z]; exact List.mem_cons_self))]
/-- (a, b, ..) = a tuple -/
def tTgs (cl : Cl) (is : List Nat) (g : List D → HEnv → R HEnv) : TGs := fun vs σ H Q => ∃ F0 H0 F env ds, HSt cl F0 H0 F env σ H ∧ RepL cl F ds vs ∧ match g ds env with
  | .ok e => ∀ σ', HSt cl F0 H0 F e σ' H → σ'.length = σ.length → (∀ j : Nat, j ∉ is → σ'[j]? = σ[j]?) → Q σ' H
  | _ => False
def gsNil : List D → HEnv → R HEnv := fun ds env => match ds with
  | [] => .ok env
  | _ => .stuck
def gsCons (g : D → HEnv → R HEnv) (gs : List D → HEnv → R HEnv) : List D → HEnv → R HEnv := fun ds env => match ds with
  | d :: r => match g d env with
    | .ok e => gs r e
    | _ => .stuck
  | [] => .stuck
def gTupD (gs : List D → HEnv → R HEnv) : D → HEnv → R HEnv := fun d env => match d with
  | .tup ds => gs ds env
  | _ => .stuck
theorem dgs_nil : PGs X [] (tTgs cl [] gsNil) := by
  refine ⟨fun pins s σ H vs us Q I r q => pgs_nil.run pins s σ H vs us Q I r ?_⟩
  obtain ⟨F0, H0, F, env, ds, st, rl, q⟩ := q
  cases ds with
  | nil =>
    simp only [RepL] at rl
    exact ⟨rl, q σ st rfl fun _ _ => rfl⟩
  | cons d r => exact q.elim
theorem dgs_cons {e : Expr} {es : List Expr} {is js : List Nat} {g : D → HEnv → R HEnv} {gs : List D → HEnv → R HEnv} (h1 : PG X e (tTg cl is g)) (h2 : PGs X es (tTgs cl js gs))
    (hs : (assignEach (e :: es) X.env).map (·.2) = assign e X.env :: (assignEach es X.env).map (·.2) := by rfl) : PGs X (e :: es) (tTgs cl (is ++ js) (gsCons g gs)) := by
  refine ⟨fun pins s σ H vs us Q I r q => (pgs_cons h1 h2 hs).run pins s σ H vs us Q I r ?_⟩
  obtain ⟨F0, H0, F, env, ds, st, rl, q⟩ := q
  cases ds with
  | nil => exact q.elim
  | cons d ds =>
    simp only [RepL] at rl
    obtain ⟨v, vr, rfl, a, b⟩ := rl
    refine ⟨v, vr, rfl, F0, H0, F, env, d, st, a, ?_⟩
    simp only [gsCons] at q
    cases eg : g d env with
    | ok e1 =>
      rw [eg] at q
      intro σ1 st1 l1 k1
      refine ⟨F0, H0, F, e1, ds, st1, b, ?_⟩
      cases eg2 : gs ds e1 with
      | ok e2 =>
        simp only [eg2] at q
        exact fun σ2 st2 l2 k2 => q σ2 st2 (l2.trans l1) fun j hj => (k2 j fun z => hj (List.mem_append_right _ z)).trans (k1 j fun z => hj (List.mem_append_left _ z))
      | er x => simp only [eg2] at q
      | stuck => simp only [eg2] at q
    | er x => rw [eg] at q; exact q.elim
    | stuck => rw [eg] at q; exact q.elim
theorem gs_len {es : List Expr} {is : List Nat} {gs : List D → HEnv → R HEnv} {n : Nat} (hl : ∀ ds env e, gs ds env = .ok e → ds.length = n) {cl : Cl} (hc : X.calm = true) {k : Nat} (h : PGs X es (tTgs cl is gs))
    (hn : (assignEach es X.env).length = n := by rfl) (hst : (assignEach es X.env).findIdx? (·.1) = none := by rfl) : PG X (.Tuple es k pos) (tTg cl is (gTupD gs)) := by
  refine pg_weak (pg_tup hc h hn hst) fun v σ H Q ⟨F0, H0, F, env, d, s, r, q⟩ => ?_
  cases d with
  | tup ds =>
    obtain ⟨a, vs, rfl, ha, rl, z⟩ := RepIn.tup r
    simp only [gTupD] at q
    cases eg : gs ds env with
    | ok e =>
      rw [eg] at q
      refine ⟨a, vs, rfl, .inl (s.sub.rd ha), by rw [rl.len]; exact hl _ _ _ eg, F0, H0, F, env, ds, s, rl, ?_⟩
      rw [eg]
      exact q
    | er x => rw [eg] at q; exact q.elim
    | stuck => rw [eg] at q; exact q.elim
  | _ => exact q.elim
inductive GLn : (List D → HEnv → R HEnv) → Nat → Prop where
  | nil : GLn gsNil 0
  | cons {g : D → HEnv → R HEnv} {gs : List D → HEnv → R HEnv} {n : Nat} (h : GLn gs n) : GLn (gsCons g gs) (n + 1)
theorem GLn.len {gs : List D → HEnv → R HEnv} {n : Nat} (h : GLn gs n) : ∀ ds env e, gs ds env = .ok e → ds.length = n := by
  induction h with
  | nil =>
    intro ds env e q
    cases ds with
    | nil => rfl
    | cons d r => cases q
  | cons h ih =>
    rename_i g gs n
    intro ds env e q
    cases ds with
    | nil => cases q
    | cons d r =>
      simp only [gsCons] at q
      cases eg : g d env with
      | ok e1 =>
        rw [eg] at q
        simp [ih r e1 e q]
      | er x => rw [eg] at q; cases q
      | stuck => rw [eg] at q; cases q
theorem dg_tup {es : List Expr} {is : List Nat} {gs : List D → HEnv → R HEnv} {n k : Nat} (hc : X.calm = true) (h : PGs X es (tTgs cl is gs)) (hl : GLn gs n := by repeat constructor)
    (hn : (assignEach es X.env).length = n := by rfl) (hst : (assignEach es X.env).findIdx? (·.1) = none := by rfl) : PG X (.Tuple es k pos) (tTg cl is (gTupD gs)) := gs_len hl.len hc h hn hst
/-- target = value -/
def mAsg (m : HEnv → R D) (g : D → HEnv → R HEnv) : HEnv → SO := sB m fun d env => match g d env with
  | .ok e => .nx e
  | _ => .stuck
theorem ds_asg {W : WX} {tg e : Expr} {is : List Nat} {g : D → HEnv → R HEnv} {m : HEnv → R D} (he : PE X e (tF cl W m)) (hg : PG X tg (tTg cl is g)) (hs : swapsWithSole [tg] e pos.line X.env = pure false := by rfl) (hw : swappedStores [tg] e X.env = pure none := by rfl)
    (h1 : (assignEach [tg] X.env).map (·.2) = [assign tg X.env] := by rfl) : PS X (.Assign [tg] e pos) (tS cl W (mAsg m g)) := by
  refine ps_weak (ps_asg he hg hs hw h1) fun Dn σ H q => ?_
  refine stB q fun d v F0 H0 F env Hs H1 s0 F1 kp s r p => ?_
  refine ⟨F0, H0, F1, env, d, s, r, ?_⟩
  cases eg : g d env with
  | ok e =>
    simp only [eg] at p ⊢
    exact fun σ' s' _ _ => HSt.get (W := W) s' p
  | er x => simp only [eg] at p; exact p.elim
  | stuck => simp only [eg] at p; exact p.elim
end
end HL

namespace HL
open PySem PySem.Spec PyProof.Rows L2

/-! ### for, while -/
def forL (g : D → HEnv → R HEnv) (body : HEnv → SO) : List D → HEnv → SO
  | [], env => .nx env
  | d :: ds, env => match g d env with
    | .ok e1 => match body e1 with
      | .nx e2 => forL g body ds e2
      | .ct e2 => forL g body ds e2
      | .bk e2 => .nx e2
      | .rt o r => .rt o r
      | .er x e2 => .er x e2
      | .stuck => .stuck
    | _ => .stuck
def mFor (src : HEnv → R (List D)) (g : D → HEnv → R HEnv) (body : HEnv → SO) : HEnv → SO := sB src fun ds env => forL g body ds env
section
variable {X : Cx} {cl : Cl} {W : WX} {pos : Pos}
theorem ds_for {tg iter : Expr} {body : List Stmt} {src : HEnv → R (List D)} {is : List Nat} {g : D → HEnv → R HEnv} {b : HEnv → SO} (hp : PassesOwn (model X.prog X.w) X.A X.env X.xe) (hc : X.calm = true)
    (hi : PI X tg iter (tI cl W src)) (hg : PG X tg (tTg cl is g)) (hb : PSs X body (tS cl W b)) (hs : ∀ x, foldedSetIterable iter X.env x = pure x := by intro _; rfl) : PS X (.For tg iter body [] pos) (tS cl W (mFor src g b)) := by
  refine ps_weak (ps_for hp hc hi hg hb hs) fun Dn σ H q => ?_
  refine stB q fun ds J F0 H0 F env Hs H1 s0 F1 kp s it p => ?_
  refine ⟨fun i m σ H => m = ds.length - i ∧ i ≤ ds.length ∧ ∃ F2 env, Ext F1 F2 ∧ HSt cl F0 H0 F2 env σ H ∧ PostS cl W Dn F0 H0 F2 (forL g b (ds.drop i) env),
    ⟨ds.length, by simp, Nat.zero_le _, F1, env, Ext.refl _, s, by simpa using p⟩, fun i m σ2 H2 ⟨em, hi, F2, env2, x2, s2, p2⟩ => ?_⟩
  subst em
  by_cases hl : i < ds.length
  · refine .inr ⟨it.go i _ F2 H2 (List.getElem?_eq_getElem hl) x2 s2.sub, fun σ' H' => i + 1 ≤ ds.length ∧ ∃ F3 env3, Ext F1 F3 ∧ HSt cl F0 H0 F3 env3 σ' H' ∧ PostS cl W Dn F0 H0 F3 (forL g b (ds.drop (i + 1)) env3),
      fun σ' H' ⟨h1, F3, env3, h2, h3, h4⟩ => ⟨ds.length - (i + 1), by omega, rfl, h1, F3, env3, h2, h3, h4⟩, fun x H' y => ?_⟩
    obtain ⟨F3, k3, s3, r3⟩ := it.yld i _ F2 H2 x H' (List.getElem?_eq_getElem hl) x2 s2.sub y
    refine ⟨F0, H0, F3, env2, _, s2.step k3 s3, r3, ?_⟩
    rw [List.drop_eq_getElem_cons hl] at p2
    simp only [forL] at p2
    cases eg : g ds[i] env2 with
    | ok e1 =>
      simp only [eg] at p2 ⊢
      intro σ4 s4 l4 n4
      refine ⟨F0, H0, F3, e1, s4, ?_⟩
      replace p2 := PostS.ext p2 k3.ext
      cases eb : b e1 with
      | nx e2 =>
        simp only [eb] at p2
        exact fun σ5 F5 H5 x5 s5 => ⟨hl, F5, e2, (x2.trans k3.ext).trans x5, s5, p2.ext x5⟩
      | ct e2 =>
        simp only [eb] at p2
        exact fun σ5 F5 H5 x5 s5 => ⟨hl, F5, e2, (x2.trans k3.ext).trans x5, s5, p2.ext x5⟩
      | bk e2 =>
        simp only [eb] at p2
        exact p2
      | rt o r =>
        simp only [eb] at p2
        exact p2
      | er x e2 =>
        simp only [eb] at p2
        exact p2
      | stuck =>
        simp only [eb] at p2
        exact p2
    | er x => simp only [eg] at p2; exact p2.elim
    | stuck => simp only [eg] at p2; exact p2.elim
  · have e : i = ds.length := by omega
    subst e
    refine .inl ⟨it.stop F2 H2 x2 s2.sub, ?_⟩
    simp only [List.drop_length, forL] at p2
    exact HSt.get (W := W) s2 p2
/-- a while with room for n turns -/
def whileL (t : HEnv → R Bool) (b : HEnv → SO) : Nat → HEnv → SO
  | 0, _ => .stuck
  | n + 1, env => match t env with
    | .ok true => match b env with
      | .nx e => whileL t b n e
      | .ct e => whileL t b n e
      | .bk e => .nx e
      | .rt o r => .rt o r
      | .er x e => .er x e
      | .stuck => .stuck
    | .ok false => .nx env
    | .er x => .er x env
    | .stuck => .stuck
theorem ds_while {n : Nat} {c : Expr} {body : List Stmt} {t : HEnv → R Bool} {b : HEnv → SO} (hp : PassesOwn (model X.prog X.w) X.A X.env X.xe) (hc : PT X c (tT cl W t)) (hb : PSs X body (tS cl W b)) :
    PS X (.While c body [] pos) (tS cl W (whileL t b n)) := by
  refine ps_weak (ps_while hp hc hb) fun Dn σ H q => ?_
  obtain ⟨F0, H0, F, env, s, q⟩ := q
  refine ⟨fun m σ H => ∃ F2 env, HSt cl F0 H0 F2 env σ H ∧ PostS cl W Dn F0 H0 F2 (whileL t b m env), ⟨n, F, env, s, q⟩, fun m σ H ⟨F2, env2, s2, p2⟩ => ?_⟩
  refine ⟨F0, H0, F2, env2, s2, ?_⟩
  cases m with
  | zero => exact p2.elim
  | succ m =>
    simp only [whileL] at p2
    cases et : t env2 with
    | ok c =>
      simp only [et] at p2
      intro c' F' H' k s' r
      obtain rfl : c' = c := r
      cases c' with
      | true =>
        rw [if_pos rfl]
        simp only at p2
        refine ⟨fun σ' H' => ∃ F3 env3, HSt cl F0 H0 F3 env3 σ' H' ∧ PostS cl W Dn F0 H0 F3 (whileL t b m env3), fun σ' H' ⟨F3, e3, h1, h2⟩ => ⟨m, Nat.lt_succ_self m, F3, e3, h1, h2⟩, ?_⟩
        refine ⟨F0, H0, F', env2, s2.step k s', ?_⟩
        replace p2 := PostS.ext p2 k.ext
        cases eb : b env2 with
        | nx e =>
          simp only [eb] at p2
          exact fun σ5 F5 H5 x5 s5 => ⟨F5, e, s5, p2.ext x5⟩
        | ct e =>
          simp only [eb] at p2
          exact fun σ5 F5 H5 x5 s5 => ⟨F5, e, s5, p2.ext x5⟩
        | bk e => simp only [eb] at p2; exact p2
        | rt o r => simp only [eb] at p2; exact p2
        | er x e => simp only [eb] at p2; exact p2
        | stuck => simp only [eb] at p2; exact p2
      | false =>
        rw [if_neg (by decide)]
        simp only at p2
        exact HSt.get (W := W) (s2.step k s') (PostS.ext p2 k.ext)
    | er x =>
      simp only [et] at p2
      exact fun cls dd F' H' k s' r => p2 cls dd σ F' H' k.ext (s2.step k s') r
    | stuck => simp only [et] at p2; exact p2.elim
end

/-! ### comprehensions -/
def compL (g : D → HEnv → R HEnv) (t : HEnv → R Bool) (el : HEnv → R D) (env : HEnv) : List D → R (List D)
  | [] => .ok []
  | d :: ds => match g d env with
    | .ok e1 => match t e1 with
      | .ok true => match el e1 with
        | .ok y => match compL g t el env ds with
          | .ok ys => .ok (y :: ys)
          | _ => .stuck
        | _ => .stuck
      | .ok false => compL g t el env ds
      | _ => .stuck
    | _ => .stuck
theorem compL_len {g : D → HEnv → R HEnv} {t : HEnv → R Bool} {el : HEnv → R D} {env : HEnv} : ∀ {ds ys : List D}, compL g t el env ds = .ok ys → ys.length ≤ ds.length
  | [], ys, h => by cases h; exact Nat.le_refl _
  | d :: ds, ys, h => by
    simp only [compL] at h
    cases eg : g d env with
    | ok e1 =>
      simp only [eg] at h
      cases et : t e1 with
      | ok c =>
        simp only [et] at h
        cases c with
        | true =>
          simp only at h
          cases ee : el e1 with
          | ok y =>
            simp only [ee] at h
            cases er : compL g t el env ds with
            | ok zs =>
              simp only [er] at h
              cases h
              have := compL_len er
              simp only [List.length_cons]
              omega
            | er x => simp only [er] at h; cases h
            | stuck => simp only [er] at h; cases h
          | er x => simp only [ee] at h; cases h
          | stuck => simp only [ee] at h; cases h
        | false =>
          simp only at h
          have := compL_len h
          simp only [List.length_cons]
          omega
      | er x => simp only [et] at h; cases h
      | stuck => simp only [et] at h; cases h
    | er x => simp only [eg] at h; cases h
    | stuck => simp only [eg] at h; cases h
def wipeE (env : HEnv) : List Nat → HEnv
  | [] => env
  | v :: vs => (wipeE env vs).set v .no
/-- [el for g in src if t]; vs the slots of the comprehension's own names -/
def mComp (vs : List Nat) (src : HEnv → R (List D)) (g : D → HEnv → R HEnv) (t : HEnv → R Bool) (el : HEnv → R D) : HEnv → R D := fun env => (src env).bind fun ds => match compL g t el (wipeE env vs) ds with
  | .ok ys => .ok (.lst ys)
  | _ => .stuck
def mYes : HEnv → R Bool := fun _ => .ok true
theorem wipe_get {σ : L2.St} : ∀ {vs : List Nat} {j : Nat}, j ∉ vs → (wipe σ vs)[j]? = σ[j]?
  | [], j, _ => rfl
  | v :: vs, j, h => by
    show ((wipe σ vs).set v none)[j]? = σ[j]?
    rw [List.getElem?_set_ne (fun z => h (by rw [z]; exact List.mem_cons_self))]
    exact wipe_get fun z => h (List.mem_cons_of_mem _ z)
theorem wipe_in {σ : L2.St} : ∀ {vs : List Nat} {j : Nat}, j ∈ vs → j < σ.length → (wipe σ vs)[j]? = some none
  | v :: vs, j, h, hl => by
    show ((wipe σ vs).set v none)[j]? = some none
    by_cases e : v = j
    · subst e
      rw [List.getElem?_set_self (by rw [wipe_length]; exact hl)]
    · rw [List.getElem?_set_ne e]
      rcases List.mem_cons.mp h with z | z
      · exact (e z.symm).elim
      · exact wipe_in z hl
theorem wipe_eq {σ σ' : L2.St} {vs is : List Nat} (hl : σ'.length = σ.length) (hi : ∀ i ∈ is, i ∈ vs) (h : ∀ j : Nat, j ∉ is → σ'[j]? = (wipe σ vs)[j]?) : wipe σ' vs = wipe σ vs := by
  refine List.ext_getElem? fun j => ?_
  by_cases hj : j ∈ vs
  · by_cases hb : j < σ.length
    · rw [wipe_in hj hb, wipe_in hj (by rw [hl]; exact hb)]
    · rw [List.getElem?_eq_none (by rw [wipe_length, hl]; omega), List.getElem?_eq_none (by rw [wipe_length]; omega)]
  · rw [wipe_get hj, h j fun z => hj (hi j z)]
theorem HSt.unset {cl : Cl} {F0 : Bs} {H0 F H : Hp} {env : HEnv} {σ : L2.St} (s : HSt cl F0 H0 F env σ H) {i : Nat} : HSt cl F0 H0 F (env.set i .no) (σ.set i none) H := by
  have ne : ∀ (j : Nat) (w : Slot), w ≠ .no → (env.set i .no)[j]? = some w → i ≠ j := fun j w hw h z => by
    subst z
    by_cases hl : i < env.length
    · rw [List.getElem?_set_self hl] at h
      exact hw (Option.some.inj h).symm
    · rw [List.getElem?_eq_none (by simp; omega)] at h
      cases h
  have neo : ∀ (j : Nat) (w : D), (env.set i .no)[j]?.bind oL = some w → i ≠ j := fun j w h z => by
    subst z
    by_cases hl : i < env.length
    · rw [List.getElem?_set_self hl] at h
      cases h
    · rw [List.getElem?_eq_none (by simp; omega)] at h
      cases h
  refine ⟨by simp [s.len], s.sub, s.kp, fun j e h => ?_, fun j e h => ?_, fun j e h => ?_, fun j e h => ?_, fun j k e g p h1 h2 h3 h4 => ?_⟩
  · have hj := ne j _ (by simp) h
    rw [List.getElem?_set_ne hj] at h
    obtain ⟨v, a, b⟩ := s.val j e h
    exact ⟨v, by rw [List.getElem?_set_ne hj]; exact a, b⟩
  · have hj := neo j _ h
    rw [List.getElem?_set_ne hj] at h
    obtain ⟨p, a, b⟩ := s.own j e h
    exact ⟨p, by rw [List.getElem?_set_ne hj]; exact a, b⟩
  · have hj := ne j _ (by simp) h
    rw [List.getElem?_set_ne hj] at h ⊢
    exact s.lnt j e h
  · have hj := ne j _ (by simp) h
    rw [List.getElem?_set_ne hj] at h ⊢
    exact s.bor j e h
  · have n1 := neo j _ h1
    have n2 := neo k _ h2
    rw [List.getElem?_set_ne n1] at h1 h3
    rw [List.getElem?_set_ne n2] at h2 h4
    exact s.dis j k e g p h1 h2 h3 h4
theorem HSt.wiped {cl : Cl} {F0 : Bs} {H0 F H : Hp} {env : HEnv} {σ : L2.St} (s : HSt cl F0 H0 F env σ H) : ∀ (vs : List Nat), HSt cl F0 H0 F (wipeE env vs) (wipe σ vs) H
  | [] => s
  | v :: vs => HSt.unset (HSt.wiped s vs)
/-- another object, that nothing here speaks of, is written or laid -/
theorem HSt.other {cl : Cl} {F0 : Bs} {H0 F H : Hp} {env : HEnv} {σ : L2.St} (s : HSt cl F0 H0 F env σ H) {p : Addr} {u : HO} (hf : F p = none) (h0 : H0 p = none) (hn : ∀ (j : Nat) (e : D), env[j]?.bind oL = some e → σ[j]? ≠ some (some (.ref p))) : HSt cl F0 H0 F env σ (upd H p u) := by
  refine ⟨s.len, sub_upd s.sub hf, ⟨s.kp.ext, fun b o e => ?_, s.kp.fr⟩, s.val, fun i d h => ?_, s.lnt, s.bor, s.dis⟩
  · rw [upd_ne (ne_of_none e h0)]
    exact s.kp.same b o e
  · obtain ⟨q, a, b, c, w, hw, o, mu⟩ := s.own i d h
    refine ⟨q, a, b, c, w, ?_, o, mu⟩
    rw [upd_ne (fun z => hn i d h (by rw [a, z]))]
    exact hw
section
variable {X : Cx} {cl : Cl} {W : WX} {pos : Pos}
theorem read_comp {own : List (Str × Nat)} {src : HEnv → R (List D)} {is : List Nat} {g : D → HEnv → R HEnv} {t : HEnv → R Bool} {el : HEnv → R D} (hi : ∀ i ∈ is, i ∈ own.map (·.2)) {σ : L2.St} {H : Hp} {Q : VK}
    (q : tN cl W (mComp (own.map (·.2)) src g t el) σ H Q) : tLc (tK cl W src) (tTg cl is g) (tT cl WNo t) (tF cl WNo el) (own.map (·.2)) σ H Q := by
  unfold mComp at q
  refine bindG (k := fun ds env => match compL g t el (wipeE env (own.map (·.2))) ds with
    | .ok ys => .ok (.lst ys)
    | _ => .stuck) oldN q fun ds J F0 H0 F1 env Hs H1 s it p A hA => ?_
  have sw := s.wiped (own.map (·.2))
  generalize wipeE env (own.map (·.2)) = envw at p sw
  cases ec : compL g t el envw ds with
  | er x => rw [ec] at p; exact p.elim
  | stuck => rw [ec] at p; exact p.elim
  | ok ys =>
    rw [ec] at p
    have zys : ys.length ≤ sizeLine := Nat.le_trans (compL_len ec) it.few
    have wn : ∀ {j : Nat} {e : D}, envw[j]?.bind oL = some e → (wipe σ (own.map (·.2)))[j]? ≠ some (some (.ref A)) := fun {j e} h z => by
      obtain ⟨q, a, _, _, u, hu, _⟩ := sw.own j e h
      rw [a] at z
      cases z
      rw [hA] at hu
      cases hu
    have h0A : H0 A = none := s.kp.same.free hA
    -- what holds ahead of turn i: the list so far, what is still to come
    refine ⟨fun i m H => m = ds.length - i ∧ i ≤ ds.length ∧ ∃ F2 acc vs zs, Kp F1 H1 F2 H ∧ HSt cl F0 H0 F2 envw (wipe σ (own.map (·.2))) H ∧ F2 A = none ∧ H A = some (.lst vs) ∧ RepL cl F2 acc vs ∧ compL g t el envw (ds.drop i) = .ok zs ∧ acc ++ zs = ys,
      ⟨ds.length, by simp, Nat.zero_le _, F1, [], [], ys, kp_new hA, sw.other (sub_none s.sub hA) h0A (fun j e h => wn h), sub_none s.sub hA, upd_same, by simp only [RepL], by simpa using ec, rfl⟩, fun i m H2 ⟨em, hi2, F2, acc, vs, zs, k2, s2, f2, e2, r2, c2, z2⟩ => ?_⟩
    subst em
    by_cases hl : i < ds.length
    · refine .inr ⟨it.go i _ F2 H2 (List.getElem?_eq_getElem hl) k2 s2.sub, fun H' => i + 1 ≤ ds.length ∧ ∃ F2 acc vs zs, Kp F1 H1 F2 H' ∧ HSt cl F0 H0 F2 envw (wipe σ (own.map (·.2))) H' ∧ F2 A = none ∧ H' A = some (.lst vs) ∧ RepL cl F2 acc vs ∧ compL g t el envw (ds.drop (i + 1)) = .ok zs ∧ acc ++ zs = ys,
        fun H' ⟨h1, h2⟩ => ⟨ds.length - (i + 1), by omega, rfl, h1, h2⟩, fun x H' y => ?_⟩
      obtain ⟨F3, k3, s3, r3⟩ := it.yld i _ F2 H2 x H' (List.getElem?_eq_getElem hl) k2 s2.sub y
      refine ⟨F0, H0, F3, envw, _, s2.step k3 s3, r3, ?_⟩
      rw [List.drop_eq_getElem_cons hl] at c2
      simp only [compL] at c2
      cases eg : g ds[i] envw with
      | er x => simp only [eg] at c2; cases c2
      | stuck => simp only [eg] at c2; cases c2
      | ok e1 =>
        simp only [eg] at c2 ⊢
        intro σ4 s4 l4 n4
        refine ⟨wipe_eq (by rw [l4, wipe_length]) hi n4, ?_⟩
        refine ⟨F0, H0, F3, e1, s4, ?_⟩
        cases et : t e1 with
        | er x => simp only [et] at c2; cases c2
        | stuck => simp only [et] at c2; cases c2
        | ok c =>
          simp only [et] at c2
          intro c' F5 H5 k5 s5 ec'
          obtain rfl : c' = c := ec'
          have k25 : Kp F2 H2 F5 H5 := k3.trans k5
          cases c' with
          | false =>
            rw [if_neg (by decide)]
            exact ⟨hl, F5, acc, vs, zs, k2.trans k25, s2.step k25 s5, k25.fr A _ e2 f2, k25.same _ _ e2, r2.ext k25.ext, c2, z2⟩
          | true =>
            rw [if_pos rfl]
            simp only at c2
            refine ⟨F0, H0, F5, e1, s4.step k5 s5, ?_⟩
            cases ee : el e1 with
            | er x => simp only [ee] at c2; cases c2
            | stuck => simp only [ee] at c2; cases c2
            | ok yd =>
              simp only [ee] at c2
              cases er : compL g t el envw (ds.drop (i + 1)) with
              | er x => simp only [er] at c2; cases c2
              | stuck => simp only [er] at c2; cases c2
              | ok zs' =>
                simp only [er] at c2
                cases c2
                intro v F6 H6 k6 s6 r6
                have k26 : Kp F2 H2 F6 H6 := k25.trans k6
                have s26 : HSt cl F0 H0 F6 envw (wipe σ (own.map (·.2))) H6 := s2.step k26 s6
                have f6 : F6 A = none := k26.fr A _ e2 f2
                refine ⟨vs, k26.same _ _ e2, ?_, ?_⟩
                · rw [r2.len]
                  have := congrArg List.length z2
                  simp only [List.length_append, List.length_cons] at this
                  omega
                · refine ⟨hl, F6, acc ++ [yd], vs ++ [v], zs', ⟨(k2.trans k26).ext, fun b o e => ?_, (k2.trans k26).fr⟩, s26.other f6 h0A (fun j e h => wn h), f6, upd_same, (r2.ext k26.ext).app (by simp only [RepL]; exact ⟨v, [], rfl, r6, rfl⟩), rfl, by simp [← z2]⟩
                  rw [upd_ne (ne_of_none e hA)]
                  exact (k2.trans k26).same b o e
    · have e : i = ds.length := by omega
      subst e
      refine .inl ⟨it.stop F2 H2 k2 s2.sub, ?_⟩
      simp only [List.drop_length, compL] at c2
      cases c2
      rw [List.append_nil] at z2
      subst z2
      exact p _ F2 H2 k2 s2.sub ⟨A, rfl, hA, f2, _, e2, ⟨vs, rfl, r2, zys⟩, rfl⟩
/-- [el for target in iter if ..] -/
theorem dn_comp {elt tg iter : Expr} {ifs : List Expr} {scope : Scope} {own : List (Str × Nat)} {src : HEnv → R (List D)} {is : List Nat} {g : D → HEnv → R HEnv} {t : HEnv → R Bool} {el : HEnv → R D} (hc : X.calm = true) (hN : X.N.Nodup) (hi : PI X tg iter (tK cl W src))
    (ok : BlkOk X.N X.env.scope scope own) (hin : ∀ i ∈ is, i ∈ own.map (·.2)) (hg : ∀ (s : Shared) (H : Hp) (C : Addr) (c : List (Str × Addr)) (fp : List Addr), PG (X.blk s H scope (compEnvC scope c C X.env) fp) tg (tTg cl is g))
    (ht : ∀ (s : Shared) (H : Hp) (C : Addr) (c : List (Str × Addr)) (fp : List Addr), PTs (X.blk s H scope (compEnvC scope c C X.env) fp) ifs (tT cl WNo t))
    (he : ∀ (s : Shared) (H : Hp) (C : Addr) (c : List (Str × Addr)) (fp : List Addr), PE (X.blk s H scope (compEnvC scope c C X.env) fp) elt (tF cl WNo el)) (hs : ∀ x, foldedSetIterable iter X.env x = pure x := by intro _; rfl) :
    PE X (.ListComp elt [⟨tg, iter, ifs, 0⟩] scope pos) (tN cl W (mComp (own.map (·.2)) src g t el)) := pe_weak (pe_lc hc hN hi ok hg ht he hs) fun σ H Q q => read_comp hin q
/-- y = [..] -/
theorem ds_setLc {i : Nat} {y : Str} {py : Pos} {elt tg iter : Expr} {ifs : List Expr} {scope : Scope} {own : List (Str × Nat)} {spos : Pos} {src : HEnv → R (List D)} {is : List Nat} {g : D → HEnv → R HEnv} {t : HEnv → R Bool} {el : HEnv → R D} (hc : X.calm = true) (hN : X.N.Nodup)
    (hy : X.N[i]? = some y) (hyl : X.env.scope.names.lookup y = some .local) (hsw : swapsWith (.ListComp elt [⟨tg, iter, ifs, 0⟩] scope pos) (some (.Name y py)) spos.line X.env = pure true) (hi : PI X tg iter (tK cl W src))
    (ok : BlkOk X.N X.env.scope scope own) (hin : ∀ i ∈ is, i ∈ own.map (·.2)) (hg : ∀ (s : Shared) (H : Hp) (C : Addr) (c : List (Str × Addr)) (fp : List Addr), PG (X.blk s H scope (compEnvC scope c C X.env) fp) tg (tTg cl is g))
    (ht : ∀ (s : Shared) (H : Hp) (C : Addr) (c : List (Str × Addr)) (fp : List Addr), PTs (X.blk s H scope (compEnvC scope c C X.env) fp) ifs (tT cl WNo t))
    (he : ∀ (s : Shared) (H : Hp) (C : Addr) (c : List (Str × Addr)) (fp : List Addr), PE (X.blk s H scope (compEnvC scope c C X.env) fp) elt (tF cl WNo el)) (hs : ∀ x, foldedSetIterable iter X.env x = pure x := by intro _; rfl) :
    PS X (.Assign [.Name y py] (.ListComp elt [⟨tg, iter, ifs, 0⟩] scope pos) spos) (tS cl W (mSetN i (mComp (own.map (·.2)) src g t el))) := by
  refine ps_weak (ps_setLc hc hN hy hyl hsw hi ok hg ht he hs) fun Dn σ H q => ?_
  exact read_comp (Q := fun x H1 => gName i x σ H1 Dn.nx) hin (read_setN q)
theorem ds_setLcF {i : Nat} {y : Str} {py : Pos} {elt tg iter : Expr} {ifs : List Expr} {scope : Scope} {own : List (Str × Nat)} {spos : Pos} {src : HEnv → R (List D)} {is : List Nat} {g : D → HEnv → R HEnv} {t : HEnv → R Bool} {el : HEnv → R D} (hc : X.calm = true) (hN : X.N.Nodup)
    (hy : X.N[i]? = some y) (hyl : X.env.scope.names.lookup y = some .local) (hsw : swapsWith (.ListComp elt [⟨tg, iter, ifs, 0⟩] scope pos) (some (.Name y py)) spos.line X.env = pure true) (hi : PI X tg iter (tK cl W src))
    (ok : BlkOk X.N X.env.scope scope own) (hin : ∀ i ∈ is, i ∈ own.map (·.2)) (hg : ∀ (s : Shared) (H : Hp) (C : Addr) (c : List (Str × Addr)) (fp : List Addr), PG (X.blk s H scope (compEnvC scope c C X.env) fp) tg (tTg cl is g))
    (ht : ∀ (s : Shared) (H : Hp) (C : Addr) (c : List (Str × Addr)) (fp : List Addr), PTs (X.blk s H scope (compEnvC scope c C X.env) fp) ifs (tT cl WNo t))
    (he : ∀ (s : Shared) (H : Hp) (C : Addr) (c : List (Str × Addr)) (fp : List Addr), PE (X.blk s H scope (compEnvC scope c C X.env) fp) elt (tF cl WNo el)) (hs : ∀ x, foldedSetIterable iter X.env x = pure x := by intro _; rfl) :
    PS X (.Assign [.Name y py] (.ListComp elt [⟨tg, iter, ifs, 0⟩] scope pos) spos) (tS cl W (mSet i (mComp (own.map (·.2)) src g t el))) := by
  refine ps_weak (ps_setLc hc hN hy hyl hsw hi ok hg ht he hs) fun Dn σ H q => ?_
  exact read_comp (Q := fun x H1 => gName i x σ H1 Dn.nx) hin (nf_read (read_set q))
theorem dt_nil : PTs X [] (tT cl W mYes) := ⟨fun pins s σ H Q I ⟨F0, H0, F, env, st, q⟩ => pts_nil.run pins s σ H Q I (PostG.done (rel := relT) (v := true) q st.sub rfl)⟩
end

/-! ### defs -/
def RetP (cl : Cl) (H : Hp) : Rel (Bool × D) V := fun Hs F H' r v => RetR cl Hs F H' r.1 r.2 v
/-- the promise: what the plain function says of the arguments' data -/
def spD (cl : Cl) (n : Nat) (f : List D → R (Bool × D)) : Sp := fun vs H Q E => vs.length = n ∧ ∃ F ds, Sub F H ∧ RepL cl F ds vs ∧ match f ds with
  | .ok r => ∀ v F' H', Kp F H F' H' → Sub F' H' → RetR cl H F' H' r.1 r.2 v → Q v H'
  | .er e => ∀ cls dd F' H', Kp F H F' H' → Sub F' H' → ERep cl H' e cls dd → E cls dd H'
  | .stuck => False
/-- a def's meaning by its body's: n slots, the parameters first -/
def fnS (n : Nat) (body : HEnv → SO) (ds : List D) : R (Bool × D) := match body (ds.map Slot.val ++ List.replicate (n - ds.length) Slot.no) with
  | .nx _ => .ok (false, .non)
  | .rt o d => .ok (o, d)
  | .er x _ => .er x
  | _ => .stuck
section
variable {P : Program} {w : World} {K : PySem.W.Frag} {mg : Str → Option Value} {base : Heap} {cl : Cl}
theorem RepL.vals {F : Hp} : ∀ {ds : List D} {vs : List V} (i : Nat) (d : D), RepL cl F ds vs → (ds.map Slot.val)[i]? = some (Slot.val d) → ∃ v, vs[i]? = some v ∧ Rep cl F d v := fun {ds vs} i d h e => by
  rw [List.getElem?_map] at e
  cases q : ds[i]? with
  | none => rw [q] at e; cases e
  | some c =>
    rw [q] at e
    cases e
    exact h.at q
theorem start_get {N : List Str} {vs : List V} {i : Nat} {v : V} (h : vs[i]? = some v) (hl : vs.length ≤ N.length) : (L2.start N vs)[i]? = some (some v) := by
  unfold L2.start
  have hi := (List.getElem?_eq_some_iff.mp h).1
  rw [List.getElem?_append_left (by simp; exact hi), List.getElem?_map, h]
  rfl
theorem no_own {ds : List D} {n i : Nat} {d : D} (e : (ds.map Slot.val ++ List.replicate n Slot.no)[i]?.bind oL = some d) : False := by
  by_cases hi : i < ds.length
  · rw [List.getElem?_append_left (by simp; exact hi), List.getElem?_map] at e
    cases q : ds[i]? with
    | none => rw [q] at e; cases e
    | some c => rw [q] at e; cases e
  · rw [List.getElem?_append_right (by simp; omega), List.getElem?_replicate] at e
    split at e <;> cases e
/-- THE RULE for a def of the text -/
theorem fnD {x qual : Str} {st : Stmt} {f : Addr} {fd : FuncData} {N ps : List Str} {k : Nat} {body : HEnv → SO} (F : Fun K x qual st f fd) (S : FnScope N ps (defScope st)) (hn : ps.length ≤ N.length)
    (hb : ∀ (cdv : Value) (A : Around) (outer : List PySem.Env) (s : Shared) (H : Hp) (E : XK), Room k (A.deeper (envOfC qual (defScope st) s.heap.objs.size f cdv)) →
      PSs (cxOf (L2.CX P w) P w K mg base N qual (defScope st) f cdv A outer s H E) (defBody st) (tS cl (fun cls d _ H => E cls d H) body)) :
    FnOk P w K mg base (L2.CX P w) (k + 1) f fd ps (spD cl ps.length (fnS N.length body)) := by
  refine F.okX S (fun vs H Q E h => h.1) fun cdv A outer s H vs Q E hr ⟨hl, F, ds, hs, r, q⟩ => ⟨_, hb cdv A outer s H E hr, ?_⟩
  have dl : ds.length = ps.length := by rw [← r.len]; exact hl
  refine ⟨(F, fun _ => none), H, F, ds.map Slot.val ++ List.replicate (N.length - ds.length) Slot.no, ⟨?_, hs, Kp.refl F H, fun i d e => ?_, fun i d e => ?_, fun i d e => ?_, fun i d e => ?_, fun i j d e p h1 => ?_⟩, ?_⟩
  · show (L2.start N vs).length = _
    unfold L2.start
    simp only [List.length_append, List.length_map, List.length_replicate]
    rw [r.len]
  · by_cases hi : i < ds.length
    · rw [List.getElem?_append_left (by simp; exact hi)] at e
      obtain ⟨v, a, b⟩ := RepL.vals i d r e
      exact ⟨v, start_get a (by rw [hl]; exact hn), b⟩
    · rw [List.getElem?_append_right (by simp; omega)] at e
      rw [List.getElem?_replicate] at e
      split at e <;> cases e
  · exact (no_own e).elim
  · exact (no_own (oL_lent e)).elim
  · by_cases hi : i < ds.length
    · rw [List.getElem?_append_left (by simp; exact hi), List.getElem?_map] at e
      cases q : ds[i]? with
      | none => rw [q] at e; cases e
      | some c => rw [q] at e; cases e
    · rw [List.getElem?_append_right (by simp; omega), List.getElem?_replicate] at e
      split at e <;> cases e
  · exact (no_own h1).elim
  · unfold fnS at q
    cases eb : body (ds.map Slot.val ++ List.replicate (N.length - ds.length) Slot.no) with
    | nx e =>
      simp only [eb] at q
      exact fun σ F' H' _ s' => q .non F' H' s'.kp s'.sub (by unfold RetR; rw [if_neg (by decide)]; simp only [Rep])
    | rt o d =>
      simp only [eb] at q
      exact q
    | er y e =>
      simp only [eb] at q
      exact fun cls dd σ F' H' _ s' r' => q cls dd F' H' s'.kp s'.sub r'
    | bk e => simp only [eb] at q
    | ct e => simp only [eb] at q
    | stuck => simp only [eb] at q
end
end HL

namespace HL
open PySem PySem.Spec PyProof.Rows L2

/-! ### two-place operations on data -/
section
variable {X : Cx} {cl : Cl} {W : WX} {a b : Expr} {pos : Pos} {ma mb : HEnv → R D}
def Op2 (cl : Cl) (rel : Rel D V) (f : D → D → R D) (r : R2) : Prop := ∀ (W : WX) (F H : Hp) (d e : D) (v u : V) (Q : VK) (σ : L2.St), Sub F H → BRep cl F H d v → BRep cl F H e u → PostG cl rel W (f d e) F σ H Q → r v u H Q
theorem d_bin {op : Operator} {r : R2} {f : D → D → R D} (ho : OpR X (binaryOp op) r) (hf : Op2 cl (relF cl) f r) (ha : PE X a (tB cl W ma)) (hb : PE X b (tB cl W mb)) : PE X (.BinOp a op b pos) (tF cl W (m2 f ma mb)) :=
  pe_weak (pe_op ho ha hb) fun σ H Q q => read2 oldF carB (fun Hs F H d v e u Q σ s r1 r2 p => hf W F H d e v u Q σ s r1 r2 p) q
theorem dn_bin {op : Operator} {r : R2} {f : D → D → R D} (ho : OpR X (binaryOp op) r) (hf : Op2 cl (relN cl) f r) (ha : PE X a (tB cl W ma)) (hb : PE X b (tB cl W mb)) : PE X (.BinOp a op b pos) (tN cl W (m2 f ma mb)) :=
  pe_weak (pe_op ho ha hb) fun σ H Q q => read2 oldN carB (fun Hs F H d v e u Q σ s r1 r2 p => hf W F H d e v u Q σ s r1 r2 p) q
theorem d_cmp {op : CmpOp} {r : R2} {f : D → D → R D} (ho : OpR X (compareOp op) r) (hf : Op2 cl (relF cl) f r) (ha : PE X a (tB cl W ma)) (hb : PE X b (tB cl W mb)) (hm : behindInMarks op b = false := by first | exact nomark _ | rfl) : PE X (.Compare a [op] [b] pos) (tF cl W (m2 f ma mb)) :=
  pe_weak (pe_cmpR ho ha hb hm) fun σ H Q q => read2 oldF carB (fun Hs F H d v e u Q σ s r1 r2 p => hf W F H d e v u Q σ s r1 r2 p) q
/-- a bool as a test -/
def truB : D → R Bool
  | .bl b => .ok b
  | _ => .stuck
theorem dt_val {e : Expr} {m : HEnv → R D} (h : PE X e (tF cl W m)) (he : ∀ whole, isTrue e X.env whole = (do let v ← whole; standAt e.pos; holding [v] (truthy v)) := by intro _; rfl) : PT X e (tT cl W (m1 truB m)) := by
  refine pt_weak (pt_val h he) fun σ H Q q => ?_
  refine read1 (r := fun x H1 Q => ∃ c, x = V.bl c ∧ Q c H1) oldT (fun Hs F H d v Q σ s r p => ?_) q
  cases d with
  | bl b => exact ⟨b, RepIn.bl r, PostG.done p s rfl⟩
  | _ => exact p.elim
theorem dt_cmp {op : CmpOp} {r : R2} {f : D → D → R D} (ho : OpR X (compareOp op) r) (hf : Op2 cl (relF cl) f r) (ha : PE X a (tB cl W ma)) (hb : PE X b (tB cl W mb)) (hm : behindInMarks op b = false := by first | exact nomark _ | rfl) : PT X (.Compare a [op] [b] pos) (tT cl W (m1 truB (m2 f ma mb))) := by
  refine pt_weak (pt_cmpR ho ha hb hm) fun σ H Q q => ?_
  have h2 : tF cl W (m2 f ma mb) σ H (fun x H1 => ∃ c, x = V.bl c ∧ Q c H1) := read1 (r := fun x H1 Q => ∃ c, x = V.bl c ∧ Q c H1) oldT (fun Hs F H d v Q σ s r p => by
    cases d with
    | bl b => exact ⟨b, RepIn.bl r, PostG.done p s rfl⟩
    | _ => exact p.elim) q
  exact read2 oldF carB (fun Hs F H d v e u Q σ s r1 r2 p => hf W F H d e v u Q σ s r1 r2 p) h2
end
section
variable {cl : Cl}
theorem BRep.int {F H : Hp} {i : Int} {v : V} (h : BRep cl F H (.int i) v) : v = .int i := RepIn.int (h.atom (F' := F) rfl)
theorem BRep.str {F H : Hp} {i : Str} {v : V} (h : BRep cl F H (.str i) v) : v = .str i := RepIn.str (h.atom (F' := F) rfl)
theorem BRep.bl {F H : Hp} {i : Bool} {v : V} (h : BRep cl F H (.bl i) v) : v = .bl i := RepIn.bl (h.atom (F' := F) rfl)
theorem BRep.non {F H : Hp} {v : V} (h : BRep cl F H .non v) : v = .non := RepIn.non (h.atom (F' := F) rfl)
theorem BRep.lst' {F H : Hp} {xs : List D} {v : V} (h : BRep cl F H (.lst xs) v) (hs : Sub F H) : ∃ p vs, v = .ref p ∧ Rd H p (.lst vs) ∧ RepL cl F xs vs ∧ xs.length ≤ sizeLine := by
  obtain ⟨p, vs, a, b, c, d, _⟩ := BRep.lst hs h
  exact ⟨p, vs, a, b, c, d⟩
theorem BRep.tup' {F H : Hp} {xs : List D} {v : V} (h : BRep cl F H (.tup xs) v) (hs : Sub F H) : ∃ p vs, v = .ref p ∧ Rd H p (.tup vs) ∧ RepL cl F xs vs ∧ xs.length ≤ sizeLine := by
  obtain ⟨p, u, a, b, vs, rfl, c, d⟩ := h.obj hs rfl
  exact ⟨p, vs, a, b, c, d⟩
/-! ### + - * % // ** -/
theorem op_catR {X : Cx} : OpR X (binaryOp .Add) (fun x y H Q => ∃ l b xs zs, x = .ref l ∧ y = .ref b ∧ Rd H l (.lst xs) ∧ Rd H b (.lst zs) ∧ xs.length + zs.length ≤ sizeLine ∧ ∀ p, H p = none → Q (.ref p) (upd H p (.lst (xs ++ zs)))) := by
  intro pins s σ H x y v u Q I rx ry h
  obtain ⟨l, b, xs, zs, rfl, rfl, hH, hB, hz, q⟩ := h
  cases rx
  cases ry
  obtain ⟨z, its, n, r, e⟩ := hH.ok I.hok
  obtain ⟨z2, its2, n2, r2, e2⟩ := hB.ok I.hok
  refine PySem.P.add_list e e2 ?_ (by rw [List.size_toArray, List.size_toArray, ← r.length, ← r2.length]; exact hz)
  have ea : its.toArray ++ its2.toArray = (its ++ its2).toArray := by simp
  rw [ea]
  exact ⟨.ref _, _, I.lnew (t' := s.toks) (r.append r2) (by rw [List.length_append]; omega), rfl, q _ I.fresh⟩
theorem OpR.or {X : Cx} {f : Value → Value → Sem Value} {r r' : R2} (h : OpR X f r) (h' : OpR X f r') : OpR X f (fun x y H Q => r x y H Q ∨ r' x y H Q) := fun pins s σ H x y v u Q I rx ry q => q.elim (h pins s σ H x y v u Q I rx ry) (h' pins s σ H x y v u Q I rx ry)
def addD : D → D → R D
  | .int i, .int j => .ok (.int (i + j))
  | .str x, .str y => if x.length + y.length ≤ sizeLine then .ok (.str (x ++ y)) else .stuck
  | .lst xs, .lst ys => if xs.length + ys.length ≤ sizeLine then .ok (.lst (xs ++ ys)) else .stuck
  | .tup xs, .tup ys => if xs.length + ys.length ≤ sizeLine then .ok (.tup (xs ++ ys)) else .stuck
  | _, _ => .stuck
def catD : D → D → R D
  | .lst xs, .lst ys => if xs.length + ys.length ≤ sizeLine then .ok (.lst (xs ++ ys)) else .stuck
  | _, _ => .stuck
theorem rep_nil {F : Hp} {xs : List D} {vs : List V} (r : RepL cl F xs vs) : vs = [] ↔ xs = [] := by
  have := r.len
  constructor
  · rintro rfl
    exact List.length_eq_zero_iff.mp this.symm
  · rintro rfl
    exact List.length_eq_zero_iff.mp this
def rCatR : R2 := fun x y H Q => ∃ l b xs zs, x = .ref l ∧ y = .ref b ∧ Rd H l (.lst xs) ∧ Rd H b (.lst zs) ∧ xs.length + zs.length ≤ sizeLine ∧ ∀ p, H p = none → Q (.ref p) (upd H p (.lst (xs ++ zs)))
def rAddS : R2 := fun x y H Q => ∃ i j, x = V.str i ∧ y = V.str j ∧ i.length + j.length ≤ sizeLine ∧ Q (V.str (i ++ j)) H
def rAddD (K : PySem.W.Frag) : R2 := fun x y H Q => ((rI0 fun i j => V.int (i + j)) x y H Q ∨ rAddS x y H Q) ∨ (rCatR x y H Q ∨ rCatA K x y H Q)
theorem op_addD {X : Cx} : OpR X (binaryOp .Add) (rAddD X.K) := (op_add.or op_add_str).or (op_catR.or op_catA)
theorem add_2 {K : PySem.W.Frag} : Op2 cl (relF cl) addD (rAddD K) := by
  intro W F H d e v u Q σ s r1 r2 p
  unfold addD at p
  split at p
  · exact .inl (.inl ⟨_, _, r1.int, r2.int, PostG.done p s (by simp only [relF, Rep])⟩)
  · split at p
    · exact .inl (.inr ⟨_, _, r1.str, r2.str, by assumption, PostG.done p s (by simp only [relF, Rep])⟩)
    · exact p.elim
  · rename_i xs ys
    split at p
    · rename_i hz
      obtain ⟨a, vs, rfl, h1, l1, z1⟩ := r1.lst' s
      obtain ⟨b, us, rfl, h2, l2, z2⟩ := r2.lst' s
      exact .inr (.inl ⟨a, b, vs, us, rfl, rfl, h1, h2, by rw [l1.len, l2.len]; exact hz, fun q hq => PostG.newF p s hq ⟨_, rfl, l1.app l2, by rw [List.length_append]; exact hz⟩⟩)
    · exact p.elim
  · rename_i xs ys
    split at p
    · rename_i hz
      obtain ⟨a, vs, rfl, h1, l1, z1⟩ := r1.tup' s
      obtain ⟨b, us, rfl, h2, l2, z2⟩ := r2.tup' s
      have tupF : ∀ {xs : List D} {v : V}, BRep cl F H (.tup xs) v → Rep cl F (.tup xs) v := fun r => r.elim id fun ⟨_, _, _, _, _, _, mu⟩ => by cases mu
      refine .inr (.inr ⟨a, b, vs, us, rfl, rfl, .inl h1, .inl h2, by rw [l1.len, l2.len]; exact hz, fun e => ?_, fun _ e => ?_, fun _ _ q hq => PostG.newF p s hq ⟨_, rfl, l1.app l2, by rw [List.length_append]; exact hz⟩⟩)
      · rw [(rep_nil l1).mp e, List.nil_append] at p
        exact PostG.done p s (tupF r2)
      · rw [(rep_nil l2).mp e, List.append_nil] at p
        exact PostG.done p s (tupF r1)
    · exact p.elim
  · exact p.elim
theorem cat_2 : Op2 cl (relN cl) catD rCatR := by
  intro W F H d e v u Q σ s r1 r2 p
  unfold catD at p
  split at p
  · split at p
    · rename_i hz
      obtain ⟨a, vs, rfl, h1, l1, z1⟩ := r1.lst' s
      obtain ⟨b, us, rfl, h2, l2, z2⟩ := r2.lst' s
      exact ⟨a, b, vs, us, rfl, rfl, h1, h2, by rw [l1.len, l2.len]; exact hz, fun q hq => PostG.new p s hq ⟨_, rfl, l1.app l2, by rw [List.length_append]; exact hz⟩⟩
    · exact p.elim
  · exact p.elim
def subD : D → D → R D
  | .int i, .int j => .ok (.int (i - j))
  | _, _ => .stuck
theorem sub_2 : Op2 cl (relF cl) subD (rI0 fun i j => V.int (i - j)) := by
  intro W F H d e v u Q σ s r1 r2 p
  unfold subD at p
  split at p
  · exact ⟨_, _, r1.int, r2.int, PostG.done p s (by simp only [relF, Rep])⟩
  · exact p.elim
def mulD : D → D → R D
  | .int i, .int j => if -(2 ^ 64) < i ∧ i < 2 ^ 64 then .ok (.int (i * j)) else .stuck
  | _, _ => .stuck
theorem mul_2 : Op2 cl (relF cl) mulD (rI CMul fun i j => V.int (i * j)) := by
  intro W F H d e v u Q σ s r1 r2 p
  unfold mulD at p
  split at p
  · split at p
    · rename_i h
      exact ⟨_, _, r1.int, r2.int, .inl h, PostG.done p s (by simp only [relF, Rep])⟩
    · exact p.elim
  · exact p.elim
def modD : D → D → R D
  | .int i, .int j => if 0 < j then .ok (.int (i % j)) else .stuck
  | _, _ => .stuck
theorem mod_2 : Op2 cl (relF cl) modD (rI (fun _ j => 0 < j) fun i j => V.int (i % j)) := by
  intro W F H d e v u Q σ s r1 r2 p
  unfold modD at p
  split at p
  · split at p
    · rename_i h
      exact ⟨_, _, r1.int, r2.int, h, PostG.done p s (by simp only [relF, Rep])⟩
    · exact p.elim
  · exact p.elim
def divD : D → D → R D
  | .int i, .int j => if 0 < j ∧ j < 1073741824 then .ok (.int (i / j)) else .stuck
  | _, _ => .stuck
theorem div_2 : Op2 cl (relF cl) divD (rI CDiv fun i j => V.int (i / j)) := by
  intro W F H d e v u Q σ s r1 r2 p
  unfold divD at p
  split at p
  · split at p
    · rename_i h
      exact ⟨_, _, r1.int, r2.int, h, PostG.done p s (by simp only [relF, Rep])⟩
    · exact p.elim
  · exact p.elim
def powD : D → D → R D
  | .int i, .int j => if 0 ≤ j ∧ j ≤ 1000000 ∧ i.natAbs < 2 ^ 64 then .ok (.int (i ^ j.toNat)) else .stuck
  | _, _ => .stuck
theorem pow_2 : Op2 cl (relF cl) powD (rI CPow fun i j => V.int (i ^ j.toNat)) := by
  intro W F H d e v u Q σ s r1 r2 p
  unfold powD at p
  split at p
  · split at p
    · rename_i h
      exact ⟨_, _, r1.int, r2.int, h, PostG.done p s (by simp only [relF, Rep])⟩
    · exact p.elim
  · exact p.elim

/-! ### == of data -/
mutual
def deq : D → D → Bool
  | .non, .non => true
  | .bl a, .bl b => a == b
  | .bl a, .int j => (if a then 1 else 0) == j
  | .int i, .bl b => i == (if b then 1 else 0)
  | .int i, .int j => i == j
  | .str x, .str y => x == y
  | .lst xs, .lst ys => deqL xs ys
  | .tup xs, .tup ys => deqL xs ys
  | _, _ => false
def deqL : List D → List D → Bool
  | [], [] => true
  | x :: xs, y :: ys => deq x y && deqL xs ys
  | _, _ => false
end
mutual
/-- no dicts, no instances; at most n deep -/
def simp? : Nat → D → Bool
  | _, .non => true
  | _, .bl _ => true
  | _, .int _ => true
  | _, .str _ => true
  | 0, _ => false
  | n + 1, .lst xs => simpL? n xs
  | n + 1, .tup xs => simpL? n xs
  | _, _ => false
def simpL? : Nat → List D → Bool
  | _, [] => true
  | n, x :: xs => simp? n x && simpL? n xs
end
mutual
theorem Rep.inj {F : Hp} : ∀ {d e : D} {v : V} {n m : Nat}, simp? n d = true → simp? m e = true → Rep cl F d v → Rep cl F e v → d = e
  | .non, e, v, n, m, h1, h2, r1, r2 => by
    cases RepIn.non r1
    cases e <;> simp only [Rep] at r2 <;> first | rfl | (cases r2; done) | (obtain ⟨_, _, _, _, z, _⟩ := r2; cases z; done) | (obtain ⟨_, _, z, _⟩ := r2; cases z; done) | (cases m <;> simp [simp?] at h2)
  | .bl b, e, v, n, m, h1, h2, r1, r2 => by
    cases RepIn.bl r1
    cases e <;> simp only [Rep] at r2 <;> first | (cases r2; first | done | rfl) | (obtain ⟨_, _, _, _, z, _⟩ := r2; cases z; done) | (obtain ⟨_, _, z, _⟩ := r2; cases z; done) | (cases m <;> simp [simp?] at h2)
  | .int b, e, v, n, m, h1, h2, r1, r2 => by
    cases RepIn.int r1
    cases e <;> simp only [Rep] at r2 <;> first | (cases r2; first | done | rfl) | (obtain ⟨_, _, _, _, z, _⟩ := r2; cases z; done) | (obtain ⟨_, _, z, _⟩ := r2; cases z; done) | (cases m <;> simp [simp?] at h2)
  | .str b, e, v, n, m, h1, h2, r1, r2 => by
    cases RepIn.str r1
    cases e <;> simp only [Rep] at r2 <;> first | (cases r2; first | done | rfl) | (obtain ⟨_, _, _, _, z, _⟩ := r2; cases z; done) | (obtain ⟨_, _, z, _⟩ := r2; cases z; done) | (cases m <;> simp [simp?] at h2)
  | .tup xs, e, v, n, m, h1, h2, r1, r2 => by
    obtain ⟨p, vs, rfl, hp, rl, _⟩ := RepIn.tup r1
    cases n with
    | zero => simp [simp?] at h1
    | succ n =>
      cases m with
      | zero => cases e <;> simp [simp?, Rep] at h2 r2
      | succ m =>
        cases e with
        | tup ys =>
          obtain ⟨q, us, e1, hq, rl2, _⟩ := RepIn.tup r2
          cases e1
          rw [hp] at hq
          cases hq
          simp only [simp?] at h1 h2
          rw [RepL.inj h1 h2 rl rl2]
        | lst ys =>
          obtain ⟨q, us, e1, hq, rl2, _⟩ := RepIn.lst r2
          cases e1
          rw [hp] at hq
          cases hq
        | _ => simp [simp?, Rep] at h2 r2
  | .lst xs, e, v, n, m, h1, h2, r1, r2 => by
    obtain ⟨p, vs, rfl, hp, rl, _⟩ := RepIn.lst r1
    cases n with
    | zero => simp [simp?] at h1
    | succ n =>
      cases m with
      | zero => cases e <;> simp [simp?, Rep] at h2 r2
      | succ m =>
        cases e with
        | lst ys =>
          obtain ⟨q, us, e1, hq, rl2, _⟩ := RepIn.lst r2
          cases e1
          rw [hp] at hq
          cases hq
          simp only [simp?] at h1 h2
          rw [RepL.inj h1 h2 rl rl2]
        | tup ys =>
          obtain ⟨q, us, e1, hq, rl2, _⟩ := RepIn.tup r2
          cases e1
          rw [hp] at hq
          cases hq
        | _ => simp [simp?, Rep] at h2 r2
  | .dic t ks, e, v, n, m, h1, h2, r1, r2 => by cases n <;> simp [simp?] at h1
  | .ins c ks, e, v, n, m, h1, h2, r1, r2 => by cases n <;> simp [simp?] at h1
theorem RepL.inj {F : Hp} : ∀ {ds es : List D} {vs : List V} {n m : Nat}, simpL? n ds = true → simpL? m es = true → RepL cl F ds vs → RepL cl F es vs → ds = es
  | [], es, vs, n, m, h1, h2, r1, r2 => by
    simp only [RepL] at r1
    subst r1
    cases es with
    | nil => rfl
    | cons y ys => simp only [RepL] at r2; obtain ⟨_, _, z, _⟩ := r2; cases z
  | d :: ds, es, vs, n, m, h1, h2, r1, r2 => by
    simp only [RepL] at r1
    obtain ⟨v, r, rfl, a, b⟩ := r1
    cases es with
    | nil => simp only [RepL] at r2; cases r2
    | cons y ys =>
      simp only [RepL] at r2
      obtain ⟨v', r', z, a', b'⟩ := r2
      cases z
      simp only [simpL?, Bool.and_eq_true] at h1 h2
      rw [Rep.inj h1.1 h2.1 a a', RepL.inj h1.2 h2.2 b b']
end
theorem deqL_eq : ∀ {ds es : List D}, deqL ds es = ((List.range (min ds.length es.length)).all (fun j => deq (ds.getD j .non) (es.getD j .non)) && ds.length == es.length)
  | [], [] => rfl
  | [], y :: ys => by simp [deqL]
  | x :: xs, [] => by simp [deqL]
  | x :: xs, y :: ys => by
    simp only [deqL, deqL_eq (ds := xs) (es := ys), List.length_cons]
    rw [show min (xs.length + 1) (ys.length + 1) = min xs.length ys.length + 1 by omega, List.range_succ_eq_map, List.all_cons, List.all_map]
    simp only [List.getD_cons_zero, Function.comp_def, List.getD_cons_succ]
    rw [Bool.and_assoc]
    congr 1
    simp
theorem simpL_at {n : Nat} : ∀ {ds : List D} {j : Nat} {d : D}, simpL? n ds = true → ds[j]? = some d → simp? n d = true
  | x :: xs, 0, d, h, e => by
    simp only [simpL?, Bool.and_eq_true] at h
    cases e
    exact h.1
  | x :: xs, j + 1, d, h, e => by
    simp only [simpL?, Bool.and_eq_true] at h
    exact simpL_at h.2 (by simpa using e)
section
variable {X : Cx} {pins : List (Addr × Obj)} {σ : L2.St} {H F : Hp} {s : Shared}
theorem BRep.rep {d : D} {v : V} (h : Rep cl F d v) : BRep cl F H d v := .inl h
theorem brep_inj {d e : D} {v : V} {n m : Nat} (h1 : simp? n d = true) (h2 : simp? m e = true) (r1 : BRep cl F H d v) (r2 : BRep cl F H e v) : d = e := by
  rcases r1 with r1 | ⟨p, rfl, f1, u, hu, o1, mu1⟩
  · rcases r2 with r2 | ⟨p, rfl, f2, u, hu, o2, mu2⟩
    · exact Rep.inj h1 h2 r1 r2
    · exfalso
      have : atomD d = false := by cases d <;> first | rfl | (simp [Rep] at r1)
      obtain ⟨q, w, e1, hw, _⟩ := r1.obj this
      cases e1
      rw [f2] at hw
      cases hw
  · rcases r2 with r2 | ⟨q, e1, f2, w, hw, o2, mu2⟩
    · exfalso
      have : atomD e = false := by cases e <;> first | rfl | (simp [Rep] at r2)
      obtain ⟨q, w, e1, hw, _⟩ := r2.obj this
      cases e1
      rw [f1] at hw
      cases hw
    · cases e1
      have := rdUniq hu hw o1 o2
      subst this
      cases d with
      | lst xs =>
        obtain ⟨vs, rfl, rl, z⟩ := o1
        cases e with
        | lst ys =>
          obtain ⟨us, e3, rl2, z2⟩ := o2
          cases e3
          cases n with
          | zero => simp [simp?] at h1
          | succ n =>
            cases m with
            | zero => simp [simp?] at h2
            | succ m =>
              simp only [simp?] at h1 h2
              rw [RepL.inj h1 h2 rl rl2]
        | tup ys => cases mu2
        | dic t ks => cases m <;> simp [simp?] at h2
        | ins c fs => cases m <;> simp [simp?] at h2
        | _ => exact o2.elim
      | tup xs => cases mu1
      | dic t ks => cases n <;> simp [simp?] at h1
      | ins c fs => cases n <;> simp [simp?] at h1
      | _ => exact o1.elim
mutual
theorem deq_refl : ∀ (d : D) {n : Nat}, simp? n d = true → deq d d = true
  | .non, n, h => rfl
  | .bl b, n, h => by simp [deq]
  | .int b, n, h => by simp [deq]
  | .str b, n, h => by simp [deq]
  | .lst xs, n + 1, h => by simp only [deq]; exact deqL_refl xs (by simpa only [simp?] using h)
  | .tup xs, n + 1, h => by simp only [deq]; exact deqL_refl xs (by simpa only [simp?] using h)
  | .lst xs, 0, h => by simp [simp?] at h
  | .tup xs, 0, h => by simp [simp?] at h
  | .dic t ks, n, h => by cases n <;> simp [simp?] at h
  | .ins c fs, n, h => by cases n <;> simp [simp?] at h
theorem deqL_refl : ∀ (ds : List D) {n : Nat}, simpL? n ds = true → deqL ds ds = true
  | [], n, h => rfl
  | d :: ds, n, h => by
    simp only [simpL?, Bool.and_eq_true] at h
    simp only [deqL, deq_refl d h.1, deqL_refl ds h.2, Bool.and_self]
end
theorem vals_at {vs : List V} {us : List Value} (r : Vals vs us) {j : Nat} {v : V} {u : Value} (h1 : vs[j]? = some v) (h2 : us[j]? = some u) : RelV v u := by
  obtain ⟨w, a, b⟩ := r.get h1
  rw [h2] at a
  cases a
  exact b
theorem rc_atom {A : Around} {d e : D} {v u : V} {a b : Value} (h1 : simp? 0 d = true) (h2 : simp? 0 e = true) (r1 : BRep cl F H d v) (r2 : BRep cl F H e u) (q1 : RelV v a) (q2 : RelV u b) : SeqAt.RcAt A s a b (deq d e) := by
    cases d with
    | lst xs => simp [simp?] at h1
    | tup xs => simp [simp?] at h1
    | dic t ks => simp [simp?] at h1
    | ins c fs => simp [simp?] at h1
    | non =>
      cases r1.non
      cases q1
      cases e with
      | non => cases r2.non; cases q2; exact SeqAt.RcAt.none_none
      | bl y => cases r2.bl; cases q2; exact SeqAt.RcAt.none_bool y
      | int y => cases r2.int; obtain ⟨t, rfl⟩ := q2; exact SeqAt.RcAt.none_int y t
      | str y => cases r2.str; obtain ⟨t, rfl⟩ := q2; exact SeqAt.RcAt.none_str y t
      | _ => simp [simp?] at h2
    | bl x =>
      cases r1.bl
      cases q1
      cases e with
      | non => cases r2.non; cases q2; exact SeqAt.RcAt.bool_none x
      | bl y => cases r2.bl; cases q2; exact SeqAt.RcAt.bool_bool x y
      | int y => cases r2.int; obtain ⟨t, rfl⟩ := q2; exact SeqAt.RcAt.bool_int x y t
      | str y => cases r2.str; obtain ⟨t, rfl⟩ := q2; exact SeqAt.RcAt.bool_str x y t
      | _ => simp [simp?] at h2
    | int x =>
      cases r1.int
      obtain ⟨t0, rfl⟩ := q1
      cases e with
      | non => cases r2.non; cases q2; exact SeqAt.RcAt.int_none x t0
      | bl y => cases r2.bl; cases q2; exact SeqAt.RcAt.int_bool x t0 y
      | int y => cases r2.int; obtain ⟨t, rfl⟩ := q2; exact SeqAt.RcAt.int_int x t0 y t
      | str y => cases r2.str; obtain ⟨t, rfl⟩ := q2; exact SeqAt.RcAt.int_str x t0 y t
      | _ => simp [simp?] at h2
    | str x =>
      cases r1.str
      obtain ⟨t0, rfl⟩ := q1
      cases e with
      | non => cases r2.non; cases q2; exact SeqAt.RcAt.str_none x t0
      | bl y => cases r2.bl; cases q2; exact SeqAt.RcAt.str_bool x t0 y
      | int y => cases r2.int; obtain ⟨t, rfl⟩ := q2; exact SeqAt.RcAt.str_int x t0 y t
      | str y => cases r2.str; obtain ⟨t, rfl⟩ := q2; exact SeqAt.RcAt.str_str x t0 y t
      | _ => simp [simp?] at h2
theorem eq_of_rc {A : Around} {v : V} {d : D} {a b : Value} {k : Bool} (rv : RelV v a) (rd : Rep cl F d v) (hab : a = b → k = true) (h : SeqAt.RcAt A s a b k) : SeqAt.EqAt A s a b k := fun prog w E Q hq => by
  have nf : ∀ f t, a ≠ .float f t := fun f t z => by
    subst z
    cases v <;> first | (cases rv; done) | (obtain ⟨_, z⟩ := rv; cases z; done) | skip
    cases d with
    | dic t ks => cases t <;> simp [Rep] at rd
    | _ => simp [Rep] at rd
  unfold eqBool
  refine wpAny_holding ?_
  refine wpAny_ite_split (fun z => ?_) (fun _ => ?_)
  · have e := hab (eq_of_beq z)
    rw [e] at hq
    exact wpAny_bind (wpAny_rule (wpAny_pure hq))
  · cases a with
    | float f t => exact (nf f t rfl).elim
    | _ => exact wpAny_bind (h prog w E _ (wpAny_truthy_bool hq))
theorem ite_eqv {b : Bool} : (b == true) = b := by cases b <;> rfl
theorem all_in {ds es : List D} {us ws : List Value} {f : Nat → Bool} (hu : us.length = ds.length) (hw : ws.length = es.length) (h : ∀ j, f j = deq (ds.getD j .non) (es.getD j .non)) :
    ((List.range (min us.toArray.size ws.toArray.size)).all f && us.toArray.size == ws.toArray.size) = deqL ds es := by
  rw [deqL_eq, List.size_toArray, List.size_toArray, hu, hw]
  congr 2
  exact funext h
/-- == of simple data -/
theorem rc_data (I : L2.Inv X pins σ H s) (hs : Sub F H) : ∀ (n : Nat) (A : Around) (d e : D) (v u : V) (a b : Value), simp? n d = true → simp? n e = true → A.units + n < cLine → BRep cl F H d v → BRep cl F H e u → RelV v a → RelV u b → SeqAt.RcAt A s a b (deq d e) := by
  intro n
  induction n with
  | zero => exact fun A d e v u a b h1 h2 hu r1 r2 q1 q2 => rc_atom h1 h2 r1 r2 q1 q2
  | succ n ih =>
    intro A d e v u a b h1 h2 hu r1 r2 q1 q2
    have hu0 : A.units < cLine := by omega
    have item : ∀ {ds es : List D} {vs ws : List V} {xs ys : List Value}, simpL? n ds = true → simpL? n es = true → RepL cl F ds vs → RepL cl F es ws → Vals vs xs → Vals ws ys →
        ∀ j (g1 : j < xs.toArray.size) (g2 : j < ys.toArray.size), SeqAt.EqAt A.in1 s xs.toArray[j] ys.toArray[j] (deq (ds.getD j .non) (es.getD j .non)) := by
      intro ds es vs ws xs ys s1 s2 l1 l2 w1 w2 j g1 g2
      have n1 : j < ds.length := by rw [← l1.len, w1.length]; simpa using g1
      have n2 : j < es.length := by rw [← l2.len, w2.length]; simpa using g2
      obtain ⟨v1, e1, p1⟩ := l1.at (List.getElem?_eq_getElem n1)
      obtain ⟨v2, e2, p2⟩ := l2.at (List.getElem?_eq_getElem n2)
      have k1 : RelV v1 xs.toArray[j] := vals_at w1 e1 (by simp)
      have k2 : RelV v2 ys.toArray[j] := vals_at w2 e2 (by simp)
      have d1 : ds.getD j .non = ds[j] := by rw [List.getD_eq_getElem?_getD, List.getElem?_eq_getElem n1]; rfl
      have d2 : es.getD j .non = es[j] := by rw [List.getD_eq_getElem?_getD, List.getElem?_eq_getElem n2]; rfl
      have f1 := simpL_at s1 (List.getElem?_eq_getElem n1)
      have f2 := simpL_at s2 (List.getElem?_eq_getElem n2)
      rw [d1, d2]
      refine eq_of_rc k1 p1 (fun z => ?_) (ih A.in1 ds[j] es[j] v1 v2 _ _ f1 f2 (by show A.units + 1 + n < cLine; omega) (.inl p1) (.inl p2) k1 k2)
      rw [z] at k1
      have : v1 = v2 := RelV.inj k1 k2
      subst this
      rw [Rep.inj f1 f2 p1 p2]
      exact deq_refl _ f2
    have seqL : ∀ {xs : List D} {v : V} {a : Value}, BRep cl F H (.lst xs) v → RelV v a → ∃ (p : Addr) (vs : List V) (us : List Value), a = .ref p ∧ RepL cl F xs vs ∧ Vals vs us ∧ s.heap.IsList p us.toArray := fun r q => by
      obtain ⟨p, vs, rfl, rd, rl, _⟩ := r.lst' hs
      cases q
      obtain ⟨us, w1, pl, _⟩ := I.list (.inl rd)
      exact ⟨p, vs, us, rfl, rl, w1, pl.isList⟩
    have seqT : ∀ {xs : List D} {v : V} {a : Value}, BRep cl F H (.tup xs) v → RelV v a → ∃ (p : Addr) (vs : List V) (us : List Value), a = .ref p ∧ RepL cl F xs vs ∧ Vals vs us ∧ s.heap.IsTuple p us.toArray := fun r q => by
      obtain ⟨p, vs, rfl, rd, rl, _⟩ := r.tup' hs
      cases q
      obtain ⟨us, w1, pl, _⟩ := I.tuple (.inl rd)
      exact ⟨p, vs, us, rfl, rl, w1, pl⟩
    cases d with
    | dic t ks => simp [simp?] at h1
    | ins c fs => simp [simp?] at h1
    | lst xs =>
      obtain ⟨p, vs, us, rfl, rl, w1, il⟩ := seqL r1 q1
      cases e with
      | dic t ks => simp [simp?] at h2
      | ins c fs => simp [simp?] at h2
      | non => cases r2.non; cases q2; exact SeqAt.RcAt.list_none il hu0
      | bl y => cases r2.bl; cases q2; exact SeqAt.RcAt.list_bool y il hu0
      | int y => cases r2.int; obtain ⟨t, rfl⟩ := q2; exact SeqAt.RcAt.list_int y t il hu0
      | str y => cases r2.str; obtain ⟨t, rfl⟩ := q2; exact SeqAt.RcAt.list_str y t il hu0
      | tup ys =>
        obtain ⟨p2, vs2, us2, rfl, rl2, w2, il2⟩ := seqT r2 q2
        exact SeqAt.RcAt.list_tuple il il2 hu0
      | lst ys =>
        obtain ⟨p2, vs2, us2, rfl, rl2, w2, il2⟩ := seqL r2 q2
        simp only [simp?] at h1 h2
        have k := item h1 h2 rl rl2 w1 w2
        by_cases hz : us.toArray.size = us2.toArray.size
        · have z := SeqAt.RcAt.lists il il2 hz hu0 k
          have ee : (List.range us.toArray.size).all (fun j => deq (xs.getD j .non) (ys.getD j .non)) = deq (.lst xs) (.lst ys) := by
            simp only [deq]
            rw [← all_in (us := us) (ws := us2) (by rw [← w1.length, rl.len]) (by rw [← w2.length, rl2.len]) (fun j => rfl), ← hz]
            simp
          rw [ee] at z
          exact z
        · have z := SeqAt.RcAt.lists_lengths il il2 (by simpa using hz) hu0
          have ee : deq (.lst xs) (.lst ys) = false := by
            simp only [deq]
            rw [← all_in (us := us) (ws := us2) (by rw [← w1.length, rl.len]) (by rw [← w2.length, rl2.len]) (fun j => rfl)]
            rw [show (us.toArray.size == us2.toArray.size) = false from by simpa using hz, Bool.and_false]
          rw [ee]
          exact z
    | tup xs =>
      obtain ⟨p, vs, us, rfl, rl, w1, il⟩ := seqT r1 q1
      cases e with
      | dic t ks => simp [simp?] at h2
      | ins c fs => simp [simp?] at h2
      | non => cases r2.non; cases q2; exact SeqAt.RcAt.tuple_none il hu0
      | bl y => cases r2.bl; cases q2; exact SeqAt.RcAt.tuple_bool y il hu0
      | int y => cases r2.int; obtain ⟨t, rfl⟩ := q2; exact SeqAt.RcAt.tuple_int y t il hu0
      | str y => cases r2.str; obtain ⟨t, rfl⟩ := q2; exact SeqAt.RcAt.tuple_str y t il hu0
      | lst ys =>
        obtain ⟨p2, vs2, us2, rfl, rl2, w2, il2⟩ := seqL r2 q2
        exact SeqAt.RcAt.tuple_list il il2 hu0
      | tup ys =>
        obtain ⟨p2, vs2, us2, rfl, rl2, w2, il2⟩ := seqT r2 q2
        simp only [simp?] at h1 h2
        have z := SeqAt.RcAt.tuples il il2 hu0 (item h1 h2 rl rl2 w1 w2)
        rw [all_in (by rw [← w1.length, rl.len]) (by rw [← w2.length, rl2.len]) (fun j => rfl)] at z
        simp only [deq]
        exact z
    | non =>
      cases e with
      | lst ys =>
        obtain ⟨p2, vs2, us2, rfl, rl2, w2, il2⟩ := seqL r2 q2
        cases r1.non; cases q1; exact SeqAt.RcAt.none_list il2 hu0
      | tup ys =>
        obtain ⟨p2, vs2, us2, rfl, rl2, w2, il2⟩ := seqT r2 q2
        cases r1.non; cases q1; exact SeqAt.RcAt.none_tuple il2 hu0
      | dic t ks => simp [simp?] at h2
      | ins c fs => simp [simp?] at h2
      | _ => exact rc_atom rfl rfl r1 r2 q1 q2
    | bl x =>
      cases e with
      | lst ys =>
        obtain ⟨p2, vs2, us2, rfl, rl2, w2, il2⟩ := seqL r2 q2
        cases r1.bl; cases q1; exact SeqAt.RcAt.bool_list x il2 hu0
      | tup ys =>
        obtain ⟨p2, vs2, us2, rfl, rl2, w2, il2⟩ := seqT r2 q2
        cases r1.bl; cases q1; exact SeqAt.RcAt.bool_tuple x il2 hu0
      | dic t ks => simp [simp?] at h2
      | ins c fs => simp [simp?] at h2
      | _ => exact rc_atom rfl rfl r1 r2 q1 q2
    | int x =>
      cases e with
      | lst ys =>
        obtain ⟨p2, vs2, us2, rfl, rl2, w2, il2⟩ := seqL r2 q2
        cases r1.int; obtain ⟨t, rfl⟩ := q1; exact SeqAt.RcAt.int_list x t il2 hu0
      | tup ys =>
        obtain ⟨p2, vs2, us2, rfl, rl2, w2, il2⟩ := seqT r2 q2
        cases r1.int; obtain ⟨t, rfl⟩ := q1; exact SeqAt.RcAt.int_tuple x t il2 hu0
      | dic t ks => simp [simp?] at h2
      | ins c fs => simp [simp?] at h2
      | _ => exact rc_atom rfl rfl r1 r2 q1 q2
    | str x =>
      cases e with
      | lst ys =>
        obtain ⟨p2, vs2, us2, rfl, rl2, w2, il2⟩ := seqL r2 q2
        cases r1.str; obtain ⟨t, rfl⟩ := q1; exact SeqAt.RcAt.str_list x t il2 hu0
      | tup ys =>
        obtain ⟨p2, vs2, us2, rfl, rl2, w2, il2⟩ := seqT r2 q2
        cases r1.str; obtain ⟨t, rfl⟩ := q1; exact SeqAt.RcAt.str_tuple x t il2 hu0
      | dic t ks => simp [simp?] at h2
      | ins c fs => simp [simp?] at h2
      | _ => exact rc_atom rfl rfl r1 r2 q1 q2
theorem ne_atom {A : Around} {d e : D} {v u : V} {a b : Value} (h1 : simp? 0 d = true) (h2 : simp? 0 e = true) (r1 : BRep cl F H d v) (r2 : BRep cl F H e u) (q1 : RelV v a) (q2 : RelV u b) : SeqAt.RcNeAt A s a b (!deq d e) := by
    cases d with
    | lst xs => simp [simp?] at h1
    | tup xs => simp [simp?] at h1
    | dic t ks => simp [simp?] at h1
    | ins c fs => simp [simp?] at h1
    | non =>
      cases r1.non
      cases q1
      cases e with
      | non => cases r2.non; cases q2; exact SeqAt.RcNeAt.none_none
      | bl y => cases r2.bl; cases q2; exact SeqAt.RcNeAt.none_bool y
      | int y => cases r2.int; obtain ⟨t, rfl⟩ := q2; exact SeqAt.RcNeAt.none_int y t
      | str y => cases r2.str; obtain ⟨t, rfl⟩ := q2; exact SeqAt.RcNeAt.none_str y t
      | _ => simp [simp?] at h2
    | bl x =>
      cases r1.bl
      cases q1
      cases e with
      | non => cases r2.non; cases q2; exact SeqAt.RcNeAt.bool_none x
      | bl y => cases r2.bl; cases q2; exact SeqAt.RcNeAt.bool_bool x y
      | int y => cases r2.int; obtain ⟨t, rfl⟩ := q2; exact SeqAt.RcNeAt.bool_int x y t
      | str y => cases r2.str; obtain ⟨t, rfl⟩ := q2; exact SeqAt.RcNeAt.bool_str x y t
      | _ => simp [simp?] at h2
    | int x =>
      cases r1.int
      obtain ⟨t0, rfl⟩ := q1
      cases e with
      | non => cases r2.non; cases q2; exact SeqAt.RcNeAt.int_none x t0
      | bl y => cases r2.bl; cases q2; exact SeqAt.RcNeAt.int_bool x t0 y
      | int y => cases r2.int; obtain ⟨t, rfl⟩ := q2; exact SeqAt.RcNeAt.int_int x t0 y t
      | str y => cases r2.str; obtain ⟨t, rfl⟩ := q2; exact SeqAt.RcNeAt.int_str x t0 y t
      | _ => simp [simp?] at h2
    | str x =>
      cases r1.str
      obtain ⟨t0, rfl⟩ := q1
      cases e with
      | non => cases r2.non; cases q2; exact SeqAt.RcNeAt.str_none x t0
      | bl y => cases r2.bl; cases q2; exact SeqAt.RcNeAt.str_bool x t0 y
      | int y => cases r2.int; obtain ⟨t, rfl⟩ := q2; exact SeqAt.RcNeAt.str_int x t0 y t
      | str y => cases r2.str; obtain ⟨t, rfl⟩ := q2; exact SeqAt.RcNeAt.str_str x t0 y t
      | _ => simp [simp?] at h2
theorem ne_data' (I : L2.Inv X pins σ H s) (hs : Sub F H) : ∀ (n : Nat) (A : Around) (d e : D) (v u : V) (a b : Value), simp? n d = true → simp? n e = true → A.units + n < cLine → BRep cl F H d v → BRep cl F H e u → RelV v a → RelV u b → SeqAt.RcNeAt A s a b (!deq d e) := by
  intro n
  induction n with
  | zero => exact fun A d e v u a b h1 h2 hu r1 r2 q1 q2 => ne_atom h1 h2 r1 r2 q1 q2
  | succ n ih =>
    intro A d e v u a b h1 h2 hu r1 r2 q1 q2
    have hu0 : A.units < cLine := by omega
    have item : ∀ {ds es : List D} {vs ws : List V} {xs ys : List Value}, simpL? n ds = true → simpL? n es = true → RepL cl F ds vs → RepL cl F es ws → Vals vs xs → Vals ws ys →
        ∀ j (g1 : j < xs.toArray.size) (g2 : j < ys.toArray.size), SeqAt.EqAt A.in1 s xs.toArray[j] ys.toArray[j] (deq (ds.getD j .non) (es.getD j .non)) := by
      intro ds es vs ws xs ys s1 s2 l1 l2 w1 w2 j g1 g2
      have n1 : j < ds.length := by rw [← l1.len, w1.length]; simpa using g1
      have n2 : j < es.length := by rw [← l2.len, w2.length]; simpa using g2
      obtain ⟨v1, e1, p1⟩ := l1.at (List.getElem?_eq_getElem n1)
      obtain ⟨v2, e2, p2⟩ := l2.at (List.getElem?_eq_getElem n2)
      have k1 : RelV v1 xs.toArray[j] := vals_at w1 e1 (by simp)
      have k2 : RelV v2 ys.toArray[j] := vals_at w2 e2 (by simp)
      have d1 : ds.getD j .non = ds[j] := by rw [List.getD_eq_getElem?_getD, List.getElem?_eq_getElem n1]; rfl
      have d2 : es.getD j .non = es[j] := by rw [List.getD_eq_getElem?_getD, List.getElem?_eq_getElem n2]; rfl
      have f1 := simpL_at s1 (List.getElem?_eq_getElem n1)
      have f2 := simpL_at s2 (List.getElem?_eq_getElem n2)
      rw [d1, d2]
      refine eq_of_rc k1 p1 (fun z => ?_) (rc_data I hs n A.in1 ds[j] es[j] v1 v2 _ _ f1 f2 (by show A.units + 1 + n < cLine; omega) (.inl p1) (.inl p2) k1 k2)
      rw [z] at k1
      have : v1 = v2 := RelV.inj k1 k2
      subst this
      rw [Rep.inj f1 f2 p1 p2]
      exact deq_refl _ f2
    have seqL : ∀ {xs : List D} {v : V} {a : Value}, BRep cl F H (.lst xs) v → RelV v a → ∃ (p : Addr) (vs : List V) (us : List Value), a = .ref p ∧ RepL cl F xs vs ∧ Vals vs us ∧ s.heap.IsList p us.toArray := fun r q => by
      obtain ⟨p, vs, rfl, rd, rl, _⟩ := r.lst' hs
      cases q
      obtain ⟨us, w1, pl, _⟩ := I.list (.inl rd)
      exact ⟨p, vs, us, rfl, rl, w1, pl.isList⟩
    have seqT : ∀ {xs : List D} {v : V} {a : Value}, BRep cl F H (.tup xs) v → RelV v a → ∃ (p : Addr) (vs : List V) (us : List Value), a = .ref p ∧ RepL cl F xs vs ∧ Vals vs us ∧ s.heap.IsTuple p us.toArray := fun r q => by
      obtain ⟨p, vs, rfl, rd, rl, _⟩ := r.tup' hs
      cases q
      obtain ⟨us, w1, pl, _⟩ := I.tuple (.inl rd)
      exact ⟨p, vs, us, rfl, rl, w1, pl⟩
    cases d with
    | dic t ks => simp [simp?] at h1
    | ins c fs => simp [simp?] at h1
    | lst xs =>
      obtain ⟨p, vs, us, rfl, rl, w1, il⟩ := seqL r1 q1
      cases e with
      | dic t ks => simp [simp?] at h2
      | ins c fs => simp [simp?] at h2
      | non => cases r2.non; cases q2; exact SeqAt.RcNeAt.list_none il hu0
      | bl y => cases r2.bl; cases q2; exact SeqAt.RcNeAt.list_bool y il hu0
      | int y => cases r2.int; obtain ⟨t, rfl⟩ := q2; exact SeqAt.RcNeAt.list_int y t il hu0
      | str y => cases r2.str; obtain ⟨t, rfl⟩ := q2; exact SeqAt.RcNeAt.list_str y t il hu0
      | tup ys =>
        obtain ⟨p2, vs2, us2, rfl, rl2, w2, il2⟩ := seqT r2 q2
        exact SeqAt.RcNeAt.list_tuple il il2 hu0
      | lst ys =>
        obtain ⟨p2, vs2, us2, rfl, rl2, w2, il2⟩ := seqL r2 q2
        simp only [simp?] at h1 h2
        have k := item h1 h2 rl rl2 w1 w2
        by_cases hz : us.toArray.size = us2.toArray.size
        · have z := SeqAt.RcNeAt.lists il il2 hz hu0 k
          have ee : (List.range us.toArray.size).all (fun j => deq (xs.getD j .non) (ys.getD j .non)) = deq (.lst xs) (.lst ys) := by
            simp only [deq]
            rw [← all_in (us := us) (ws := us2) (by rw [← w1.length, rl.len]) (by rw [← w2.length, rl2.len]) (fun j => rfl), ← hz]
            simp
          rw [ee] at z
          exact z
        · have z := SeqAt.RcNeAt.lists_lengths il il2 (by simpa using hz) hu0
          have ee : deq (.lst xs) (.lst ys) = false := by
            simp only [deq]
            rw [← all_in (us := us) (ws := us2) (by rw [← w1.length, rl.len]) (by rw [← w2.length, rl2.len]) (fun j => rfl)]
            rw [show (us.toArray.size == us2.toArray.size) = false from by simpa using hz, Bool.and_false]
          rw [ee]
          exact z
    | tup xs =>
      obtain ⟨p, vs, us, rfl, rl, w1, il⟩ := seqT r1 q1
      cases e with
      | dic t ks => simp [simp?] at h2
      | ins c fs => simp [simp?] at h2
      | non => cases r2.non; cases q2; exact SeqAt.RcNeAt.tuple_none il hu0
      | bl y => cases r2.bl; cases q2; exact SeqAt.RcNeAt.tuple_bool y il hu0
      | int y => cases r2.int; obtain ⟨t, rfl⟩ := q2; exact SeqAt.RcNeAt.tuple_int y t il hu0
      | str y => cases r2.str; obtain ⟨t, rfl⟩ := q2; exact SeqAt.RcNeAt.tuple_str y t il hu0
      | lst ys =>
        obtain ⟨p2, vs2, us2, rfl, rl2, w2, il2⟩ := seqL r2 q2
        exact SeqAt.RcNeAt.tuple_list il il2 hu0
      | tup ys =>
        obtain ⟨p2, vs2, us2, rfl, rl2, w2, il2⟩ := seqT r2 q2
        simp only [simp?] at h1 h2
        have z := SeqAt.RcNeAt.tuples il il2 hu0 (item h1 h2 rl rl2 w1 w2)
        rw [all_in (by rw [← w1.length, rl.len]) (by rw [← w2.length, rl2.len]) (fun j => rfl)] at z
        simp only [deq]
        exact z
    | non =>
      cases e with
      | lst ys =>
        obtain ⟨p2, vs2, us2, rfl, rl2, w2, il2⟩ := seqL r2 q2
        cases r1.non; cases q1; exact SeqAt.RcNeAt.none_list il2 hu0
      | tup ys =>
        obtain ⟨p2, vs2, us2, rfl, rl2, w2, il2⟩ := seqT r2 q2
        cases r1.non; cases q1; exact SeqAt.RcNeAt.none_tuple il2 hu0
      | dic t ks => simp [simp?] at h2
      | ins c fs => simp [simp?] at h2
      | _ => exact ne_atom rfl rfl r1 r2 q1 q2
    | bl x =>
      cases e with
      | lst ys =>
        obtain ⟨p2, vs2, us2, rfl, rl2, w2, il2⟩ := seqL r2 q2
        cases r1.bl; cases q1; exact SeqAt.RcNeAt.bool_list x il2 hu0
      | tup ys =>
        obtain ⟨p2, vs2, us2, rfl, rl2, w2, il2⟩ := seqT r2 q2
        cases r1.bl; cases q1; exact SeqAt.RcNeAt.bool_tuple x il2 hu0
      | dic t ks => simp [simp?] at h2
      | ins c fs => simp [simp?] at h2
      | _ => exact ne_atom rfl rfl r1 r2 q1 q2
    | int x =>
      cases e with
      | lst ys =>
        obtain ⟨p2, vs2, us2, rfl, rl2, w2, il2⟩ := seqL r2 q2
        cases r1.int; obtain ⟨t, rfl⟩ := q1; exact SeqAt.RcNeAt.int_list x t il2 hu0
      | tup ys =>
        obtain ⟨p2, vs2, us2, rfl, rl2, w2, il2⟩ := seqT r2 q2
        cases r1.int; obtain ⟨t, rfl⟩ := q1; exact SeqAt.RcNeAt.int_tuple x t il2 hu0
      | dic t ks => simp [simp?] at h2
      | ins c fs => simp [simp?] at h2
      | _ => exact ne_atom rfl rfl r1 r2 q1 q2
    | str x =>
      cases e with
      | lst ys =>
        obtain ⟨p2, vs2, us2, rfl, rl2, w2, il2⟩ := seqL r2 q2
        cases r1.str; obtain ⟨t, rfl⟩ := q1; exact SeqAt.RcNeAt.str_list x t il2 hu0
      | tup ys =>
        obtain ⟨p2, vs2, us2, rfl, rl2, w2, il2⟩ := seqT r2 q2
        cases r1.str; obtain ⟨t, rfl⟩ := q1; exact SeqAt.RcNeAt.str_tuple x t il2 hu0
      | dic t ks => simp [simp?] at h2
      | ins c fs => simp [simp?] at h2
      | _ => exact ne_atom rfl rfl r1 r2 q1 q2
/-- simple data, at most 50 deep -/
def sim (d : D) : Bool := simp? 50 d
def eqD : D → D → R D := fun d e => if sim d = true ∧ sim e = true then .ok (.bl (deq d e)) else .stuck
def neD : D → D → R D := fun d e => if sim d = true ∧ sim e = true then .ok (.bl (!deq d e)) else .stuck
end
def rSim (cl : Cl) (neg : Bool) : R2 := fun x y H Q => ∃ F d e, Sub F H ∧ BRep cl F H d x ∧ BRep cl F H e y ∧ sim d = true ∧ sim e = true ∧ Q (.bl (if neg = true then !deq d e else deq d e)) H
theorem op_eqS {X : Cx} (hu : X.A.units + 64 < cLine) : OpR X (compareOp .Eq) (rSim cl false) := by
  intro pins s σ H x y v u Q I rx ry ⟨F, d, e, hs, r1, r2, z1, z2, q⟩
  exact rc_data I hs 50 X.A d e x y v u z1 z2 (by omega) r1 r2 rx ry X.prog X.w _ _ ⟨.bl _, H, I, rfl, q⟩
theorem eq_2 : Op2 cl (relF cl) eqD (rSim cl false) := by
  intro W F H d e v u Q σ s r1 r2 p
  unfold eqD at p
  split at p
  · rename_i h
    exact ⟨F, d, e, s, r1, r2, h.1, h.2, PostG.done p s (by simp only [relF, Rep]; rfl)⟩
  · exact p.elim
end
end HL

namespace HL
open PySem PySem.Spec PyProof.Rows L2
section
variable {cl : Cl}
theorem op_neS {X : Cx} (hu : X.A.units + 64 < cLine) : OpR X (compareOp .NotEq) (rSim cl true) := by
  intro pins s σ H x y v u Q I rx ry ⟨F, d, e, hs, r1, r2, z1, z2, q⟩
  exact ne_data' I hs 50 X.A d e x y v u z1 z2 (by omega) r1 r2 rx ry X.prog X.w _ _ ⟨.bl _, H, I, rfl, q⟩
theorem ne_2 : Op2 cl (relF cl) neD (rSim cl true) := by
  intro W F H d e v u Q σ s r1 r2 p
  unfold neD at p
  split at p
  · rename_i h
    exact ⟨F, d, e, s, r1, r2, h.1, h.2, PostG.done p s (by simp only [relF, Rep]; rfl)⟩
  · exact p.elim

/-! ### in -/
def inL (x : D) : List D → Bool
  | [] => false
  | y :: ys => deq y x || inL x ys
def isSign (x : Str) : Bool := x.length == 1
/-- where a text stands in a text -/
def inS (x y : Str) : Bool := !(Builtin.Str.occurrences y x 0 y.length 1).isEmpty
def lookD (k : D) : List (D × D) → Option D
  | [] => none
  | (q, d) :: r => if deq q k = true then some d else lookD k r
def okKey (t : Bool) (k : D) : Bool := if t then (keyT k).isSome else (keyD k).isSome
def inD : D → D → R Bool
  | x, .lst ys => if sim x = true ∧ simpL? 50 ys = true then .ok (inL x ys) else .stuck
  | x, .tup ys => if sim x = true ∧ simpL? 50 ys = true then .ok (inL x ys) else .stuck
  | .str x, .str y => .ok (inS x y)
  | x, .dic t ks => if okKey t x = true then .ok (lookD x ks).isSome else .stuck
  | _, _ => .stuck
def inD' (d e : D) : R D := (inD d e).bind fun b => .ok (.bl b)
def notInD' (d e : D) : R D := (inD d e).bind fun b => .ok (.bl (!b))
def rInG (neg : Bool) : R2 := fun x y H Q => ∃ F d ds, Sub F H ∧ BRep cl F H d x ∧ (BRep cl F H (.lst ds) y ∨ BRep cl F H (.tup ds) y) ∧ sim d = true ∧ simpL? 50 ds = true ∧ Q (.bl (if neg = true then !inL d ds else inL d ds)) H
theorem inL_any {x : D} : ∀ {ds : List D} {us : List Value} {f : Value → Bool}, us.length = ds.length → (∀ (j : Nat) (d : D) (u : Value), ds[j]? = some d → us[j]? = some u → f u = deq d x) → us.any f = inL x ds
  | [], [], f, _, _ => rfl
  | [], u :: us, f, h, _ => by simp at h
  | d :: ds, [], f, h, _ => by simp at h
  | d :: ds, u :: us, f, h, k => by
    simp only [List.any_cons, inL]
    rw [k 0 d u rfl rfl, inL_any (ds := ds) (us := us) (by simpa using h) fun j d' u' h1 h2 => k (j + 1) d' u' (by simpa using h1) (by simpa using h2)]
theorem same_deq {F H : Hp} {ds : List D} {vs : List V} {us : List Value} (rl : RepL cl F ds vs) (w : Vals vs us) (h : simpL? 50 ds = true) {j k : Nat} {d e : D} {u : Value} (h1 : ds[j]? = some d) (h2 : us[j]? = some u) (h3 : ds[k]? = some e) (h4 : us[k]? = some u) : d = e := by
  obtain ⟨v1, a1, b1⟩ := rl.at h1
  obtain ⟨v2, a2, b2⟩ := rl.at h3
  have := RelV.inj (vals_at w a1 h2) (vals_at w a2 h4)
  subst this
  exact Rep.inj (simpL_at h h1) (simpL_at h h3) b1 b2
theorem toArr_any {α : Type} (us : List α) (f : α → Bool) : us.toArray.any f = us.any f := by simp
open Classical in
theorem op_inG {X : Cx} (hu : X.A.units + 65 < cLine) {op : CmpOp} {neg : Bool} (hop : (op = .In ∧ neg = false) ∨ (op = .NotIn ∧ neg = true)) : OpR X (compareOp op) (rInG (cl := cl) neg) := by
  intro pins s σ H x y v u Q I rx ry ⟨F, d, ds, hs, r1, r2, z1, z2, q⟩
  -- the items, each with its datum
  have key : ∀ {vs : List V} {us : List Value}, RepL cl F ds vs → Vals vs us → ∃ f : Value → Bool, (∀ y, y ∈ us.toArray → SeqAt.EqAt X.A.in1 s y v (f y)) ∧ us.toArray.any f = inL d ds := by
    intro vs us rl w
    have hl : us.length = ds.length := by rw [← w.length, rl.len]
    refine ⟨fun y => if h : ∃ (j : Nat) (e : D), ds[j]? = some e ∧ us[j]? = some y then deq (Classical.choose (Classical.choose_spec h)) d else false, fun y hy => ?_, ?_⟩
    · obtain ⟨j, hj⟩ := List.mem_iff_getElem?.mp (show y ∈ us by simpa using hy)
      have hlt := (List.getElem?_eq_some_iff.mp hj).1
      have hx : ∃ (j : Nat) (e : D), ds[j]? = some e ∧ us[j]? = some y := ⟨j, ds[j]'(by omega), List.getElem?_eq_getElem (by omega), hj⟩
      simp only [dif_pos hx]
      have hs2 := Classical.choose_spec (Classical.choose_spec hx)
      obtain ⟨v1, a1, b1⟩ := rl.at hs2.1
      have k1 := vals_at w a1 hs2.2
      have f1 := simpL_at z2 hs2.1
      refine eq_of_rc k1 b1 (fun z => ?_) (rc_data I hs 50 X.A.in1 _ d v1 x y v f1 z1 (by show X.A.units + 1 + 50 < cLine; omega) (.inl b1) r1 k1 rx)
      rw [z] at k1
      have : v1 = x := RelV.inj k1 rx
      subst this
      rw [brep_inj f1 z1 (.inl b1) r1]
      exact deq_refl _ z1
    · rw [toArr_any]
      refine inL_any hl fun j e y h1 h2 => ?_
      have hx : ∃ (j : Nat) (e : D), ds[j]? = some e ∧ us[j]? = some y := ⟨j, e, h1, h2⟩
      simp only [dif_pos hx]
      have hs2 := Classical.choose_spec (Classical.choose_spec hx)
      rw [same_deq (H := H) rl w z2 hs2.1 hs2.2 h1 h2]
  have fin : ∀ b, b = inL d ds → (∀ (Q' : Value → Shared → Prop), Q' (.bool (if neg = true then !b else b)) s → True) := fun _ _ _ _ => trivial
  rcases r2 with r2 | r2
  · obtain ⟨p, vs, rfl, rd, rl, _⟩ := r2.lst' hs
    cases ry
    obtain ⟨us, w, pl, _⟩ := I.list (.inl rd)
    obtain ⟨f, k1, k2⟩ := key rl w
    rcases hop with ⟨rfl, rfl⟩ | ⟨rfl, rfl⟩
    · exact SeqAt.in_listAt f pl.isList k1 ⟨.bl _, H, I, rfl, by rw [k2]; exact q⟩
    · exact SeqAt.notIn_listAt f pl.isList k1 ⟨.bl _, H, I, rfl, by rw [k2]; exact q⟩
  · obtain ⟨p, vs, rfl, rd, rl, _⟩ := r2.tup' hs
    cases ry
    obtain ⟨us, w, pl, _⟩ := I.tuple (.inl rd)
    obtain ⟨f, k1, k2⟩ := key rl w
    rcases hop with ⟨rfl, rfl⟩ | ⟨rfl, rfl⟩
    · exact SeqAt.in_tupleAt f pl k1 ⟨.bl _, H, I, rfl, by rw [k2]; exact q⟩
    · exact SeqAt.notIn_tupleAt f pl k1 ⟨.bl _, H, I, rfl, by rw [k2]; exact q⟩
/-- dicts: the key's place -/
theorem keyD_rep {F : Hp} {k : D} {q : Key} {v : V} (h : keyD k = some q) (r : Rep cl F k v) : v = kV q := by
  cases k <;> simp [keyD] at h
  · subst h; exact RepIn.int r
  · subst h; exact RepIn.str r
theorem keyD_deq {k l : D} {q r : Key} (h : keyD k = some q) (h' : keyD l = some r) : deq k l = decide (q = r) := by
  cases k <;> simp [keyD] at h <;> cases l <;> simp [keyD] at h' <;> subst h <;> subst h' <;> simp [deq]
  all_goals first | rfl | (rename_i a b; by_cases e : a = b <;> simp [e])
theorem keysD_rep {F : Hp} : ∀ {ks : List D} {qs : List Key} {vs : List V}, keysD ks = some qs → RepL cl F ks vs → vs = qs.map kV
  | [], qs, vs, h, r => by
    simp only [keysD] at h
    cases h
    simp only [RepL] at r
    exact r
  | k :: ks, qs, vs, h, r => by
    simp only [keysD] at h
    split at h
    · rename_i q qs' h1 h2
      cases h
      simp only [RepL] at r
      obtain ⟨v, r', rfl, a, b⟩ := r
      rw [keyD_rep h1 a, keysD_rep h2 b]
      rfl
    · cases h
theorem keysD_deq : ∀ {ks ls : List D} {q r : List Key}, keysD ks = some q → keysD ls = some r → deqL ks ls = decide (q = r)
  | [], [], q, r, h, h' => by simp only [keysD] at h h'; cases h; cases h'; rfl
  | [], l :: ls, q, r, h, h' => by
    simp only [keysD] at h h'
    cases h
    split at h'
    · cases h'; rfl
    · cases h'
  | k :: ks, [], q, r, h, h' => by
    simp only [keysD] at h h'
    cases h'
    split at h
    · cases h; rfl
    · cases h
  | k :: ks, l :: ls, q, r, h, h' => by
    simp only [keysD] at h h'
    split at h
    · rename_i a as h1 h2
      cases h
      split at h'
      · rename_i b bs h3 h4
        cases h'
        simp only [deqL]
        rw [keyD_deq h1 h3, keysD_deq h2 h4]
        by_cases e1 : a = b <;> by_cases e2 : as = bs <;> simp [e1, e2]
      · cases h'
    · cases h
theorem keyT_deq {k l : D} {q r : List Key} (h : keyT k = some q) (h' : keyT l = some r) : deq k l = decide (q = r) := by
  cases k <;> simp only [keyT] at h <;> first | cases h | skip
  all_goals (cases l <;> simp only [keyT] at h' <;> first | cases h' | skip)
  all_goals (simp only [deq]; exact keysD_deq h h')
theorem valV_cons {κ : Type} [DecidableEq κ] {p q : κ} {v : V} {s : List (κ × V)} : valV ((p, v) :: s) q = if p = q then some v else valV s q := by
  unfold valV
  by_cases e : p = q
  · rw [if_pos e, List.find?_cons_of_pos (by simpa using e)]
    rfl
  · rw [if_neg e, List.find?_cons_of_neg (by simpa using e)]
theorem lookK {F : Hp} {k : D} {q : Key} (hk : keyD k = some q) : ∀ {ks : List (D × D)} {qs : List (Key × V)}, RepK cl F ks qs → (lookD k ks = none ∧ valV qs q = none) ∨ ∃ d v, lookD k ks = some d ∧ valV qs q = some v ∧ Rep cl F d v
  | [], qs, h => by
    simp only [RepK] at h
    subst h
    exact .inl ⟨rfl, rfl⟩
  | (l, d) :: r, qs, h => by
    simp only [RepK] at h
    obtain ⟨p, v, s, rfl, h1, h2, h3⟩ := h
    simp only [lookD, valV_cons]
    rw [keyD_deq h1 hk]
    by_cases e : p = q
    · subst e
      exact .inr ⟨d, v, by simp, by simp, h2⟩
    · rw [if_neg (by simpa using e)]
      rcases lookK hk h3 with ⟨a, b⟩ | ⟨d', v', a, b, c⟩
      · exact .inl ⟨a, by rw [if_neg e]; exact b⟩
      · exact .inr ⟨d', v', a, by rw [if_neg e]; exact b, c⟩
theorem lookT {F : Hp} {k : D} {q : List Key} (hk : keyT k = some q) : ∀ {ks : List (D × D)} {qs : List (List Key × V)}, RepT cl F ks qs → (lookD k ks = none ∧ valV qs q = none) ∨ ∃ d v, lookD k ks = some d ∧ valV qs q = some v ∧ Rep cl F d v
  | [], qs, h => by
    simp only [RepT] at h
    subst h
    exact .inl ⟨rfl, rfl⟩
  | (l, d) :: r, qs, h => by
    simp only [RepT] at h
    obtain ⟨p, v, s, rfl, h1, h2, h3⟩ := h
    simp only [lookD, valV_cons]
    rw [keyT_deq h1 hk]
    by_cases e : p = q
    · subst e
      exact .inr ⟨d, v, by simp, by simp, h2⟩
    · rw [if_neg (by simpa using e)]
      rcases lookT hk h3 with ⟨a, b⟩ | ⟨d', v', a, b, c⟩
      · exact .inl ⟨a, by rw [if_neg e]; exact b⟩
      · exact .inr ⟨d', v', a, by rw [if_neg e]; exact b, c⟩
/-- a look-up in a borrowed dict -/
theorem dget_of {F H : Hp} (hs : Sub F H) {t : Bool} {ks : List (D × D)} {k : D} {x y : V} (r1 : BRep cl F H (.dic t ks) x) (r2 : BRep cl F H k y) (hk : okKey t k = true) :
    ∃ a o, x = .ref a ∧ DGet H a y o ∧ ((lookD k ks = none ∧ o = none) ∨ ∃ d v, lookD k ks = some d ∧ o = some v ∧ Rep cl F d v) := by
  obtain ⟨a, u, rfl, rd, ob⟩ := r1.obj hs rfl
  cases t with
  | false =>
    obtain ⟨qs, rfl, rk⟩ := ob
    simp only [okKey, Bool.false_eq_true, if_false] at hk
    obtain ⟨q, hq⟩ := Option.isSome_iff_exists.mp hk
    have ry : y = kV q := keyD_rep hq (BRep.atom (F' := F) r2 (by cases k <;> simp [keyD] at hq <;> rfl))
    refine ⟨a, valV qs q, rfl, .inl ⟨qs, q, rd, ry, rfl⟩, ?_⟩
    exact lookK hq rk
  | true =>
    obtain ⟨qs, rfl, rk⟩ := ob
    simp only [okKey, if_true] at hk
    obtain ⟨q, hq⟩ := Option.isSome_iff_exists.mp hk
    cases k with
    | tup xs =>
      simp only [keyT] at hq
      rcases r2 with r2 | ⟨_, _, _, _, _, _, mu⟩
      · obtain ⟨b, vs, rfl, hb, rl, _⟩ := RepIn.tup r2
        refine ⟨a, valV qs q, rfl, .inr ⟨qs, q, b, rd, rfl, ?_, rfl⟩, ?_⟩
        · rw [← keysD_rep hq rl]
          exact hs.fix hb
        · exact lookT (by simp only [keyT]; exact hq) rk
      · cases mu
    | _ => simp [keyT] at hq
def rInK (neg : Bool) : R2 := fun x y H Q => ∃ a o, y = .ref a ∧ DGet H a x o ∧ Q (.bl (if neg = true then !o.isSome else o.isSome)) H
theorem op_inK {X : Cx} (hu : X.A.units + 1 < cLine) : OpR X (compareOp .In) (rInK false) := by
  intro pins s σ H x y v u Q I rx ry ⟨a, o, e, g, q⟩
  subst e
  cases ry
  exact d_in hu I g rx fun s3 I3 => ⟨.bl _, H, I3, rfl, q⟩
theorem op_notInK {X : Cx} (hu : X.A.units + 1 < cLine) : OpR X (compareOp .NotIn) (rInK true) := by
  intro pins s σ H x y v u Q I rx ry ⟨a, o, e, g, q⟩
  subst e
  cases ry
  exact d_notIn hu I g rx fun s3 I3 => ⟨.bl _, H, I3, rfl, q⟩
def rInS (neg : Bool) : R2 := fun x y H Q => ∃ i j, x = V.str i ∧ y = V.str j ∧ Q (V.bl (if neg = true then !inS i j else inS i j)) H
def rInAll (cl : Cl) (neg : Bool) : R2 := fun x y H Q => (rInG (cl := cl) neg x y H Q ∨ rInK neg x y H Q) ∨ rInS neg x y H Q
theorem op_inA {X : Cx} (hu : X.A.units + 65 < cLine) : OpR X (compareOp .In) (rInAll cl false) :=
  ((op_inG hu (.inl ⟨rfl, rfl⟩)).or (op_inK (by omega))).or fun pins s σ H x y v u Q I rx ry ⟨i, j, e1, e2, q⟩ => op_in_str pins s σ H x y v u Q I rx ry ⟨i, j, e1, e2, q⟩
theorem op_notInA {X : Cx} (hu : X.A.units + 65 < cLine) : OpR X (compareOp .NotIn) (rInAll cl true) :=
  ((op_inG hu (.inr ⟨rfl, rfl⟩)).or (op_notInK (by omega))).or fun pins s σ H x y v u Q I rx ry ⟨i, j, e1, e2, q⟩ => op_notIn_str pins s σ H x y v u Q I rx ry ⟨i, j, e1, e2, q⟩
def inN (neg : Bool) (d e : D) : R D := (inD d e).bind fun b => .ok (.bl (if neg = true then !b else b))
theorem in_2 {neg : Bool} : Op2 cl (relF cl) (inN neg) (rInAll cl neg) := by
  intro W F H d e v u Q σ s r1 r2 p
  unfold inN at p
  unfold inD at p
  split at p
  · split at p
    · rename_i h
      exact .inl (.inl ⟨F, _, _, s, r1, .inl r2, h.1, h.2, PostG.done p s (by simp only [relF, Rep])⟩)
    · exact p.elim
  · split at p
    · rename_i h
      exact .inl (.inl ⟨F, _, _, s, r1, .inr r2, h.1, h.2, PostG.done p s (by simp only [relF, Rep])⟩)
    · exact p.elim
  · exact .inr ⟨_, _, r1.str, r2.str, PostG.done p s (by simp only [relF, Rep])⟩
  · split at p
    · rename_i h
      obtain ⟨a, o, rfl, g, c⟩ := dget_of s r2 r1 h
      refine .inl (.inr ⟨a, o, rfl, g, ?_⟩)
      rcases c with ⟨c1, rfl⟩ | ⟨d', v', c1, rfl, _⟩
      · rw [c1] at p
        exact PostG.done p s (by simp only [relF, Rep]; rfl)
      · rw [c1] at p
        exact PostG.done p s (by simp only [relF, Rep]; rfl)
    · exact p.elim
  · exact p.elim

/-! ### < of tuples, texts, ints -/
mutual
def dlt : D → D → Option Bool
  | .int i, .int j => some (decide (i < j))
  | .str x, .str y => some (decide (x.cps.toList < y.cps.toList))
  | .tup xs, .tup ys => dltL xs ys
  | _, _ => none
def dltL : List D → List D → Option Bool
  | [], [] => some false
  | [], _ :: _ => some true
  | _ :: _, [] => some false
  | x :: xs, y :: ys => if deq x y = true then dltL xs ys else dlt x y
end
mutual
/-- an order stands between them, all the way down -/
def cmpOk : D → D → Bool
  | .int _, .int _ => true
  | .str _, .str _ => true
  | .tup xs, .tup ys => cmpOkL xs ys
  | _, _ => false
def cmpOkL : List D → List D → Bool
  | x :: xs, y :: ys => cmpOk x y && cmpOkL xs ys
  | _, _ => true
end
def dltB (d e : D) : Bool := (dlt d e).getD false
def ltD : D → D → R D := fun d e => if sim d = true ∧ sim e = true ∧ cmpOk d e = true then .ok (.bl (dltB d e)) else .stuck
theorem lexAt_shift {e r : Nat → Bool} {z : Bool} : ∀ {n i : Nat}, Ob.lexAt e r z (i + 1) n = Ob.lexAt (fun j => e (j + 1)) (fun j => r (j + 1)) z i n
  | 0, i => rfl
  | n + 1, i => by rw [Ob.lexAt_succ, Ob.lexAt_succ, lexAt_shift]
theorem dltL_lex : ∀ {ds es : List D} {b : Bool} {r : Nat → Bool}, dltL ds es = some b → (∀ (j : Nat), deq (ds.getD j .non) (es.getD j .non) = false → j < ds.length → j < es.length → (∀ c, dlt (ds.getD j .non) (es.getD j .non) = some c → r j = c)) →
    Ob.lexAt (fun j => deq (ds.getD j .non) (es.getD j .non)) r (decide (ds.length < es.length)) 0 (min ds.length es.length) = b
  | [], [], b, r, h, _ => by simp only [dltL] at h; cases h; rfl
  | [], y :: ys, b, r, h, _ => by simp only [dltL] at h; cases h; simp [Ob.lexAt_zero]
  | x :: xs, [], b, r, h, _ => by simp only [dltL] at h; cases h; simp [Ob.lexAt_zero]
  | x :: xs, y :: ys, b, r, h, k => by
    simp only [dltL] at h
    rw [show min (x :: xs).length (y :: ys).length = min xs.length ys.length + 1 by simp only [List.length_cons]; omega, Ob.lexAt_succ, lexAt_shift]
    simp only [List.getD_cons_zero, List.getD_cons_succ, List.length_cons]
    by_cases e : deq x y = true
    · rw [if_pos e] at h
      rw [if_pos e]
      have ih := dltL_lex (r := fun j => r (j + 1)) h fun j h1 h2 h3 c hc => k (j + 1) (by simpa using h1) (by simp; omega) (by simp; omega) c (by simpa using hc)
      rw [← ih]
      congr 1
      simp
    · rw [if_neg e] at h
      rw [if_neg e]
      exact k 0 (by simpa using e) (by simp) (by simp) b (by simpa using h)
mutual
theorem cmpOk_some : ∀ {d e : D}, cmpOk d e = true → ∃ b, dlt d e = some b
  | .int _, .int _, _ => ⟨_, rfl⟩
  | .str _, .str _, _ => ⟨_, rfl⟩
  | .tup xs, .tup ys, h => by
    simp only [cmpOk] at h
    simp only [dlt]
    exact cmpOkL_some h
  | .non, e, h => by simp [cmpOk] at h
  | .bl _, e, h => by simp [cmpOk] at h
  | .lst _, e, h => by simp [cmpOk] at h
  | .dic _ _, e, h => by simp [cmpOk] at h
  | .ins _ _, e, h => by simp [cmpOk] at h
  | .int _, .non, h => by simp [cmpOk] at h
  | .int _, .bl _, h => by simp [cmpOk] at h
  | .int _, .str _, h => by simp [cmpOk] at h
  | .int _, .lst _, h => by simp [cmpOk] at h
  | .int _, .tup _, h => by simp [cmpOk] at h
  | .int _, .dic _ _, h => by simp [cmpOk] at h
  | .int _, .ins _ _, h => by simp [cmpOk] at h
  | .str _, .non, h => by simp [cmpOk] at h
  | .str _, .bl _, h => by simp [cmpOk] at h
  | .str _, .int _, h => by simp [cmpOk] at h
  | .str _, .lst _, h => by simp [cmpOk] at h
  | .str _, .tup _, h => by simp [cmpOk] at h
  | .str _, .dic _ _, h => by simp [cmpOk] at h
  | .str _, .ins _ _, h => by simp [cmpOk] at h
  | .tup _, .non, h => by simp [cmpOk] at h
  | .tup _, .bl _, h => by simp [cmpOk] at h
  | .tup _, .int _, h => by simp [cmpOk] at h
  | .tup _, .str _, h => by simp [cmpOk] at h
  | .tup _, .lst _, h => by simp [cmpOk] at h
  | .tup _, .dic _ _, h => by simp [cmpOk] at h
  | .tup _, .ins _ _, h => by simp [cmpOk] at h
theorem cmpOkL_some : ∀ {ds es : List D}, cmpOkL ds es = true → ∃ b, dltL ds es = some b
  | [], [], _ => ⟨_, rfl⟩
  | [], _ :: _, _ => ⟨_, rfl⟩
  | _ :: _, [], _ => ⟨_, rfl⟩
  | x :: xs, y :: ys, h => by
    simp only [cmpOkL, Bool.and_eq_true] at h
    simp only [dltL]
    by_cases e : deq x y = true
    · rw [if_pos e]
      exact cmpOkL_some h.2
    · rw [if_neg e]
      exact cmpOk_some h.1
end
theorem cmpOkL_at : ∀ {ds es : List D} {j : Nat} {d e : D}, cmpOkL ds es = true → ds[j]? = some d → es[j]? = some e → cmpOk d e = true
  | x :: xs, y :: ys, 0, d, e, h, h1, h2 => by
    simp only [cmpOkL, Bool.and_eq_true] at h
    cases h1
    cases h2
    exact h.1
  | x :: xs, y :: ys, j + 1, d, e, h, h1, h2 => by
    simp only [cmpOkL, Bool.and_eq_true] at h
    exact cmpOkL_at h.2 (by simpa using h1) (by simpa using h2)
theorem lt_data {X : Cx} {pins : List (Addr × Obj)} {σ : L2.St} {H F : Hp} {s : Shared} (I : L2.Inv X pins σ H s) (hs : Sub F H) : ∀ (n : Nat) (A : Around) (d e : D) (v u : V) (a b : Value), simp? n d = true → simp? n e = true → cmpOk d e = true → A.units + n < cLine → BRep cl F H d v → BRep cl F H e u → RelV v a → RelV u b →
    Ob.RcOp .Lt A s a b (dltB d e) := by
  have atoms : ∀ (A : Around) (d e : D) (v u : V) (a b : Value), simp? 0 d = true → cmpOk d e = true → BRep cl F H d v → BRep cl F H e u → RelV v a → RelV u b → Ob.RcOp .Lt A s a b (dltB d e) := by
    intro A d e v u a b h0 hc r1 r2 q1 q2
    cases d with
    | int i => cases e with
      | int j =>
        cases r1.int; cases r2.int
        obtain ⟨t, rfl⟩ := q1
        obtain ⟨t', rfl⟩ := q2
        exact Ob.RcOp.lt_int i j t t'
      | _ => simp [cmpOk] at hc
    | str i => cases e with
      | str j =>
        cases r1.str; cases r2.str
        obtain ⟨t, rfl⟩ := q1
        obtain ⟨t', rfl⟩ := q2
        exact fun prog w E Q h => lt_str h
      | _ => simp [cmpOk] at hc
    | tup xs => simp [simp?] at h0
    | _ => simp [cmpOk] at hc
  intro n
  induction n with
  | zero => exact fun A d e v u a b h1 h2 hc hu r1 r2 q1 q2 => atoms A d e v u a b h1 hc r1 r2 q1 q2
  | succ n ih =>
    intro A d e v u a b h1 h2 hc hu r1 r2 q1 q2
    cases d with
    | tup xs => cases e with
      | tup ys =>
        obtain ⟨p, vs, rfl, rd, rl, _⟩ := r1.tup' hs
        obtain ⟨p2, vs2, rfl, rd2, rl2, _⟩ := r2.tup' hs
        cases q1
        cases q2
        obtain ⟨us, w1, il, _⟩ := I.tuple (.inl rd)
        obtain ⟨us2, w2, il2, _⟩ := I.tuple (.inl rd2)
        simp only [simp?] at h1 h2
        simp only [cmpOk] at hc
        have l1 : us.length = xs.length := by rw [← w1.length, rl.len]
        have l2 : us2.length = ys.length := by rw [← w2.length, rl2.len]
        obtain ⟨b, hb⟩ := cmpOkL_some hc
        have hb' : dltB (.tup xs) (.tup ys) = b := by unfold dltB; simp only [dlt, hb]; rfl
        rw [hb']
        have z := Ob.RcOp.tuples_lt (A := A) (s := s) (e := fun j => deq (xs.getD j .non) (ys.getD j .non)) (r := fun j => dltB (xs.getD j .non) (ys.getD j .non)) il il2 (by omega) (fun j g1 g2 => ?_) (fun j g1 g2 he => ?_)
        · have sz : us.toArray.size = xs.length := by simpa using l1
          have sz2 : us2.toArray.size = ys.length := by simpa using l2
          rw [sz, sz2, dltL_lex hb fun j _ _ _ c hc => by unfold dltB; rw [hc]; rfl] at z
          exact z
        · have n1 : j < xs.length := by simpa [l1] using g1
          have n2 : j < ys.length := by simpa [l2] using g2
          obtain ⟨v1, e1, p1⟩ := rl.at (List.getElem?_eq_getElem n1)
          obtain ⟨v2, e2, p2⟩ := rl2.at (List.getElem?_eq_getElem n2)
          have k1 : RelV v1 us.toArray[j] := vals_at w1 e1 (by simp)
          have k2 : RelV v2 us2.toArray[j] := vals_at w2 e2 (by simp)
          have d1 : xs.getD j .non = xs[j] := by rw [List.getD_eq_getElem?_getD, List.getElem?_eq_getElem n1]; rfl
          have d2 : ys.getD j .non = ys[j] := by rw [List.getD_eq_getElem?_getD, List.getElem?_eq_getElem n2]; rfl
          have f1 := simpL_at h1 (List.getElem?_eq_getElem n1)
          have f2 := simpL_at h2 (List.getElem?_eq_getElem n2)
          show SeqAt.EqAt A.in1 s _ _ (deq (xs.getD j .non) (ys.getD j .non))
          rw [d1, d2]
          refine eq_of_rc k1 p1 (fun z => ?_) (rc_data I hs n A.in1 xs[j] ys[j] v1 v2 _ _ f1 f2 (by show A.units + 1 + n < cLine; omega) (.inl p1) (.inl p2) k1 k2)
          rw [z] at k1
          have : v1 = v2 := RelV.inj k1 k2
          subst this
          rw [Rep.inj f1 f2 p1 p2]
          exact deq_refl _ f2
        · have n1 : j < xs.length := by simpa [l1] using g1
          have n2 : j < ys.length := by simpa [l2] using g2
          obtain ⟨v1, e1, p1⟩ := rl.at (List.getElem?_eq_getElem n1)
          obtain ⟨v2, e2, p2⟩ := rl2.at (List.getElem?_eq_getElem n2)
          have k1 : RelV v1 us.toArray[j] := vals_at w1 e1 (by simp)
          have k2 : RelV v2 us2.toArray[j] := vals_at w2 e2 (by simp)
          have d1 : xs.getD j .non = xs[j] := by rw [List.getD_eq_getElem?_getD, List.getElem?_eq_getElem n1]; rfl
          have d2 : ys.getD j .non = ys[j] := by rw [List.getD_eq_getElem?_getD, List.getElem?_eq_getElem n2]; rfl
          show Ob.RcOp .Lt A.in1 s _ _ (dltB (xs.getD j .non) (ys.getD j .non))
          rw [d1, d2]
          exact ih A.in1 xs[j] ys[j] v1 v2 _ _ (simpL_at h1 (List.getElem?_eq_getElem n1)) (simpL_at h2 (List.getElem?_eq_getElem n2)) (cmpOkL_at hc (List.getElem?_eq_getElem n1) (List.getElem?_eq_getElem n2)) (by show A.units + 1 + n < cLine; omega) (.inl p1) (.inl p2) k1 k2
      | _ => simp [cmpOk] at hc
    | int i => exact atoms A _ e v u a b rfl hc r1 r2 q1 q2
    | str i => exact atoms A _ e v u a b rfl hc r1 r2 q1 q2
    | _ => simp [cmpOk] at hc
def rLtD (cl : Cl) : R2 := fun x y H Q => ∃ F d e, Sub F H ∧ BRep cl F H d x ∧ BRep cl F H e y ∧ sim d = true ∧ sim e = true ∧ cmpOk d e = true ∧ Q (.bl (dltB d e)) H
theorem op_ltD {X : Cx} (hu : X.A.units + 64 < cLine) : OpR X (compareOp .Lt) (rLtD cl) := by
  intro pins s σ H x y v u Q I rx ry ⟨F, d, e, hs, r1, r2, z1, z2, z3, q⟩
  exact lt_data I hs 50 X.A d e x y v u z1 z2 z3 (by omega) r1 r2 rx ry X.prog X.w _ _ ⟨.bl _, H, I, rfl, q⟩
theorem lt_2 : Op2 cl (relF cl) ltD (rLtD cl) := by
  intro W F H d e v u Q σ s r1 r2 p
  unfold ltD at p
  split at p
  · rename_i h
    exact ⟨F, d, e, s, r1, r2, h.1, h.2.1, h.2.2, PostG.done p s (by simp only [relF, Rep])⟩
  · exact p.elim
def cmpI (f : Int → Int → Bool) : D → D → R D
  | .int i, .int j => .ok (.bl (f i j))
  | _, _ => .stuck
theorem cmpI_2 {f : Int → Int → Bool} : Op2 cl (relF cl) (cmpI f) (rI0 fun i j => V.bl (f i j)) := by
  intro W F H d e v u Q σ s r1 r2 p
  unfold cmpI at p
  split at p
  · exact ⟨_, _, r1.int, r2.int, PostG.done p s (by simp only [relF, Rep])⟩
  · exact p.elim
end
end HL

namespace HL
open PySem PySem.Spec PyProof.Rows L2
section
variable {cl : Cl}
/-! ### items and slices -/
def atD (ds : List D) (i : Int) : R D := match atI ds i with
  | some d => .ok d
  | none => .stuck
def ixSeq : D → D → R D
  | .lst ds, .int i => atD ds i
  | .tup ds, .int i => atD ds i
  | .str x, .int i => if x.length ≤ sizeLine then match atI x.cps.toList i with
    | some c => .ok (.str ⟨#[c]⟩)
    | none => .stuck
    else .stuck
  | _, _ => .stuck
def ixDic : D → D → R D
  | .dic t ks, k => if okKey t k = true then match lookD k ks with
    | some d => .ok d
    | none => .stuck
    else .stuck
  | _, _ => .stuck
def isDic : D → Bool
  | .dic _ _ => true
  | _ => false
def ixD (d e : D) : R D := if isDic d = true then ixDic d e else ixSeq d e
theorem atI_rep {F : Hp} {ds : List D} {vs : List V} {i : Int} {d : D} (r : RepL cl F ds vs) (h : atI ds i = some d) : ∃ v, atI vs i = some v ∧ Rep cl F d v := by
  unfold atI at h ⊢
  rw [r.len]
  cases e : ixN ds.length i with
  | none => rw [e] at h; cases h
  | some j =>
    rw [e] at h
    exact r.at h
def rDGet : R2 := fun x y H Q => ∃ a v, x = .ref a ∧ DGet H a y (some v) ∧ Q v H
theorem ixSeq_2 {K : PySem.W.Frag} : Op2 cl (relF cl) ixSeq (rIx K) := by
  intro W F H d e v u Q σ s r1 r2 p
  unfold ixSeq at p
  split at p
  · unfold atD at p
    split at p
    · rename_i d hd
      obtain ⟨p', vs, rfl, rd, rl, _⟩ := r1.lst' s
      obtain ⟨w, hw, rw'⟩ := atI_rep rl hd
      exact .inl ⟨p', vs, _, w, rfl, r2.int, .inl rd, hw, PostG.done p s rw'⟩
    · exact p.elim
  · unfold atD at p
    split at p
    · rename_i d hd
      obtain ⟨p', vs, rfl, rd, rl, _⟩ := r1.tup' s
      obtain ⟨w, hw, rw'⟩ := atI_rep rl hd
      exact .inr (.inl ⟨p', vs, _, w, rfl, r2.int, .inl rd, hw, PostG.done p s rw'⟩)
    · exact p.elim
  · split at p
    · rename_i hz
      split at p
      · rename_i c hc
        exact .inr (.inr ⟨_, _, c, r1.str, r2.int, hz, hc, PostG.done p s (by simp only [relF, Rep])⟩)
      · exact p.elim
    · exact p.elim
  · exact p.elim
theorem ixDic_2 : Op2 cl (relF cl) ixDic rDGet := by
  intro W F H d e v u Q σ s r1 r2 p
  unfold ixDic at p
  split at p
  · split at p
    · rename_i hk
      obtain ⟨a, o, rfl, g, c⟩ := dget_of s r1 r2 hk
      rcases c with ⟨c1, rfl⟩ | ⟨d', v', c1, rfl, rr⟩
      · rw [c1] at p; exact p.elim
      · rw [c1] at p
        exact ⟨a, v', rfl, g, PostG.done p s rr⟩
    · exact p.elim
  · exact p.elim
section
variable {X : Cx} {W : WX} {a b : Expr} {pos : Pos} {ma mb : HEnv → R D}
theorem d_ix (hu : X.A.units + 1 < cLine) (ha : PE X a (tB cl W ma)) (hb : PE X b (tB cl W mb)) (hs : PlainIx b := by exact fun _ _ => rfl) (hn : NoSl b := by exact fun _ _ => rfl) : PE X (.Subscript a b pos) (tF cl W (m2 ixD ma mb)) := by
  refine pe_case (n := ma) fun r => ?_
  have main : ∀ (r : R D), (∀ d, r = .ok d → isDic d = false) → ∀ σ H Q F0 H0 F env, HSt cl F0 H0 F env σ H → ma env = r → PostG cl (relF cl) W (m2 ixD ma mb env) F σ H Q → tOp (rIx X.K) (tB cl W ma) (tB cl W mb) σ H Q := by
    intro r hd σ H Q F0 H0 F env st em q
    refine read2 (rel' := relF cl) oldF carB (fun Hs F H d v e u Q σ s r1 r2 p => ixSeq_2 W F H d e v u Q σ s r1 r2 p) ⟨F0, H0, F, env, st, ?_⟩
    simp only [m2, em] at q ⊢
    cases r with
    | ok d =>
      simp only [R.bind_ok] at q ⊢
      have z : ∀ e, ixD d e = ixSeq d e := fun e => by unfold ixD; rw [if_neg (by rw [hd d rfl]; decide)]
      simp only [z] at q
      exact q
    | er x => exact q
    | stuck => exact q
  rcases r with d | x | _
  · by_cases hd : isDic d = true
    · refine ⟨_, pe_dget hu ha hb hn, fun σ H Q F0 H0 F env st em q => ?_⟩
      show tOp rDGet (tB cl W ma) (tB cl W mb) σ H Q
      refine read2 (rel' := relF cl) oldF carB (fun Hs F H d v e u Q σ s r1 r2 p => ixDic_2 W F H d e v u Q σ s r1 r2 p) ⟨F0, H0, F, env, st, ?_⟩
      simp only [m2, em, R.bind_ok] at q ⊢
      have z : ∀ e, ixD d e = ixDic d e := fun e => by unfold ixD; rw [if_pos hd]
      simp only [z] at q
      exact q
    · exact ⟨_, pe_ix ix_seq ha hb hs, main _ fun d' e => by cases e; simpa using hd⟩
  · exact ⟨_, pe_ix ix_seq ha hb hs, main _ fun d' e => by cases e⟩
  · exact ⟨_, pe_ix ix_seq ha hb hs, main _ fun d' e => by cases e⟩
/-! ### slices -/
def mPart (m : HEnv → R D) : HEnv → R (Option Int) := m1 (fun d => match d with
  | .int i => .ok (some i)
  | _ => .stuck) m
def mNoPart : HEnv → R (Option Int) := fun _ => .ok none
def relO : Rel (Option Int) (Option Int) := fun _ _ _ a b => b = a
abbrev tPt (cl : Cl) (W : WX) (m : HEnv → R (Option Int)) : TO := tG cl relO W m
theorem oldO : Old relO := fun _ _ _ _ _ _ _ h => h
theorem carO : Carry relO := fun _ _ _ _ _ _ _ _ _ h => h
theorem po_weak {e : Option Expr} {t t' : TO} (h : PO X e t) (w : ∀ σ H Q, t' σ H Q → t σ H Q) : PO X e t' := ⟨fun pins s σ H Q I q => h.run pins s σ H Q I (w σ H Q q)⟩
theorem dp_some {e : Expr} {m : HEnv → R D} (h : PE X e (tF cl W m)) : PO X (some e) (tPt cl W (mPart m)) := by
  refine po_weak (po_some h) fun σ H Q q => ?_
  refine read1 (r := fun x H1 Q => ∃ i, x = V.int i ∧ Q (some i) H1) oldO (fun Hs F H d v Q σ s r p => ?_) q
  cases d with
  | int i => exact ⟨i, RepIn.int r, PostG.done p s rfl⟩
  | _ => exact p.elim
theorem dp_none : PO X none (tPt cl W mNoPart) := po_weak po_none fun σ H Q ⟨F0, H0, F, env, st, q⟩ => PostG.done (rel := relO) (v := none) q st.sub rfl
def cutL (ds : List D) (lo hi : Option Int) : List D := List.take (HT.sIx ds.length ds.length hi - HT.sIx ds.length 0 lo) (List.drop (HT.sIx ds.length 0 lo) ds)
def slD (d : D) (lo hi : Option Int) : R D := match d with
  | .lst ds => .ok (.lst (cutL ds lo hi))
  | .tup ds => .ok (.tup (cutL ds lo hi))
  | .str x => if x.length ≤ sizeLine then .ok (.str (cutS x lo hi)) else .stuck
  | _ => .stuck
def slLst (d : D) (lo hi : Option Int) : R D := match d with
  | .lst ds => .ok (.lst (cutL ds lo hi))
  | _ => .stuck
def mSl (f : D → Option Int → Option Int → R D) (m : HEnv → R D) (l h : HEnv → R (Option Int)) : HEnv → R D := fun env => (m env).bind fun d => (l env).bind fun lo => (h env).bind fun hi => f d lo hi
theorem RepL.takeD {F : Hp} : ∀ (n : Nat) {ds : List D} {vs : List V}, RepL cl F ds vs → RepL cl F (ds.take n) (vs.take n)
  | 0, ds, vs, h => by simp [RepL]
  | n + 1, [], vs, h => by simp only [RepL] at h; subst h; simp [RepL]
  | n + 1, d :: ds, vs, h => by
    simp only [RepL] at h
    obtain ⟨v, r, rfl, a, b⟩ := h
    simp only [List.take_succ_cons, RepL]
    exact ⟨v, _, rfl, a, RepL.takeD n b⟩
theorem RepL.dropD {F : Hp} : ∀ (n : Nat) {ds : List D} {vs : List V}, RepL cl F ds vs → RepL cl F (ds.drop n) (vs.drop n)
  | 0, ds, vs, h => h
  | n + 1, [], vs, h => by simp only [RepL] at h; subst h; simp [RepL]
  | n + 1, d :: ds, vs, h => by
    simp only [RepL] at h
    obtain ⟨v, r, rfl, a, b⟩ := h
    exact RepL.dropD n b
theorem cut_rep {F : Hp} {ds : List D} {vs : List V} {lo hi : Option Int} (h : RepL cl F ds vs) : RepL cl F (cutL ds lo hi) (cutV vs lo hi) := by
  unfold cutL cutV
  rw [h.len]
  exact (h.dropD _).takeD _
theorem cut_len {ds : List D} {lo hi : Option Int} : (cutL ds lo hi).length ≤ ds.length := by
  unfold cutL
  rw [List.length_take, List.length_drop]
  omega
theorem readSl {rel : Rel D V} (ho : Old rel) {f : D → Option Int → Option Int → R D} {m : HEnv → R D} {l h : HEnv → R (Option Int)} {r : V → Option Int → Option Int → Hp → VK → Prop} {σ : L2.St} {H : Hp} {Q : VK}
    (hr : ∀ F H d v lo hi Q σ, Sub F H → BRep cl F H d v → PostG cl rel W (f d lo hi) F σ H Q → r v lo hi H Q) (q : tG cl rel W (mSl f m l h) σ H Q) : tSl r (tB cl W m) (tPt cl W l) (tPt cl W h) σ H Q := by
  refine bindG (k := fun d env => (l env).bind fun lo => (h env).bind fun hi => f d lo hi) ho q fun d v F0 H0 F1 env Hs H1 s r1 p => ?_
  refine ⟨F0, H0, F1, env, s, ?_⟩
  refine PostG.lift p fun lo _ lo' F2 H2 k2 s2 e2 p2 => ?_
  obtain rfl : lo' = lo := e2
  refine ⟨F0, H0, F2, env, s.step k2 s2, ?_⟩
  refine PostG.lift (PostG.step ho p2 k2) fun hi _ hi' F3 H3 k3 s3 e3 p3 => ?_
  obtain rfl : hi' = hi := e3
  exact hr F3 H3 d v lo' hi' Q σ s3 ((BRep.kp k2 r1).kp k3) (PostG.step ho p3 k3)
theorem d_sl {e : Expr} {lo hi : Option Expr} {p2 : Pos} {l h : HEnv → R (Option Int)} (he : PE X e (tB cl W ma)) (hl : PO X lo (tPt cl W l)) (hh : PO X hi (tPt cl W h)) : PE X (.Subscript e (.Slice lo hi none p2) pos) (tF cl W (mSl slD ma l h)) := by
  refine pe_case (n := ma) fun r => ?_
  have er : ∀ (r : R D), (∀ d, r = .ok d → slD d = fun _ _ => .stuck) → ∃ t : TE, PE X (.Subscript e (.Slice lo hi none p2) pos) t ∧ ∀ σ H Q F0 H0 F env, HSt cl F0 H0 F env σ H → ma env = r → PostG cl (relF cl) W (mSl slD ma l h env) F σ H Q → t σ H Q := by
    intro r hd
    refine ⟨_, pe_slice sl_list he hl hh, fun σ H Q F0 H0 F env st em q => ?_⟩
    refine readSl (f := fun _ _ _ => .stuck) (oldF (cl := cl)) (fun F H d v lo hi Q σ s r p => p.elim) ⟨F0, H0, F, env, st, ?_⟩
    simp only [mSl, em] at q ⊢
    cases r with
    | ok d => simpa only [R.bind_ok, hd d rfl] using q
    | er x => exact q
    | stuck => exact q
  rcases r with (_ | b | i | x | xs | xs | _ | _) | x | _
  case ok.lst =>
    refine ⟨_, pe_slice sl_list he hl hh, fun σ H Q F0 H0 F env st em q => ?_⟩
    refine readSl (f := slLst) (oldF (cl := cl)) (fun F H d v lo hi Q σ s r p => ?_) ⟨F0, H0, F, env, st, ?_⟩
    · cases d with
      | lst ds =>
        obtain ⟨a, vs, rfl, rd, rl, z⟩ := r.lst' s
        exact ⟨a, vs, rfl, .inl rd, fun q hq => PostG.newF p s hq ⟨_, rfl, cut_rep rl, Nat.le_trans cut_len z⟩⟩
      | _ => exact p.elim
    · simp only [mSl, em, R.bind_ok, slD, slLst] at q ⊢
      exact q
  case ok.tup =>
    refine ⟨_, pe_slice sl_tupA he hl hh, fun σ H Q F0 H0 F env st em q => ?_⟩
    refine readSl (f := fun d lo hi => match d with | .tup ds => .ok (.tup (cutL ds lo hi)) | _ => .stuck) (oldF (cl := cl)) (fun F H d v lo hi Q σ s r p => ?_) ⟨F0, H0, F, env, st, ?_⟩
    · cases d with
      | tup ds =>
        obtain ⟨a, vs, e1, rd, rl, z⟩ := r.tup' s
        refine ⟨a, vs, e1, .inl rd, fun hw => ?_, fun _ q hq => PostG.newF p s hq ⟨_, rfl, cut_rep rl, Nat.le_trans cut_len z⟩⟩
        have ec : cutL ds lo hi = ds := by
          unfold cutL
          rw [rl.len] at hw
          rw [hw.1, hw.2]
          simp
        simp only [ec] at p
        rw [← e1]
        exact PostG.done p s (r.elim id fun ⟨_, _, _, _, _, _, mu⟩ => by cases mu)
      | _ => exact p.elim
    · simp only [mSl, em, R.bind_ok, slD] at q ⊢
      exact q
  case ok.str =>
    refine ⟨_, pe_slice sl_str he hl hh, fun σ H Q F0 H0 F env st em q => ?_⟩
    refine readSl (f := fun d lo hi => match d with | .str x => if x.length ≤ sizeLine then .ok (.str (cutS x lo hi)) else .stuck | _ => .stuck) (oldF (cl := cl)) (fun F H d v lo hi Q σ s r p => ?_) ⟨F0, H0, F, env, st, ?_⟩
    · cases d with
      | str x =>
        simp only at p
        split at p
        · rename_i hz
          exact ⟨x, r.str, hz, PostG.done p s (by simp only [relF, Rep])⟩
        · exact p.elim
      | _ => exact p.elim
    · simp only [mSl, em, R.bind_ok, slD] at q ⊢
      exact q
  all_goals exact er _ (by intro d e; cases e; try rfl)
/-- a new list -/
theorem dn_sl {e : Expr} {lo hi : Option Expr} {p2 : Pos} {l h : HEnv → R (Option Int)} (he : PE X e (tB cl W ma)) (hl : PO X lo (tPt cl W l)) (hh : PO X hi (tPt cl W h)) : PE X (.Subscript e (.Slice lo hi none p2) pos) (tN cl W (mSl slLst ma l h)) := by
  refine pe_weak (pe_slice sl_list he hl hh) fun σ H Q q => readSl oldN (fun F H d v lo hi Q σ s r p => ?_) q
  cases d with
  | lst ds =>
    obtain ⟨a, vs, rfl, rd, rl, z⟩ := r.lst' s
    exact ⟨a, vs, rfl, .inl rd, fun q hq => PostG.new p s hq ⟨_, rfl, cut_rep rl, Nat.le_trans cut_len z⟩⟩
  | _ => exact p.elim
end
end
end HL

namespace HL
open PySem PySem.Spec PyProof.Rows L2
section
variable {cl : Cl}
/-! ### calls of built-ins, of one borrowed argument -/
def Un1 (cl : Cl) (rel : Rel D V) (f : D → R D) (r : List V → Hp → VK → Prop) : Prop := ∀ (W : WX) (F H : Hp) (d : D) (v : V) (Q : VK) (σ : L2.St), Sub F H → BRep cl F H d v → PostG cl rel W (f d) F σ H Q → r [v] H Q
section
variable {X : Cx} {W : WX} {e : Expr} {p pos : Pos} {x : Str} {m : HEnv → R D}
theorem d_callB {id : String} {r : List V → Hp → VK → Prop} {f : D → R D} (hc : CallR X (.builtin id) r) (hf : Un1 cl (relF cl) f r) (hg : Gl X x) (hm : X.mg x = none) (hv : bootBuiltins x = some (.builtin id)) (he : PE X e (tB cl W m))
    (hn : x ≠ "__name__" := by decide) (hd : (x == ("__debug__" : Str)) = false := by decide) (h1 : starEach (e :: []) X.env = (false, eval e X.env) :: starEach [] X.env := by rfl) (h2 : (backTo pos (starEach [] X.env)).any (·.1) = false := by rfl) :
    PE X (.Call (.Name x p) [e] [] pos) (tF cl W (m1 f m)) :=
  pe_weak (pe_callB hc hg hm hv (pa_cons he pa_nil h1) hn hd h1 h2) fun σ H Q q => read1 (r := fun v H Q => r [v] H Q) oldF (fun Hs F H d v Q σ s r1 p => hf W F H d v Q σ s r1 p) q
theorem d_callTy {T : String} {r : List V → Hp → VK → Prop} {f : D → R D} (hc : CallR X (.type T) r) (hf : Un1 cl (relF cl) f r) (hg : Gl X x) (hm : X.mg x = none) (hv : bootBuiltins x = some (.type T)) (he : PE X e (tB cl W m))
    (hn : x ≠ "__name__" := by decide) (hd : (x == ("__debug__" : Str)) = false := by decide) (h1 : starEach (e :: []) X.env = (false, eval e X.env) :: starEach [] X.env := by rfl) (h2 : (backTo pos (starEach [] X.env)).any (·.1) = false := by rfl) :
    PE X (.Call (.Name x p) [e] [] pos) (tF cl W (m1 f m)) :=
  pe_weak (pe_callTy hc hg hm hv (pa_cons he pa_nil h1) hn hd h1 h2) fun σ H Q q => read1 (r := fun v H Q => r [v] H Q) oldF (fun Hs F H d v Q σ s r1 p => hf W F H d v Q σ s r1 p) q
theorem dn_callB {id : String} {r : List V → Hp → VK → Prop} {f : D → R D} (hc : CallR X (.builtin id) r) (hf : Un1 cl (relN cl) f r) (hg : Gl X x) (hm : X.mg x = none) (hv : bootBuiltins x = some (.builtin id)) (he : PE X e (tB cl W m))
    (hn : x ≠ "__name__" := by decide) (hd : (x == ("__debug__" : Str)) = false := by decide) (h1 : starEach (e :: []) X.env = (false, eval e X.env) :: starEach [] X.env := by rfl) (h2 : (backTo pos (starEach [] X.env)).any (·.1) = false := by rfl) :
    PE X (.Call (.Name x p) [e] [] pos) (tN cl W (m1 f m)) :=
  pe_weak (pe_callB hc hg hm hv (pa_cons he pa_nil h1) hn hd h1 h2) fun σ H Q q => read1 (r := fun v H Q => r [v] H Q) oldN (fun Hs F H d v Q σ s r1 p => hf W F H d v Q σ s r1 p) q
theorem dn_callTy {T : String} {r : List V → Hp → VK → Prop} {f : D → R D} (hc : CallR X (.type T) r) (hf : Un1 cl (relN cl) f r) (hg : Gl X x) (hm : X.mg x = none) (hv : bootBuiltins x = some (.type T)) (he : PE X e (tB cl W m))
    (hn : x ≠ "__name__" := by decide) (hd : (x == ("__debug__" : Str)) = false := by decide) (h1 : starEach (e :: []) X.env = (false, eval e X.env) :: starEach [] X.env := by rfl) (h2 : (backTo pos (starEach [] X.env)).any (·.1) = false := by rfl) :
    PE X (.Call (.Name x p) [e] [] pos) (tN cl W (m1 f m)) :=
  pe_weak (pe_callTy hc hg hm hv (pa_cons he pa_nil h1) hn hd h1 h2) fun σ H Q q => read1 (r := fun v H Q => r [v] H Q) oldN (fun Hs F H d v Q σ s r1 p => hf W F H d v Q σ s r1 p) q
end
theorem CallR.or {X : Cx} {f : Value} {r r' : List V → Hp → VK → Prop} (h : CallR X f r) (h' : CallR X f r') : CallR X f (fun xs H Q => r xs H Q ∨ r' xs H Q) := fun pins s σ H xs us Q I rv q => q.elim (h pins s σ H xs us Q I rv) (h' pins s σ H xs us Q I rv)
/-- len -/
def lenD : D → R D
  | .lst ds => .ok (.int ds.length)
  | .tup ds => .ok (.int ds.length)
  | .str x => if x.length ≤ sizeLine then .ok (.int x.length) else .stuck
  | .dic false ks => .ok (.int ks.length)
  | _ => .stuck
theorem RepK.len {F : Hp} : ∀ {ks : List (D × D)} {qs : List (Key × V)}, RepK cl F ks qs → qs.length = ks.length
  | [], qs, h => by simp only [RepK] at h; rw [h]; rfl
  | (k, d) :: r, qs, h => by
    simp only [RepK] at h
    obtain ⟨p, v, s, rfl, _, _, h3⟩ := h
    simp [RepK.len h3]
theorem call_lenR {X : Cx} : CallR X (.builtin "len") (fun xs H Q => ∃ a kvs, xs = [V.ref a] ∧ Rd H a (.dK kvs) ∧ Q (.int kvs.length) H) := by
  intro pins s σ H xs us Q I r ⟨a, kvs, e, h, q⟩
  subst e
  obtain ⟨u, rfl, ru⟩ := vals1 r
  cases ru
  exact d_len I h fun t s' I' => ⟨.int kvs.length, H, I', ⟨t, rfl⟩, q⟩
def rLen (K : PySem.W.Frag) : List V → Hp → VK → Prop := fun xs H Q => (∃ x n, xs = [x] ∧ LenV K x H n ∧ Q (.int n) H) ∨ ∃ a kvs, xs = [V.ref a] ∧ Rd H a (.dK kvs) ∧ Q (.int kvs.length) H
theorem call_lenA {X : Cx} : CallR X (.builtin "len") (rLen X.K) := CallR.or call_len call_lenR
theorem len_1 {K : PySem.W.Frag} : Un1 cl (relF cl) lenD (rLen K) := by
  intro W F H d v Q σ s r p
  unfold lenD at p
  split at p
  · obtain ⟨a, vs, rfl, rd, rl, _⟩ := r.lst' s
    exact .inl ⟨_, _, rfl, .inl ⟨vs, .inl rd, rfl⟩, by rw [rl.len]; exact PostG.done p s (by simp only [relF, Rep])⟩
  · obtain ⟨a, vs, rfl, rd, rl, _⟩ := r.tup' s
    exact .inl ⟨_, _, rfl, .inr ⟨vs, .inl rd, rfl⟩, by rw [rl.len]; exact PostG.done p s (by simp only [relF, Rep])⟩
  · split at p
    · rename_i h
      cases r.str
      exact .inl ⟨_, _, rfl, ⟨h, rfl⟩, PostG.done p s (by simp only [relF, Rep])⟩
    · exact p.elim
  · obtain ⟨a, u, rfl, rd, qs, rfl, rk⟩ := r.obj s rfl
    exact .inr ⟨a, qs, rfl, rd, by rw [rk.len]; exact PostG.done p s (by simp only [relF, Rep])⟩
  · exact p.elim
/-- list, tuple -/
def listD : D → R D
  | .lst ds => .ok (.lst ds)
  | .tup ds => .ok (.lst ds)
  | _ => .stuck
def rListOf (K : PySem.W.Frag) : List V → Hp → VK → Prop := fun xs H Q => ∃ p ys, xs = [V.ref p] ∧ (SqL K H p ys ∨ SqT K H p ys) ∧ ∀ l, H l = none → Q (.ref l) (upd H l (.lst ys))
theorem list_1 {K : PySem.W.Frag} : Un1 cl (relN cl) listD (rListOf K) := by
  intro W F H d v Q σ s r p
  unfold listD at p
  split at p
  · obtain ⟨a, vs, rfl, rd, rl, z⟩ := r.lst' s
    exact ⟨a, vs, rfl, .inl (.inl rd), fun l hl => PostG.new p s hl ⟨_, rfl, rl, z⟩⟩
  · obtain ⟨a, vs, rfl, rd, rl, z⟩ := r.tup' s
    exact ⟨a, vs, rfl, .inr (.inl rd), fun l hl => PostG.new p s hl ⟨_, rfl, rl, z⟩⟩
  · exact p.elim
def tupleD : D → R D
  | .lst ds => .ok (.tup ds)
  | .tup ds => .ok (.tup ds)
  | _ => .stuck
def rTupleOf (K : PySem.W.Frag) : List V → Hp → VK → Prop := fun xs H Q => ∃ p ys, xs = [V.ref p] ∧ ((SqL K H p ys ∧ ∀ l, H l = none → Q (.ref l) (upd H l (.tup ys))) ∨ SqT K H p ys ∧ Q (.ref p) H)
theorem tuple_1 {K : PySem.W.Frag} : Un1 cl (relF cl) tupleD (rTupleOf K) := by
  intro W F H d v Q σ s r p
  unfold tupleD at p
  split at p
  · obtain ⟨a, vs, rfl, rd, rl, z⟩ := r.lst' s
    exact ⟨a, vs, rfl, .inl ⟨.inl rd, fun l hl => PostG.newF p s hl ⟨_, rfl, rl, z⟩⟩⟩
  · obtain ⟨a, vs, rfl, rd, rl, z⟩ := r.tup' s
    exact ⟨a, vs, rfl, .inr ⟨.inl rd, PostG.done p s (r.elim id fun ⟨_, _, _, _, _, _, mu⟩ => by cases mu)⟩⟩
  · exact p.elim
/-- int -/
def intD : D → R D
  | .int i => .ok (.int i)
  | .bl b => .ok (.int (if b = true then 1 else 0))
  | .str x => if x.length ≤ 640 then match PySem.intText? x with
    | some n => .ok (.int n)
    | none => .stuck
    else .stuck
  | _ => .stuck
def rInt : List V → Hp → VK → Prop := fun xs H Q => ((∃ i, xs = [V.int i] ∧ Q (.int i) H) ∨ ∃ k, xs = [V.bl k] ∧ Q (.int (if k = true then 1 else 0)) H) ∨ ∃ a n, xs = [V.str a] ∧ PySem.intText? a = some n ∧ a.length ≤ 640 ∧ Q (.int n) H
theorem call_intA {X : Cx} : CallR X (.type "int") rInt := CallR.or call_int1 fun pins s σ H xs us Q I r ⟨a, n, h1, h2, h3, q⟩ => call_int_str pins s σ H xs us Q I r ⟨a, n, h1, h2, h3, q⟩
theorem int_1 : Un1 cl (relF cl) intD rInt := by
  intro W F H d v Q σ s r p
  unfold intD at p
  split at p
  · cases r.int; exact .inl (.inl ⟨_, rfl, PostG.done p s (by simp only [relF, Rep])⟩)
  · cases r.bl; exact .inl (.inr ⟨_, rfl, PostG.done p s (by simp only [relF, Rep])⟩)
  · split at p
    · rename_i hz
      split at p
      · rename_i n hn
        cases r.str; exact .inr ⟨_, n, rfl, hn, hz, PostG.done p s (by simp only [relF, Rep])⟩
      · exact p.elim
    · exact p.elim
  · exact p.elim
/-- str -/
def strD : D → R D
  | .str x => .ok (.str x)
  | .int i => if i.natAbs.log2 < 1920 then .ok (.str (Str.ofString (toString i))) else .stuck
  | _ => .stuck
def rStr : List V → Hp → VK → Prop := fun xs H Q => (∃ a, xs = [V.str a] ∧ Q (.str a) H) ∨ ∃ i, xs = [V.int i] ∧ i.natAbs.log2 < 1920 ∧ Q (.str (Str.ofString (toString i))) H
theorem call_strA {X : Cx} : CallR X (.type "str") rStr := CallR.or SkE.call_str_str call_str_int
theorem str_1 : Un1 cl (relF cl) strD rStr := by
  intro W F H d v Q σ s r p
  unfold strD at p
  split at p
  · cases r.str; exact .inl ⟨_, rfl, PostG.done p s (by simp only [relF, Rep])⟩
  · split at p
    · rename_i h
      cases r.int; exact .inr ⟨_, rfl, h, PostG.done p s (by simp only [relF, Rep])⟩
    · exact p.elim
  · exact p.elim
/-- all, any of bools -/
def boolsD : List D → Option (List Bool)
  | [] => some []
  | .bl b :: r => (boolsD r).map (b :: ·)
  | _ => none
theorem bools_rep {F : Hp} : ∀ {ds : List D} {bs : List Bool} {vs : List V}, boolsD ds = some bs → RepL cl F ds vs → vs = bs.map V.bl
  | [], bs, vs, h, r => by
    simp only [boolsD] at h
    cases h
    simp only [RepL] at r
    exact r
  | d :: ds, bs, vs, h, r => by
    cases d with
    | bl b =>
      simp only [boolsD] at h
      cases e : boolsD ds with
      | none => rw [e] at h; cases h
      | some cs =>
        rw [e] at h
        cases h
        simp only [RepL] at r
        obtain ⟨v, r', rfl, a, c⟩ := r
        rw [RepIn.bl a, bools_rep e c]
        rfl
    | _ => simp [boolsD] at h
def allD : D → R D
  | .lst ds => match boolsD ds with
    | some bs => .ok (.bl (bs.all id))
    | none => .stuck
  | _ => .stuck
def anyD : D → R D
  | .lst ds => match boolsD ds with
    | some bs => .ok (.bl (bs.any id))
    | none => .stuck
  | _ => .stuck
theorem all_1 {K : PySem.W.Frag} : Un1 cl (relF cl) allD (rAll K) := by
  intro W F H d v Q σ s r p
  unfold allD at p
  split at p
  · split at p
    · rename_i bs hb
      obtain ⟨a, vs, rfl, rd, rl, z⟩ := r.lst' s
      exact ⟨a, bs, rfl, by rw [← bools_rep hb rl]; exact .inl rd, PostG.done p s (by simp only [relF, Rep])⟩
    · exact p.elim
  · exact p.elim
theorem any_1 {K : PySem.W.Frag} : Un1 cl (relF cl) anyD (rAny K) := by
  intro W F H d v Q σ s r p
  unfold anyD at p
  split at p
  · split at p
    · rename_i bs hb
      obtain ⟨a, vs, rfl, rd, rl, z⟩ := r.lst' s
      exact ⟨a, bs, rfl, by rw [← bools_rep hb rl]; exact .inl rd, PostG.done p s (by simp only [relF, Rep])⟩
    · exact p.elim
  · exact p.elim
/-- sorted of texts -/
def strsD : List D → Option (List Str)
  | [] => some []
  | .str x :: r => (strsD r).map (x :: ·)
  | _ => none
theorem strs_rep {F : Hp} : ∀ {ds : List D} {xs : List Str} {vs : List V}, strsD ds = some xs → RepL cl F ds vs → vs = xs.map V.str
  | [], bs, vs, h, r => by
    simp only [strsD] at h
    cases h
    simp only [RepL] at r
    exact r
  | d :: ds, bs, vs, h, r => by
    cases d with
    | str b =>
      simp only [strsD] at h
      cases e : strsD ds with
      | none => rw [e] at h; cases h
      | some cs =>
        rw [e] at h
        cases h
        simp only [RepL] at r
        obtain ⟨v, r', rfl, a, c⟩ := r
        rw [RepIn.str a, strs_rep e c]
        rfl
    | _ => simp [strsD] at h
theorem rep_strs {F : Hp} : ∀ (xs : List Str), RepL cl F (xs.map D.str) (xs.map V.str)
  | [] => by simp only [List.map_nil, RepL]
  | x :: xs => by
    simp only [List.map_cons, RepL]
    exact ⟨_, _, rfl, by simp only [Rep], rep_strs xs⟩
theorem ltCps_irrefl : ∀ a : List Nat, ltCps a a = false
  | [] => rfl
  | x :: r => by simp [ltCps, ltCps_irrefl r]
theorem ltCps_anti : ∀ {a b : List Nat}, ltCps a b = false → ltCps b a = false → a = b
  | [], [], _, _ => rfl
  | [], y :: b, h, _ => by simp [ltCps] at h
  | x :: a, [], _, h => by simp [ltCps] at h
  | x :: a, y :: b, h, k => by
    simp only [ltCps, Bool.or_eq_false_iff, decide_eq_false_iff_not, Bool.and_eq_false_iff, beq_eq_false_iff_ne] at h k
    have e : x = y := by omega
    subst e
    rw [ltCps_anti (a := a) (b := b) (by rcases h.2 with z | z; exact absurd rfl z; exact z) (by rcases k.2 with z | z; exact absurd rfl z; exact z)]
theorem ltCps_trans : ∀ {a b c : List Nat}, ltCps b a = false → ltCps c b = false → ltCps c a = false
  | [], b, c, _, _ => by cases c <;> simp [ltCps]
  | x :: a, [], c, h, _ => by simp [ltCps] at h
  | x :: a, y :: b, [], _, k => by simp [ltCps] at k
  | x :: a, y :: b, z :: c, h, k => by
    simp only [ltCps, Bool.or_eq_false_iff, decide_eq_false_iff_not, Bool.and_eq_false_iff, beq_eq_false_iff_ne] at h k ⊢
    refine ⟨by omega, ?_⟩
    by_cases e : z = x
    · right
      have e1 : y = x := by omega
      have e2 : z = y := by omega
      exact ltCps_trans (by rcases h.2 with q | q; exact absurd e1 q; exact q) (by rcases k.2 with q | q; exact absurd e2 q; exact q)
    · exact .inl e
theorem ltCps_total {a b : List Nat} (h : ltCps a b = true) : ltCps b a = false := by
  cases e : ltCps b a with
  | false => rfl
  | true =>
    exfalso
    have key : ∀ {a b : List Nat}, ltCps a b = true → ltCps b a = true → False := by
      intro a
      induction a with
      | nil => intro b h k; cases b <;> simp [ltCps] at k
      | cons x a ih =>
        intro b h k
        cases b with
        | nil => simp [ltCps] at h
        | cons y b =>
          simp only [ltCps, Bool.or_eq_true, decide_eq_true_eq, Bool.and_eq_true, beq_iff_eq] at h k
          rcases h with h | ⟨h1, h2⟩
          · rcases k with k | ⟨k1, k2⟩ <;> omega
          · rcases k with k | ⟨k1, k2⟩
            · omega
            · exact ih h2 k2
    exact key h e
theorem str_ext {x y : Str} (h : x.cps.toList = y.cps.toList) : x = y := by
  cases x; cases y
  simp only at h
  congr 1
  exact Array.toList_inj.mp h
/-- texts by their signs -/
def leS (x y : Str) : Bool := !ltCps y.cps.toList x.cps.toList
theorem leS_trans {x y z : Str} (h : leS x y = true) (k : leS y z = true) : leS x z = true := by
  simp only [leS, Bool.not_eq_true'] at h k ⊢
  exact ltCps_trans h k
theorem leS_anti {x y : Str} (h : leS x y = true) (k : leS y x = true) : x = y := by
  simp only [leS, Bool.not_eq_true'] at h k
  exact str_ext (ltCps_anti k h)
theorem leS_total {x y : Str} (h : leS x y = false) : leS y x = true := by
  simp only [leS, Bool.not_eq_false', Bool.not_eq_true'] at h ⊢
  exact ltCps_total h
def insS (x : Str) : List Str → List Str
  | [] => [x]
  | y :: ys => if leS x y = true then x :: y :: ys else y :: insS x ys
def sortS : List Str → List Str
  | [] => []
  | x :: xs => insS x (sortS xs)
theorem insS_perm {x : Str} : ∀ {ys : List Str}, (insS x ys).Perm (x :: ys)
  | [] => List.Perm.refl _
  | y :: ys => by
    simp only [insS]
    split
    · exact List.Perm.refl _
    · exact (List.Perm.cons y insS_perm).trans (List.Perm.swap x y ys)
theorem sortS_perm : ∀ {xs : List Str}, (sortS xs).Perm xs
  | [] => List.Perm.refl _
  | x :: xs => insS_perm.trans (List.Perm.cons x sortS_perm)
theorem insS_sorted {x : Str} : ∀ {ys : List Str}, ys.Pairwise (fun a b => leS a b = true) → (insS x ys).Pairwise (fun a b => leS a b = true)
  | [], _ => by simp [insS]
  | y :: ys, h => by
    simp only [insS]
    have h' := List.pairwise_cons.mp h
    split
    · rename_i e
      refine List.pairwise_cons.mpr ⟨fun z hz => ?_, h⟩
      rcases List.mem_cons.mp hz with rfl | hz
      · exact e
      · exact leS_trans e (h'.1 z hz)
    · rename_i e
      refine List.pairwise_cons.mpr ⟨fun z hz => ?_, insS_sorted h'.2⟩
      rcases List.mem_cons.mp (insS_perm.mem_iff.mp hz) with rfl | hz
      · exact leS_total (by simpa using e)
      · exact h'.1 z hz
theorem sortS_sorted : ∀ {xs : List Str}, (sortS xs).Pairwise (fun a b => leS a b = true)
  | [] => List.Pairwise.nil
  | x :: xs => insS_sorted sortS_sorted
theorem sorted_unique : ∀ {xs ys : List Str}, xs.Perm ys → xs.Pairwise (fun a b => leS a b = true) → ys.Pairwise (fun a b => leS a b = true) → xs = ys
  | [], ys, p, _, _ => (List.Perm.nil_eq p).symm ▸ rfl
  | x :: xs, [], p, _, _ => absurd p.length_eq (by simp)
  | x :: xs, y :: ys, p, h, k => by
    have h' := List.pairwise_cons.mp h
    have k' := List.pairwise_cons.mp k
    have e : x = y := by
      have m1 : x ∈ y :: ys := p.mem_iff.mp List.mem_cons_self
      have m2 : y ∈ x :: xs := p.mem_iff.mpr List.mem_cons_self
      rcases List.mem_cons.mp m1 with e | m1
      · exact e
      · rcases List.mem_cons.mp m2 with e | m2
        · exact e.symm
        · exact leS_anti (h'.1 y m2) (k'.1 x m1)
    subst e
    rw [sorted_unique (List.Perm.cons_inv p) h'.2 k'.2]
theorem pairwise_of_sortedS : ∀ {xs : List Str}, sortedS xs = true → xs.Pairwise (fun a b => leS a b = true)
  | [], _ => List.Pairwise.nil
  | [x], _ => by simp
  | x :: y :: r, h => by
    have h2 : (leS x y && risingS y r) = true := h
    simp only [Bool.and_eq_true] at h2
    have ih := pairwise_of_sortedS (xs := y :: r) h2.2
    refine List.pairwise_cons.mpr ⟨fun z hz => ?_, ih⟩
    rcases List.mem_cons.mp hz with rfl | hz
    · exact h2.1
    · exact leS_trans h2.1 ((List.pairwise_cons.mp ih).1 z hz)
def sortD : D → R D
  | .lst ds => match strsD ds with
    | some xs => if xs.length < 64 then .ok (.lst ((sortS xs).map D.str)) else .stuck
    | none => .stuck
  | _ => .stuck
theorem strsD_len : ∀ {ds : List D} {xs : List Str}, strsD ds = some xs → xs.length = ds.length
  | [], xs, h => by simp only [strsD] at h; cases h; rfl
  | .str x :: r, xs, h => by
    simp only [strsD] at h
    cases e : strsD r with
    | none => rw [e] at h; cases h
    | some cs => rw [e] at h; cases h; simp [strsD_len e]
  | .non :: r, xs, h => by simp [strsD] at h
  | .bl _ :: r, xs, h => by simp [strsD] at h
  | .int _ :: r, xs, h => by simp [strsD] at h
  | .tup _ :: r, xs, h => by simp [strsD] at h
  | .lst _ :: r, xs, h => by simp [strsD] at h
  | .dic _ _ :: r, xs, h => by simp [strsD] at h
  | .ins _ _ :: r, xs, h => by simp [strsD] at h
theorem sort_1 {K : PySem.W.Frag} : Un1 cl (relN cl) sortD (rSortedS K) := by
  intro W F H d v Q σ s r p
  unfold sortD at p
  split at p
  · split at p
    · rename_i xs hx
      split at p
      · rename_i hl
        obtain ⟨a, vs, rfl, rd, rl, z⟩ := r.lst' s
        refine ⟨a, xs, rfl, by rw [← strs_rep hx rl]; exact .inl rd, hl, fun ys p' perm so hp => ?_⟩
        have e : ys = sortS xs := sorted_unique (perm.trans sortS_perm.symm) (pairwise_of_sortedS so) sortS_sorted
        subst e
        exact PostG.new p s hp ⟨_, rfl, rep_strs _, by rw [List.length_map, sortS_perm.length_eq]; exact Nat.le_trans (Nat.le_of_lt hl) (by rw [sizeLine_eq]; omega)⟩
      · exact p.elim
    · exact p.elim
  · exact p.elim
end
end HL

namespace HL
open PySem PySem.Spec PyProof.Rows L2
section
variable {cl : Cl}
/-! ### what is one's own is changed -/
theorem HSt.writeOwn {F0 : Bs} {H0 F H : Hp} {env : HEnv} {σ : L2.St} (s : HSt cl F0 H0 F env σ H) {i : Nat} {d d' : D} {p : Addr} {u : HO} (he : env[i]? = some (.own d)) (hp : σ[i]? = some (some (.ref p))) (hf : F p = none) (h0 : H0 p = none) (ob : ObjD cl F d' u) (hm : mutD d' = true) :
    HSt cl F0 H0 F (env.set i (.own d')) σ (upd H p u) := by
  have hl : i < env.length := (List.getElem?_eq_some_iff.mp he).1
  have nn : ∀ (j : Nat) (e : D) (q : Addr), j ≠ i → env[j]?.bind oL = some e → σ[j]? = some (some (.ref q)) → q ≠ p := fun j e q hj h1 h2 z => by
    subst z
    exact hj (s.dis j i e d q h1 (oL_own he) h2 hp)
  refine ⟨by simp [s.len], sub_upd s.sub hf, ⟨s.kp.ext, fun b o e => ?_, s.kp.fr⟩, fun j e h => ?_, fun j e h => ?_, fun j e h => ?_, fun j e h => ?_, fun j k e g q h1 h2 h3 h4 => ?_⟩
  · rw [upd_ne (ne_of_none e h0)]
    exact s.kp.same b o e
  · by_cases hj : i = j
    · subst hj
      rw [List.getElem?_set_self hl] at h
      cases h
    · rw [List.getElem?_set_ne hj] at h
      exact s.val j e h
  · by_cases hj : i = j
    · subst hj
      rw [List.getElem?_set_self hl] at h
      cases h
      exact ⟨p, hp, hf, h0, u, upd_same, ob, hm⟩
    · rw [List.getElem?_set_ne hj] at h
      obtain ⟨q, a, b, c, w, hw, o, mu⟩ := s.own j e h
      exact ⟨q, a, b, c, w, by rw [upd_ne (nn j e q (Ne.symm hj) h a)]; exact hw, o, mu⟩
  · by_cases hj : i = j
    · subst hj
      rw [List.getElem?_set_self hl] at h
      cases h
    · rw [List.getElem?_set_ne hj] at h
      exact s.lnt j e h
  · by_cases hj : i = j
    · subst hj
      rw [List.getElem?_set_self hl] at h
      cases h
    · rw [List.getElem?_set_ne hj] at h
      exact s.bor j e h
  · have back : ∀ (j : Nat) (e : D), (env.set i (.own d'))[j]?.bind oL = some e → ∃ e', env[j]?.bind oL = some e' := fun j e h => by
      by_cases hj : i = j
      · subst hj
        exact ⟨d, oL_own he⟩
      · rw [List.getElem?_set_ne hj] at h
        exact ⟨e, h⟩
    obtain ⟨e', h1'⟩ := back j e h1
    obtain ⟨g', h2'⟩ := back k g h2
    exact s.dis j k e' g' q h1' h2' h3 h4
/-- own.m(e): the thing at slot i becomes f of it and of e -/
def mOwn1 (i : Nat) (ty : D → Bool) (f : D → D → R D) (m : HEnv → R D) : HEnv → SO := fun env => match env[i]? with
  | some (.own c) => if ty c = true then sB m (fun d env => match f c d with
    | .ok c' => .nx (env.set i (.own c'))
    | _ => .stuck) env else .stuck
  | _ => .stuck
/-- own.m() -/
def mOwn0 (i : Nat) (f : D → R D) : HEnv → SO := fun env => match env[i]? with
  | some (.own c) => match f c with
    | .ok c' => .nx (env.set i (.own c'))
    | _ => .stuck
  | _ => .stuck
def OwnR1 (cl : Cl) (f : D → D → R D) (r : V → List V → Hp → VK → Prop) : Prop := ∀ (F H : Hp) (p : Addr) (c d c' : D) (u : HO) (v : V) (Q : VK), Sub F H → H p = some u → ObjD cl F c u → BRep cl F H d v → f c d = .ok c' →
  (∀ u', ObjD cl F c' u' → mutD c' = true → Q .non (upd H p u')) → r (.ref p) [v] H Q
def tyL (T : String) : D → Bool
  | .lst _ => T == "list"
  | .dic _ _ => T == "dict"
  | _ => false
theorem tyV_own {K : PySem.W.Frag} {F H : Hp} {p : Addr} {c : D} {u : HO} {T : String} (h : H p = some u) (o : ObjD cl F c u) (ht : tyL T c = true) : tyV K T (.ref p) H := by
  cases c with
  | lst xs =>
    obtain ⟨vs, rfl, _⟩ := o
    have : T = "list" := by simpa [tyL] using ht
    exact .inl ⟨this, vs, .inl (.inl h)⟩
  | dic t ks =>
    have : T = "dict" := by simpa [tyL] using ht
    cases t with
    | false => obtain ⟨qs, rfl, _⟩ := o; exact .inr (.inr (.inl ⟨this, .inl ⟨qs, h⟩⟩))
    | true => obtain ⟨qs, rfl, _⟩ := o; exact .inr (.inr (.inl ⟨this, .inr ⟨qs, h⟩⟩))
  | _ => simp [tyL] at ht
section
variable {X : Cx} {W : WX} {o e : Expr} {pos apos cpos : Pos} {m : HEnv → R D}
theorem ds_own1 {T id : String} {name : Str} {r : V → List V → Hp → VK → Prop} {i : Nat} {f : D → D → R D} (pa : PlainAttrs T) (slot : PySem.Slot T name id) (hty : typeOf (.builtin id) = pure (.type "method_descriptor")) (hm : MtR X id r)
    (hr : OwnR1 cl f r) (ho : PE X o (tVar i)) (he : PE X e (tB cl W m)) (hs : swapsWith (.Call (.Attribute o name apos) [e] [] cpos) none pos.line X.env = pure false := by rfl)
    (h1 : attributeBase o name X.env (eval o X.env) = eval o X.env := by rfl)
    (h2 : (((backTo cpos (starEach (e :: []) X.env)).all (!·.1)) && (backToKw cpos (keywordEach [] X.env)).all (·.1.isSome) && decide ((e :: ([] : List Expr)).length + ([] : List Keyword).length + (if ([] : List Keyword).isEmpty = true then 0 else 1) < 30)) = true := by rfl)
    (h3 : (apos.endLine == cpos.line) = true := by rfl) (h4 : starEach (e :: []) X.env = (false, eval e X.env) :: starEach [] X.env := by rfl) (h5 : (backTo cpos (starEach [] X.env)).any (·.1) = false := by rfl) :
    PS X (.Expr (.Call (.Attribute o name apos) [e] [] cpos) pos) (tS cl W (mOwn1 i (tyL T) f m)) := by
  refine ps_weak (ps_expr (pe_bm pa slot hty hm ho (pa_cons he pa_nil h4) h1 h2 h3 h4 h5) hs) fun Dn σ H q => ?_
  obtain ⟨F0, H0, F, env, s, q⟩ := q
  unfold mOwn1 at q
  cases ei : env[i]? with
  | none => rw [ei] at q; exact q.elim
  | some sl =>
    rw [ei] at q
    cases sl with
    | no => exact q.elim
    | val c => exact q.elim
    | lent c => exact q.elim
    | bor c => exact q.elim
    | own c =>
      simp only at q
      split at q
      case isFalse => exact q.elim
      rename_i ht
      obtain ⟨p, hp, hf, h0, u, hu, ob, mu⟩ := s.own i c (oL_own ei)
      refine ⟨.ref p, hp, tyV_own hu ob ht, ?_⟩
      have q' : tS cl W (sB m (fun d env => match f c d with
        | .ok c' => .nx (env.set i (.own c'))
        | _ => .stuck)) Dn σ H ∨ True := .inr trivial
      refine ⟨F0, H0, F, env, s, ?_⟩
      unfold sB at q
      cases em : m env with
      | er x =>
        rw [em] at q
        exact fun cls dd F' H' k s' r => q cls dd σ F' H' k.ext (s.step k s') r
      | stuck => rw [em] at q; exact q.elim
      | ok d =>
        rw [em] at q
        simp only at q
        cases ef : f c d with
        | er x => rw [ef] at q; exact q.elim
        | stuck => rw [ef] at q; exact q.elim
        | ok c' =>
          rw [ef] at q
          simp only at q
          intro v F' H' k s' r
          have st := s.step k s'
          refine hr F' H' p c d c' u v _ s' (k.same _ _ hu) (ob.ext k.ext) r ef fun u' o' mu' => ?_
          exact q σ F' _ k.ext (st.writeOwn ei hp (k.fr p u hu hf) h0 o' mu')
theorem ds_own0 {T id : String} {name : Str} {r : V → List V → Hp → VK → Prop} {i : Nat} {f : D → R D} (pa : PlainAttrs T) (slot : PySem.Slot T name id) (hty : typeOf (.builtin id) = pure (.type "method_descriptor")) (hm : MtR X id r)
    (hr : ∀ (F H : Hp) (p : Addr) (c c' : D) (u : HO) (Q : VK), Sub F H → H p = some u → ObjD cl F c u → f c = .ok c' → (∀ u', ObjD cl F c' u' → mutD c' = true → Q .non (upd H p u')) → r (.ref p) [] H Q)
    (hT : ∀ c c', f c = .ok c' → tyL T c = true) (ho : PE X o (tVar i)) (h1 : attributeBase o name X.env (eval o X.env) = eval o X.env := by rfl) (h3 : (apos.endLine == cpos.line) = true := by rfl)
    (hs : swapsWith (.Call (.Attribute o name apos) [] [] cpos) none pos.line X.env = pure false := by rfl) : PS X (.Expr (.Call (.Attribute o name apos) [] [] cpos) pos) (tS cl W (mOwn0 i f)) := by
  refine ps_weak (ps_expr (pe_bm0 pa slot hty hm ho h1 h3) hs) fun Dn σ H q => ?_
  obtain ⟨F0, H0, F, env, s, q⟩ := q
  unfold mOwn0 at q
  cases ei : env[i]? with
  | none => rw [ei] at q; exact q.elim
  | some sl =>
    rw [ei] at q
    cases sl with
    | no => exact q.elim
    | val c => exact q.elim
    | lent c => exact q.elim
    | bor c => exact q.elim
    | own c =>
      simp only at q
      cases ef : f c with
      | er x => rw [ef] at q; exact q.elim
      | stuck => rw [ef] at q; exact q.elim
      | ok c' =>
        rw [ef] at q
        simp only at q
        obtain ⟨p, hp, hf, h0, u, hu, ob, mu⟩ := s.own i c (oL_own ei)
        refine ⟨.ref p, hp, tyV_own hu ob (hT _ _ ef), hr F H p c c' u _ s.sub hu ob ef fun u' o' mu' => ?_⟩
        exact q σ F _ (Ext.refl F) (s.writeOwn ei hp hf h0 o' mu')
end
/-- append, extend, clear, pop -/
def appD : D → D → R D
  | .lst ds, d => if ds.length < sizeLine then .ok (.lst (ds ++ [d])) else .stuck
  | _, _ => .stuck
/-- what is appended must stay -/
theorem ds_append {X : Cx} {W : WX} {o e : Expr} {pos apos cpos : Pos} {m : HEnv → R D} {i : Nat} (ho : PE X o (tVar i)) (he : PE X e (tF cl W m)) (hs : swapsWith (.Call (.Attribute o "append" apos) [e] [] cpos) none pos.line X.env = pure false := by rfl)
    (h1 : attributeBase o "append" X.env (eval o X.env) = eval o X.env := by rfl)
    (h2 : (((backTo cpos (starEach (e :: []) X.env)).all (!·.1)) && (backToKw cpos (keywordEach [] X.env)).all (·.1.isSome) && decide ((e :: ([] : List Expr)).length + ([] : List Keyword).length + (if ([] : List Keyword).isEmpty = true then 0 else 1) < 30)) = true := by rfl)
    (h3 : (apos.endLine == cpos.line) = true := by rfl) (h4 : starEach (e :: []) X.env = (false, eval e X.env) :: starEach [] X.env := by rfl) (h5 : (backTo cpos (starEach [] X.env)).any (·.1) = false := by rfl) :
    PS X (.Expr (.Call (.Attribute o "append" apos) [e] [] cpos) pos) (tS cl W (mOwn1 i (tyL "list") appD m)) := by
  refine ps_weak (ps_expr (pe_bm PySem.F.plainAttrs_list PySem.F.slot_list_append PySem.F.type_list_append mt_append ho (pa_cons he pa_nil h4) h1 h2 h3 h4 h5) hs) fun Dn σ H q => ?_
  obtain ⟨F0, H0, F, env, s, q⟩ := q
  unfold mOwn1 at q
  cases ei : env[i]? with
  | none => rw [ei] at q; exact q.elim
  | some sl =>
    rw [ei] at q
    cases sl with
    | no => exact q.elim
    | val c => exact q.elim
    | lent c => exact q.elim
    | bor c => exact q.elim
    | own c =>
      simp only at q
      split at q
      case isFalse => exact q.elim
      rename_i ht
      obtain ⟨p, hp, hf, h0, u, hu, ob, mu⟩ := s.own i c (oL_own ei)
      refine ⟨.ref p, hp, tyV_own hu ob ht, ?_⟩
      refine ⟨F0, H0, F, env, s, ?_⟩
      unfold sB at q
      cases em : m env with
      | er x =>
        rw [em] at q
        exact fun cls dd F' H' k s' r => q cls dd σ F' H' k.ext (s.step k s') r
      | stuck => rw [em] at q; exact q.elim
      | ok d =>
        rw [em] at q
        simp only at q
        cases c with
        | lst ds =>
          simp only [appD] at q
          split at q
          · rename_i c' he
            split at he
            · rename_i hz
              cases he
              intro v F' H' k s' r
              obtain ⟨vs, rfl, rl, z⟩ := ob
              have hH := k.same _ _ hu
              refine ⟨p, vs, v, rfl, rfl, hH, by rw [rl.len]; exact hz, ?_⟩
              exact q σ F' _ k.ext ((s.step k s').writeOwn ei hp (k.fr p _ hu hf) h0 (d' := .lst (ds ++ [d])) ⟨_, rfl, (rl.ext k.ext).app (by simp only [RepL]; exact ⟨v, [], rfl, r, rfl⟩), by rw [List.length_append]; exact hz⟩ rfl)
            · cases he
          · exact q.elim
        | _ => exact q.elim
end
end HL

namespace HL
open PySem PySem.Spec PyProof.Rows L2

/-! ### comprehensions of two clauses -/
def comp2L (g : D → HEnv → R HEnv) (t : HEnv → R Bool) (src1 : HEnv → R (List D)) (vs1 : List Nat) (g1 : D → HEnv → R HEnv) (t1 : HEnv → R Bool) (el : HEnv → R D) (env : HEnv) : List D → R (List D)
  | [] => .ok []
  | d :: ds => match g d env with
    | .ok e1 => match t e1 with
      | .ok true => match src1 e1 with
        | .ok xs => match compL g1 t1 el (wipeE e1 vs1) xs with
          | .ok ys => match comp2L g t src1 vs1 g1 t1 el env ds with
            | .ok zs => .ok (ys ++ zs)
            | _ => .stuck
          | _ => .stuck
        | _ => .stuck
      | .ok false => comp2L g t src1 vs1 g1 t1 el env ds
      | _ => .stuck
    | _ => .stuck
/-- [el for g in src if t for g1 in src1 if t1] -/
def mComp2 (vs : List Nat) (src : HEnv → R (List D)) (g : D → HEnv → R HEnv) (t : HEnv → R Bool) (src1 : HEnv → R (List D)) (vs1 : List Nat) (g1 : D → HEnv → R HEnv) (t1 : HEnv → R Bool) (el : HEnv → R D) : HEnv → R D := fun env => (src env).bind fun ds =>
  match comp2L g t src1 vs1 g1 t1 el (wipeE env vs) ds with
  | .ok ys => if ys.length ≤ sizeLine then .ok (.lst ys) else .stuck
  | _ => .stuck
/-- a target hands out nothing of one's own -/
def GV (g : D → HEnv → R HEnv) : Prop := ∀ d env e, g d env = .ok e → ∀ (j : Nat) (x : D), e[j]?.bind oL = some x → env[j]?.bind oL = some x
theorem gv_name {i : Nat} : GV (gN i) := fun d env e h j x hx => by
  cases h
  by_cases hj : i = j
  · subst hj
    by_cases hl : i < env.length
    · rw [List.getElem?_set_self hl] at hx
      cases hx
    · rw [List.getElem?_eq_none (by simp; omega)] at hx
      cases hx
  · rwa [List.getElem?_set_ne hj] at hx
def GVs (g : List D → HEnv → R HEnv) : Prop := ∀ d env e, g d env = .ok e → ∀ (j : Nat) (x : D), e[j]?.bind oL = some x → env[j]?.bind oL = some x
theorem gvs_nil : GVs gsNil := fun d env e h j x hx => by
  cases d with
  | nil => cases h; exact hx
  | cons a b => cases h
theorem gvs_cons {g : D → HEnv → R HEnv} {gs : List D → HEnv → R HEnv} (h1 : GV g) (h2 : GVs gs) : GVs (gsCons g gs) := fun d env e h j x hx => by
  cases d with
  | nil => cases h
  | cons a b =>
    simp only [gsCons] at h
    cases eg : g a env with
    | ok e1 =>
      rw [eg] at h
      exact h1 _ _ _ eg j x (h2 _ _ _ h j x hx)
    | er y => rw [eg] at h; cases h
    | stuck => rw [eg] at h; cases h
theorem gv_tup {gs : List D → HEnv → R HEnv} (h1 : GVs gs) : GV (gTupD gs) := fun d env e h j x hx => by
  cases d with
  | tup ds => exact h1 _ _ _ h j x hx
  | _ => cases h
theorem wipeE_own {env : HEnv} {j : Nat} {e : D} : ∀ {vs : List Nat}, (wipeE env vs)[j]?.bind oL = some e → env[j]?.bind oL = some e ∧ j ∉ vs
  | [], h => ⟨h, by simp⟩
  | v :: vs, h => by
    unfold wipeE at h
    by_cases hj : v = j
    · subst hj
      by_cases hl : v < (wipeE env vs).length
      · rw [List.getElem?_set_self hl] at h
        cases h
      · rw [List.getElem?_eq_none (by simp; omega)] at h
        cases h
    · rw [List.getElem?_set_ne hj] at h
      obtain ⟨h1, h2⟩ := wipeE_own h
      exact ⟨h1, by simp only [List.mem_cons, not_or]; exact ⟨Ne.symm hj, h2⟩⟩
section
variable {X : Cx} {cl : Cl} {W : WX} {pos : Pos}
theorem read_comp2 {own : List (Str × Nat)} {src src1 : HEnv → R (List D)} {is is1 vs1 : List Nat} {g g1 : D → HEnv → R HEnv} {t t1 : HEnv → R Bool} {el : HEnv → R D} (hi : ∀ i ∈ is, i ∈ own.map (·.2)) (hi1 : ∀ i ∈ is1, i ∈ vs1) (hgv : GV g) {σ : L2.St} {H : Hp} {Q : VK}
    (q : tN cl W (mComp2 (own.map (·.2)) src g t src1 vs1 g1 t1 el) σ H Q) : tLc2 (tK cl W src) (tTg cl is g) (tT cl WNo t) (tI cl WNo src1) (tTg cl is1 g1) (tT cl WNo t1) (tF cl WNo el) (own.map (·.2)) vs1 σ H Q := by
  unfold mComp2 at q
  refine bindG (k := fun ds env => match comp2L g t src1 vs1 g1 t1 el (wipeE env (own.map (·.2))) ds with
    | .ok ys => if ys.length ≤ sizeLine then .ok (.lst ys) else .stuck
    | _ => .stuck) oldN q fun ds J F0 H0 F1 env Hs H1 s it p A hA => ?_
  have sw := s.wiped (own.map (·.2))
  generalize hew : wipeE env (own.map (·.2)) = envw at p sw
  cases ec : comp2L g t src1 vs1 g1 t1 el envw ds with
  | er x => rw [ec] at p; exact p.elim
  | stuck => rw [ec] at p; exact p.elim
  | ok ys =>
    rw [ec] at p
    replace p : PostG cl (relN cl) W (if ys.length ≤ sizeLine then R.ok (D.lst ys) else R.stuck) F1 σ H1 Q := p
    by_cases zys : ys.length ≤ sizeLine
    case neg => rw [if_neg zys] at p; exact p.elim
    rw [if_pos zys] at p
    have h0A : H0 A = none := s.kp.same.free hA
    have wn0 : ∀ (j : Nat) (e : D), envw[j]?.bind oL = some e → (wipe σ (own.map (·.2)))[j]? ≠ some (some (.ref A)) := fun j e h z => by
      obtain ⟨q, a, _, _, u, hu, _⟩ := sw.own j e h
      rw [a] at z
      cases z
      rw [hA] at hu
      cases hu
    refine ⟨fun i m H => m = ds.length - i ∧ i ≤ ds.length ∧ ∃ F2 acc vs zs, Kp F1 H1 F2 H ∧ HSt cl F0 H0 F2 envw (wipe σ (own.map (·.2))) H ∧ F2 A = none ∧ H A = some (.lst vs) ∧ RepL cl F2 acc vs ∧ comp2L g t src1 vs1 g1 t1 el envw (ds.drop i) = .ok zs ∧ acc ++ zs = ys,
      ⟨ds.length, by simp, Nat.zero_le _, F1, [], [], ys, kp_new hA, sw.other (sub_none s.sub hA) h0A wn0, sub_none s.sub hA, upd_same, by simp only [RepL], by simpa using ec, rfl⟩, fun i m H2 ⟨em, hi2, F2, acc, vs, zs, k2, s2, f2, e2, r2, c2, z2⟩ => ?_⟩
    subst em
    by_cases hl : i < ds.length
    · refine .inr ⟨it.go i _ F2 H2 (List.getElem?_eq_getElem hl) k2 s2.sub, fun H' => i + 1 ≤ ds.length ∧ ∃ F2 acc vs zs, Kp F1 H1 F2 H' ∧ HSt cl F0 H0 F2 envw (wipe σ (own.map (·.2))) H' ∧ F2 A = none ∧ H' A = some (.lst vs) ∧ RepL cl F2 acc vs ∧ comp2L g t src1 vs1 g1 t1 el envw (ds.drop (i + 1)) = .ok zs ∧ acc ++ zs = ys,
        fun H' ⟨h1, h2⟩ => ⟨ds.length - (i + 1), by omega, rfl, h1, h2⟩, fun x H' y => ?_⟩
      obtain ⟨F3, k3, s3, r3⟩ := it.yld i _ F2 H2 x H' (List.getElem?_eq_getElem hl) k2 s2.sub y
      refine ⟨F0, H0, F3, envw, _, s2.step k3 s3, r3, ?_⟩
      rw [List.drop_eq_getElem_cons hl] at c2
      simp only [comp2L] at c2
      cases eg : g ds[i] envw with
      | er x => simp only [eg] at c2; cases c2
      | stuck => simp only [eg] at c2; cases c2
      | ok e1 =>
        simp only [eg] at c2 ⊢
        intro σ4 s4 l4 n4
        refine ⟨wipe_eq (by rw [l4, wipe_length]) hi n4, ?_⟩
        refine ⟨F0, H0, F3, e1, s4, ?_⟩
        cases et : t e1 with
        | er x => simp only [et] at c2; cases c2
        | stuck => simp only [et] at c2; cases c2
        | ok c =>
          simp only [et] at c2
          intro c' F5 H5 k5 s5 ec'
          obtain rfl : c' = c := ec'
          have k25 : Kp F2 H2 F5 H5 := k3.trans k5
          cases c' with
          | false =>
            rw [if_neg (by decide)]
            exact ⟨hl, F5, acc, vs, zs, k2.trans k25, s2.step k25 s5, k25.fr A _ e2 f2, k25.same _ _ e2, r2.ext k25.ext, c2, z2⟩
          | true =>
            rw [if_pos rfl]
            simp only at c2
            refine ⟨F0, H0, F5, e1, s4.step k5 s5, ?_⟩
            cases es : src1 e1 with
            | er x => simp only [es] at c2; cases c2
            | stuck => simp only [es] at c2; cases c2
            | ok xs =>
              simp only [es] at c2
              cases ei : compL g1 t1 el (wipeE e1 vs1) xs with
              | er x => simp only [ei] at c2; cases c2
              | stuck => simp only [ei] at c2; cases c2
              | ok yi =>
                simp only [ei] at c2
                cases er : comp2L g t src1 vs1 g1 t1 el envw (ds.drop (i + 1)) with
                | er x => simp only [er] at c2; cases c2
                | stuck => simp only [er] at c2; cases c2
                | ok zs' =>
                  simp only [er] at c2
                  cases c2
                  intro J1 F6 H6 k6 s6 it1
                  have k26 : Kp F2 H2 F6 H6 := k25.trans k6
                  have f6 : F6 A = none := k26.fr A _ e2 f2
                  have e6 : H6 A = some (.lst vs) := k26.same _ _ e2
                  have s46 : HSt cl F0 H0 F6 e1 σ4 H6 := (s4.step k5 s5).step k6 s6
                  have sw1 := s46.wiped vs1
                  have wn1 : ∀ (j : Nat) (e : D), (wipeE e1 vs1)[j]?.bind oL = some e → (wipe σ4 vs1)[j]? ≠ some (some (.ref A)) := fun j e h => by
                    obtain ⟨h1, h2⟩ := wipeE_own h
                    have h3 := hgv _ _ _ eg j e h1
                    obtain ⟨_, h4⟩ := wipeE_own (by rw [hew]; exact h3)
                    rw [wipe_get h2, n4 j fun z => h4 (hi j z)]
                    exact wn0 j e h3
                  generalize wipeE e1 vs1 = ew1 at ei sw1 wn1
                  refine ⟨fun j k H => k = xs.length - j ∧ j ≤ xs.length ∧ ∃ F7 acc7 vs7 zs7, Kp F1 H1 F7 H ∧ Ext F6 F7 ∧ HSt cl F0 H0 F7 envw (wipe σ (own.map (·.2))) H ∧ HSt cl F0 H0 F7 ew1 (wipe σ4 vs1) H ∧ F7 A = none ∧ H A = some (.lst vs7) ∧ RepL cl F7 acc7 vs7 ∧ compL g1 t1 el ew1 (xs.drop j) = .ok zs7 ∧ acc7 ++ zs7 = acc ++ yi,
                    ⟨xs.length, by simp, Nat.zero_le _, F6, acc, vs, yi, k2.trans k26, Ext.refl _, s2.step k26 s6, sw1, f6, e6, r2.ext k26.ext, by simpa using ei, rfl⟩, fun j k H7 ⟨ek, hj, F7, acc7, vs7, zs7, k7, x7, s7, t7, f7, e7, r7, c7, z7⟩ => ?_⟩
                  subst ek
                  by_cases hlj : j < xs.length
                  · refine .inr ⟨it1.go j _ F7 H7 (List.getElem?_eq_getElem hlj) x7 s7.sub, fun H' => j + 1 ≤ xs.length ∧ ∃ F7 acc7 vs7 zs7, Kp F1 H1 F7 H' ∧ Ext F6 F7 ∧ HSt cl F0 H0 F7 envw (wipe σ (own.map (·.2))) H' ∧ HSt cl F0 H0 F7 ew1 (wipe σ4 vs1) H' ∧ F7 A = none ∧ H' A = some (.lst vs7) ∧ RepL cl F7 acc7 vs7 ∧ compL g1 t1 el ew1 (xs.drop (j + 1)) = .ok zs7 ∧ acc7 ++ zs7 = acc ++ yi,
                      fun H' ⟨h1, h2⟩ => ⟨xs.length - (j + 1), by omega, rfl, h1, h2⟩, fun x' H' y' => ?_⟩
                    obtain ⟨F8, k8, s8, r8⟩ := it1.yld j _ F7 H7 x' H' (List.getElem?_eq_getElem hlj) x7 s7.sub y'
                    refine ⟨F0, H0, F8, ew1, _, t7.step k8 s8, r8, ?_⟩
                    rw [List.drop_eq_getElem_cons hlj] at c7
                    simp only [compL] at c7
                    cases eg1 : g1 xs[j] ew1 with
                    | er x => simp only [eg1] at c7; cases c7
                    | stuck => simp only [eg1] at c7; cases c7
                    | ok e2' =>
                      simp only [eg1] at c7 ⊢
                      intro σ9 s9 l9 n9
                      refine ⟨wipe_eq (by rw [l9, wipe_length]) hi1 n9, ?_⟩
                      refine ⟨F0, H0, F8, e2', s9, ?_⟩
                      cases et1 : t1 e2' with
                      | er x => simp only [et1] at c7; cases c7
                      | stuck => simp only [et1] at c7; cases c7
                      | ok c =>
                        simp only [et1] at c7
                        intro c' F9 H9 k9 s9' ec'
                        obtain rfl : c' = c := ec'
                        have k89 : Kp F7 H7 F9 H9 := k8.trans k9
                        cases c' with
                        | false =>
                          rw [if_neg (by decide)]
                          exact ⟨hlj, F9, acc7, vs7, zs7, k7.trans k89, x7.trans k89.ext, s7.step k89 s9', t7.step k89 s9', k89.fr A _ e7 f7, k89.same _ _ e7, r7.ext k89.ext, c7, z7⟩
                        | true =>
                          rw [if_pos rfl]
                          simp only at c7
                          refine ⟨F0, H0, F9, e2', s9.step k9 s9', ?_⟩
                          cases ee : el e2' with
                          | er x => simp only [ee] at c7; cases c7
                          | stuck => simp only [ee] at c7; cases c7
                          | ok yd =>
                            simp only [ee] at c7
                            cases er' : compL g1 t1 el ew1 (xs.drop (j + 1)) with
                            | er x => simp only [er'] at c7; cases c7
                            | stuck => simp only [er'] at c7; cases c7
                            | ok zs8 =>
                              simp only [er'] at c7
                              cases c7
                              intro v FA HA kA sA rA
                              have kk : Kp F7 H7 FA HA := k89.trans kA
                              have fA : FA A = none := kk.fr A _ e7 f7
                              refine ⟨vs7, kk.same _ _ e7, ?_, ?_⟩
                              · rw [r7.len]
                                have h1 := congrArg List.length z7
                                have h2 := congrArg List.length z2
                                simp only [List.length_append, List.length_cons] at h1 h2
                                omega
                              · refine ⟨hlj, FA, acc7 ++ [yd], vs7 ++ [v], zs8, ⟨(k7.trans kk).ext, fun b o e => ?_, (k7.trans kk).fr⟩, x7.trans kk.ext, (s7.step kk sA).other fA h0A wn0, (t7.step kk sA).other fA h0A wn1, fA, upd_same, (r7.ext kk.ext).app (by simp only [RepL]; exact ⟨v, [], rfl, rA, rfl⟩), rfl, by simp [← z7]⟩
                                rw [upd_ne (ne_of_none e hA)]
                                exact (k7.trans kk).same b o e
                  · have ej : j = xs.length := by omega
                    subst ej
                    refine .inl ⟨it1.stop F7 H7 x7 s7.sub, ?_⟩
                    simp only [List.drop_length, compL] at c7
                    cases c7
                    rw [List.append_nil] at z7
                    exact ⟨hl, F7, acc7, vs7, zs', k7, s7, f7, e7, r7, rfl, by rw [z7, ← z2, List.append_assoc]⟩
    · have e : i = ds.length := by omega
      subst e
      refine .inl ⟨it.stop F2 H2 k2 s2.sub, ?_⟩
      simp only [List.drop_length, comp2L] at c2
      cases c2
      rw [List.append_nil] at z2
      subst z2
      exact p _ F2 H2 k2 s2.sub ⟨A, rfl, hA, f2, _, e2, ⟨vs, rfl, r2, zys⟩, rfl⟩
end
end HL
namespace HL
open PySem PySem.Spec PyProof.Rows L2
section
variable {X : Cx} {cl : Cl} {W : WX} {pos : Pos}
theorem dn_comp2 {elt tg iter tg1 iter1 : Expr} {ifs ifs1 : List Expr} {scope : Scope} {own : List (Str × Nat)} {src src1 : HEnv → R (List D)} {is is1 vs1 : List Nat} {g g1 : D → HEnv → R HEnv} {t t1 : HEnv → R Bool} {el : HEnv → R D} (hc : X.calm = true) (hN : X.N.Nodup) (hi : PI X tg iter (tK cl W src))
    (ok : BlkOk X.N X.env.scope scope own) (hin : ∀ i ∈ is, i ∈ own.map (·.2)) (hv : ∀ i ∈ vs1, i ∈ own.map (·.2)) (hin1 : ∀ i ∈ is1, i ∈ vs1) (hgv : GV g) (hg : ∀ (s : Shared) (H : Hp) (C : Addr) (c : List (Str × Addr)) (fp : List Addr), PG (X.blk s H scope (compEnvC scope c C X.env) fp) tg (tTg cl is g))
    (ht : ∀ (s : Shared) (H : Hp) (C : Addr) (c : List (Str × Addr)) (fp : List Addr), PTs (X.blk s H scope (compEnvC scope c C X.env) fp) ifs (tT cl WNo t))
    (hi1 : ∀ (s : Shared) (H : Hp) (C : Addr) (c : List (Str × Addr)) (fp : List Addr), PI (X.blk s H scope (compEnvC scope c C X.env) fp) tg1 iter1 (tI cl WNo src1))
    (hg1 : ∀ (s : Shared) (H : Hp) (C : Addr) (c : List (Str × Addr)) (fp : List Addr), PG (X.blk s H scope (compEnvC scope c C X.env) fp) tg1 (tTg cl is1 g1))
    (ht1 : ∀ (s : Shared) (H : Hp) (C : Addr) (c : List (Str × Addr)) (fp : List Addr), PTs (X.blk s H scope (compEnvC scope c C X.env) fp) ifs1 (tT cl WNo t1))
    (he : ∀ (s : Shared) (H : Hp) (C : Addr) (c : List (Str × Addr)) (fp : List Addr), PE (X.blk s H scope (compEnvC scope c C X.env) fp) elt (tF cl WNo el)) (hs : ∀ x, foldedSetIterable iter X.env x = pure x := by intro _; rfl) (hs1 : ∀ env x, foldedSetIterable iter1 env x = pure x := by intro _ _; rfl) :
    PE X (.ListComp elt [⟨tg, iter, ifs, 0⟩, ⟨tg1, iter1, ifs1, 0⟩] scope pos) (tN cl W (mComp2 (own.map (·.2)) src g t src1 vs1 g1 t1 el)) := pe_weak (pe_lc2 hc hN hi ok hv hg ht hi1 hg1 ht1 he hs hs1) fun σ H Q q => read_comp2 hin hin1 hgv q
theorem ds_setLc2 {i : Nat} {y : Str} {py : Pos} {spos : Pos} {elt tg iter tg1 iter1 : Expr} {ifs ifs1 : List Expr} {scope : Scope} {own : List (Str × Nat)} {src src1 : HEnv → R (List D)} {is is1 vs1 : List Nat} {g g1 : D → HEnv → R HEnv} {t t1 : HEnv → R Bool} {el : HEnv → R D} (hc : X.calm = true) (hN : X.N.Nodup)
    (hy : X.N[i]? = some y) (hyl : X.env.scope.names.lookup y = some .local) (hsw : swapsWith (.ListComp elt [⟨tg, iter, ifs, 0⟩, ⟨tg1, iter1, ifs1, 0⟩] scope pos) (some (.Name y py)) spos.line X.env = pure true) (hi : PI X tg iter (tK cl W src))
    (ok : BlkOk X.N X.env.scope scope own) (hin : ∀ i ∈ is, i ∈ own.map (·.2)) (hv : ∀ i ∈ vs1, i ∈ own.map (·.2)) (hin1 : ∀ i ∈ is1, i ∈ vs1) (hgv : GV g) (hg : ∀ (s : Shared) (H : Hp) (C : Addr) (c : List (Str × Addr)) (fp : List Addr), PG (X.blk s H scope (compEnvC scope c C X.env) fp) tg (tTg cl is g))
    (ht : ∀ (s : Shared) (H : Hp) (C : Addr) (c : List (Str × Addr)) (fp : List Addr), PTs (X.blk s H scope (compEnvC scope c C X.env) fp) ifs (tT cl WNo t))
    (hi1 : ∀ (s : Shared) (H : Hp) (C : Addr) (c : List (Str × Addr)) (fp : List Addr), PI (X.blk s H scope (compEnvC scope c C X.env) fp) tg1 iter1 (tI cl WNo src1))
    (hg1 : ∀ (s : Shared) (H : Hp) (C : Addr) (c : List (Str × Addr)) (fp : List Addr), PG (X.blk s H scope (compEnvC scope c C X.env) fp) tg1 (tTg cl is1 g1))
    (ht1 : ∀ (s : Shared) (H : Hp) (C : Addr) (c : List (Str × Addr)) (fp : List Addr), PTs (X.blk s H scope (compEnvC scope c C X.env) fp) ifs1 (tT cl WNo t1))
    (he : ∀ (s : Shared) (H : Hp) (C : Addr) (c : List (Str × Addr)) (fp : List Addr), PE (X.blk s H scope (compEnvC scope c C X.env) fp) elt (tF cl WNo el)) (hs : ∀ x, foldedSetIterable iter X.env x = pure x := by intro _; rfl) (hs1 : ∀ env x, foldedSetIterable iter1 env x = pure x := by intro _ _; rfl) :
    PS X (.Assign [.Name y py] (.ListComp elt [⟨tg, iter, ifs, 0⟩, ⟨tg1, iter1, ifs1, 0⟩] scope pos) spos) (tS cl W (mSetN i (mComp2 (own.map (·.2)) src g t src1 vs1 g1 t1 el))) := by
  refine ps_weak (ps_setLc2 hc hN hy hyl hsw hi ok hv hg ht hi1 hg1 ht1 he hs hs1) fun Dn σ H q => ?_
  exact read_comp2 (Q := fun x H1 => gName i x σ H1 Dn.nx) hin hin1 hgv (read_setN q)
theorem ds_setLc2F {i : Nat} {y : Str} {py : Pos} {spos : Pos} {elt tg iter tg1 iter1 : Expr} {ifs ifs1 : List Expr} {scope : Scope} {own : List (Str × Nat)} {src src1 : HEnv → R (List D)} {is is1 vs1 : List Nat} {g g1 : D → HEnv → R HEnv} {t t1 : HEnv → R Bool} {el : HEnv → R D} (hc : X.calm = true) (hN : X.N.Nodup)
    (hy : X.N[i]? = some y) (hyl : X.env.scope.names.lookup y = some .local) (hsw : swapsWith (.ListComp elt [⟨tg, iter, ifs, 0⟩, ⟨tg1, iter1, ifs1, 0⟩] scope pos) (some (.Name y py)) spos.line X.env = pure true) (hi : PI X tg iter (tK cl W src))
    (ok : BlkOk X.N X.env.scope scope own) (hin : ∀ i ∈ is, i ∈ own.map (·.2)) (hv : ∀ i ∈ vs1, i ∈ own.map (·.2)) (hin1 : ∀ i ∈ is1, i ∈ vs1) (hgv : GV g) (hg : ∀ (s : Shared) (H : Hp) (C : Addr) (c : List (Str × Addr)) (fp : List Addr), PG (X.blk s H scope (compEnvC scope c C X.env) fp) tg (tTg cl is g))
    (ht : ∀ (s : Shared) (H : Hp) (C : Addr) (c : List (Str × Addr)) (fp : List Addr), PTs (X.blk s H scope (compEnvC scope c C X.env) fp) ifs (tT cl WNo t))
    (hi1 : ∀ (s : Shared) (H : Hp) (C : Addr) (c : List (Str × Addr)) (fp : List Addr), PI (X.blk s H scope (compEnvC scope c C X.env) fp) tg1 iter1 (tI cl WNo src1))
    (hg1 : ∀ (s : Shared) (H : Hp) (C : Addr) (c : List (Str × Addr)) (fp : List Addr), PG (X.blk s H scope (compEnvC scope c C X.env) fp) tg1 (tTg cl is1 g1))
    (ht1 : ∀ (s : Shared) (H : Hp) (C : Addr) (c : List (Str × Addr)) (fp : List Addr), PTs (X.blk s H scope (compEnvC scope c C X.env) fp) ifs1 (tT cl WNo t1))
    (he : ∀ (s : Shared) (H : Hp) (C : Addr) (c : List (Str × Addr)) (fp : List Addr), PE (X.blk s H scope (compEnvC scope c C X.env) fp) elt (tF cl WNo el)) (hs : ∀ x, foldedSetIterable iter X.env x = pure x := by intro _; rfl) (hs1 : ∀ env x, foldedSetIterable iter1 env x = pure x := by intro _ _; rfl) :
    PS X (.Assign [.Name y py] (.ListComp elt [⟨tg, iter, ifs, 0⟩, ⟨tg1, iter1, ifs1, 0⟩] scope pos) spos) (tS cl W (mSet i (mComp2 (own.map (·.2)) src g t src1 vs1 g1 t1 el))) := by
  refine ps_weak (ps_setLc2 hc hN hy hyl hsw hi ok hv hg ht hi1 hg1 ht1 he hs hs1) fun Dn σ H q => ?_
  exact read_comp2 (Q := fun x H1 => gName i x σ H1 Dn.nx) hin hin1 hgv (nf_read (read_set q))

/-! ### a module's constant -/
theorem d_glob {x : Str} {d : D} {v : V} {u : Value} (hg : Gl X x) (hm : X.mg x = some u) (r : RelV v u) (hv : vD d = some v := by rfl) (hd : (x == ("__debug__" : Str)) = false := by decide) : PE X (.Name x pos) (tF cl W (mC d)) := d_c (pe_glob hg hm r hd) hv

/-! ### calls of defs -/
/-- what is known of a def, by its name: n parameters, no defaults; f what it answers -/
structure Df (P : Program) (w : World) (K : PySem.W.Frag) (mg : Str → Option Value) (base : Heap) (cl : Cl) (k : Nat) (x : Str) (n : Nat) (f : List D → R (Bool × D)) : Prop where
  ex : ∃ (fa : Addr) (fd : FuncData) (ps : List Str), FnOk P w K mg base (L2.CX P w) k fa fd ps (spD cl n f) ∧ mg x = some (.ref fa) ∧ PySem.W.keepIn K (.ref fa) = true ∧ Binds K fd ps []
def mCall (f : List D → R (Bool × D)) (ms : HEnv → R (List D)) : HEnv → R D := fun env => (ms env).bind fun ds => (f ds).bind fun r => .ok r.2
def mCallN (f : List D → R (Bool × D)) (ms : HEnv → R (List D)) : HEnv → R D := fun env => (ms env).bind fun ds => (f ds).bind fun r => if r.1 = true then .ok r.2 else .stuck
variable {k n : Nat} {f : List D → R (Bool × D)} {x : Str} {p : Pos} {e : Expr} {es : List Expr} {ms : HEnv → R (List D)}
theorem call_len_n {ds : List D} {vs : List V} {F : Hp} {c : Nat} (r : RepL cl F ds vs) (h : ds.length = c) : vs.length = c := by rw [r.len]; exact h
theorem read_call {rel : Rel D V} {gg : Bool × D → R D} (ho : Old rel) (hn : Ln ms n) (hr : ∀ (Hs F1 H1 F' H' : Hp) (r : Bool × D) (d : D) (v : V), gg r = .ok d → Kp F1 H1 F' H' → Sub F' H' → RetR cl H1 F' H' r.1 r.2 v → ∃ F2, Kp F1 H1 F2 H' ∧ Sub F2 H' ∧ rel H1 F2 H' d v)
    (hne : ∀ r e, gg r ≠ .er e) {σ : L2.St} {H : Hp} {Q : VK} (q : tG cl rel W (fun env => (ms env).bind fun ds => (f ds).bind gg) σ H Q) : tCallS (spD cl n f) (WE W) (tA cl W ms) σ H Q := by
  obtain ⟨F0, H0, F, env, s, q⟩ := q
  refine ⟨F0, H0, F, env, s, ?_⟩
  replace q : PostG cl rel W ((ms env).bind fun ds => (f ds).bind gg) F σ H Q := q
  cases em : ms env with
  | er y => rw [em] at q; exact q
  | stuck => rw [em] at q; exact q.elim
  | ok ds =>
    rw [em] at q
    simp only [R.bind_ok] at q
    intro vs F1 H1 k1 s1 r1
    have hl := hn.len em
    refine ⟨call_len_n r1 hl, F1, ds, s1, r1, ?_⟩
    have q1 := PostG.step ho q k1
    cases ef : f ds with
    | er y => rw [ef] at q1; exact q1
    | stuck => rw [ef] at q1; exact q1.elim
    | ok r =>
      rw [ef] at q1
      simp only [R.bind_ok] at q1
      intro v F' H' k' s' rr
      cases eg : gg r with
      | er y => exact (hne _ _ eg).elim
      | stuck => rw [eg] at q1; exact q1.elim
      | ok d =>
        rw [eg] at q1
        obtain ⟨F2, k2, s2, r2⟩ := hr H F1 H1 F' H' r d v eg k' s' rr
        exact q1 v F2 H' k2 s2 r2
theorem ret_frz {F1 H1 F' H' : Hp} {o : Bool} {d : D} {v : V} (k' : Kp F1 H1 F' H') (s' : Sub F' H') (rr : RetR cl H1 F' H' o d v) : ∃ F2, Kp F1 H1 F2 H' ∧ Sub F2 H' ∧ Rep cl F2 d v := by
  cases o with
  | false => exact ⟨F', k', s', by simpa [RetR] using rr⟩
  | true =>
    obtain ⟨p, rfl, h0, hf, ho⟩ : relN cl H1 F' H' d v := by simpa [RetR] using rr
    obtain ⟨F2, _, k2, s2, r2, _⟩ := freeze k' s' h0 hf ho
    exact ⟨F2, k2, s2, r2⟩
/-- f(e, ..) -/
theorem d_call (F : Df X.prog X.w X.K X.mg X.base cl k x n f) (hr : Room k X.A) (tk : Takes X W) (hg : Gl X x) (ha : PA X (e :: es) (tA cl W ms)) (hn : Ln ms n := by repeat constructor)
    (hdb : (x == ("__debug__" : Str)) = false := by decide) (he : starEach (e :: es) X.env = (false, eval e X.env) :: starEach es X.env := by rfl) (hpl : (backTo pos (starEach es X.env)).any (·.1) = false := by rfl) :
    PE X (.Call (.Name x p) (e :: es) [] pos) (tF cl W (mCall f ms)) := by
  obtain ⟨fa, fd, ps, hF, hm, hk, hb⟩ := F.ex
  refine pe_weak (pe_callS hF hr hg hm hk hb (fun σ => passAt tk σ) ha hdb he hpl) fun σ H Q q => ?_
  refine read_call (gg := fun r => .ok r.2) (rel := relF cl) oldF hn (fun Hs F1 H1 F' H' r d v eg k' s' rr => ?_) (fun _ _ z => nomatch z) q
  cases eg
  exact ret_frz k' s' rr
theorem dn_call (F : Df X.prog X.w X.K X.mg X.base cl k x n f) (hr : Room k X.A) (tk : Takes X W) (hg : Gl X x) (ha : PA X (e :: es) (tA cl W ms)) (hn : Ln ms n := by repeat constructor)
    (hdb : (x == ("__debug__" : Str)) = false := by decide) (he : starEach (e :: es) X.env = (false, eval e X.env) :: starEach es X.env := by rfl) (hpl : (backTo pos (starEach es X.env)).any (·.1) = false := by rfl) :
    PE X (.Call (.Name x p) (e :: es) [] pos) (tN cl W (mCallN f ms)) := by
  obtain ⟨fa, fd, ps, hF, hm, hk, hb⟩ := F.ex
  refine pe_weak (pe_callS hF hr hg hm hk hb (fun σ => passAt tk σ) ha hdb he hpl) fun σ H Q q => ?_
  refine read_call (gg := fun r => if r.1 = true then .ok r.2 else .stuck) (rel := relN cl) oldN hn (fun Hs F1 H1 F' H' r d v eg k' s' rr => ?_) (fun r e z => by split at z <;> cases z) q
  split at eg
  · rename_i h
    cases eg
    rw [h] at rr
    exact ⟨F', k', s', by simpa [RetR] using rr⟩
  · cases eg
/-- x = f(..), return f(..): own or not, as f says -/
def relX (cl : Cl) : Rel (Bool × D) V := fun Hs F H r v => RetR cl Hs F H r.1 r.2 v
def mCallX (f : List D → R (Bool × D)) (ms : HEnv → R (List D)) : HEnv → R (Bool × D) := fun env => (ms env).bind f
theorem oldX : Old (relX cl) := fun H H1 F' H' d v k h => by
  unfold relX RetR at h ⊢
  split at h
  · rename_i e
    rw [if_pos e]
    exact oldN _ _ _ _ _ _ k h
  · rename_i e
    rw [if_neg e]
    exact h
abbrev tX (cl : Cl) (W : WX) (m : HEnv → R (Bool × D)) : TE := tG cl (relX cl) W m
theorem dx_call (F : Df X.prog X.w X.K X.mg X.base cl k x n f) (hr : Room k X.A) (tk : Takes X W) (hg : Gl X x) (ha : PA X (e :: es) (tA cl W ms)) (hn : Ln ms n := by repeat constructor)
    (hdb : (x == ("__debug__" : Str)) = false := by decide) (he : starEach (e :: es) X.env = (false, eval e X.env) :: starEach es X.env := by rfl) (hpl : (backTo pos (starEach es X.env)).any (·.1) = false := by rfl) :
    PE X (.Call (.Name x p) (e :: es) [] pos) (tX cl W (mCallX f ms)) := by
  obtain ⟨fa, fd, ps, hF, hm, hk, hb⟩ := F.ex
  refine pe_weak (pe_callS hF hr hg hm hk hb (fun σ => passAt tk σ) ha hdb he hpl) fun σ H Q q => ?_
  obtain ⟨F0, H0, F, env, s, q⟩ := q
  refine ⟨F0, H0, F, env, s, ?_⟩
  unfold mCallX at q
  cases em : ms env with
  | er y => rw [em] at q; exact q
  | stuck => rw [em] at q; exact q.elim
  | ok ds =>
    rw [em] at q
    simp only [R.bind_ok] at q
    intro vs F1 H1 k1 s1 r1
    refine ⟨call_len_n r1 (hn.len em), F1, ds, s1, r1, ?_⟩
    have q1 := PostG.step oldX q k1
    cases ef : f ds with
    | er y => rw [ef] at q1; exact q1
    | stuck => rw [ef] at q1; exact q1.elim
    | ok r =>
      rw [ef] at q1
      exact q1
def mSetX (i : Nat) (m : HEnv → R (Bool × D)) : HEnv → SO := sB m fun r env => .nx (env.set i (if r.1 = true then .own r.2 else .val r.2))
def mRetX (m : HEnv → R (Bool × D)) : HEnv → SO := sB m fun r _ => .rt r.1 r.2
theorem ds_setX {i : Nat} {y : Str} {e : Expr} {m : HEnv → R (Bool × D)} {pos' : Pos} (hN : X.N.Nodup) (hi : X.N[i]? = some y) (hx : Loc X.env.scope y) (he : PE X e (tX cl W m)) (hs : swapsWith e (some (.Name y pos')) pos.line X.env = pure false := by rfl)
    (hf : X.fn y = true ∨ X.env.scope.names.lookup y = some .local := by first | exact .inl rfl | exact .inr rfl | assumption) : PS X (.Assign [.Name y pos'] e pos) (tS cl W (mSetX i m)) :=
  ps_weak (ps_set hN hi hx he hs hf) fun Dn σ H q => stB q fun d v F0 H0 F env Hs H1 s0 F1 kp s r p => by
    obtain ⟨o, d⟩ := d
    cases o with
    | false => exact HSt.get (W := W) (s.set (show Rep cl F1 d v by simpa [relX, RetR] using r)) p
    | true =>
      obtain ⟨a, rfl, h1, h2, h3⟩ : relN cl Hs F1 H1 d v := by simpa [relX, RetR] using r
      exact HSt.get (W := W) (s.setOwn h2 (s0.kp.same.free h1) h3 fun j e _ h => s0.newOwn h1 j e h) p
theorem ds_retX {e : Expr} {m : HEnv → R (Bool × D)} (he : PE X e (tX cl W m)) : PS X (.Return (some e) pos) (tS cl W (mRetX m)) :=
  ps_weak (ps_ret he) fun Dn σ H q => stB (α := Bool × D) (k := fun r _ => .rt r.1 r.2) q fun d v F0 H0 F env Hs H1 s0 F1 kp s r p => p v F1 H1 s.kp s.sub (by
    unfold relX RetR at r
    unfold RetR
    split at r
    · rename_i e
      rw [if_pos e]
      exact oldN _ _ _ _ _ _ s0.kp.same r
    · rename_i e
      rw [if_neg e]
      exact r)

/-! ### truth, not, and, or -/
def truD : D → R Bool
  | .non => .ok false
  | .bl b => .ok b
  | .int i => .ok (i != 0)
  | .str y => if y.length ≤ sizeLine then .ok ((y.length : Int) != 0) else .stuck
  | .tup xs => .ok (!xs.isEmpty)
  | .lst xs => .ok (!xs.isEmpty)
  | _ => .stuck
theorem isEmpty_rep {F : Hp} : ∀ {ds : List D} {vs : List V}, RepL cl F ds vs → (!vs.isEmpty) = !ds.isEmpty
  | [], vs, h => by simp only [RepL] at h; rw [h]; rfl
  | d :: ds, vs, h => by
    simp only [RepL] at h
    obtain ⟨v, r, rfl, _, _⟩ := h
    rfl
theorem dt_truth {a : Expr} {m : HEnv → R D} (ha : PE X a (tB cl W m)) (he : ∀ whole, isTrue a X.env whole = (do let v ← whole; standAt a.pos; holding [v] (truthy v)) := by intro _; rfl) : PT X a (tT cl W (m1 truD m)) := by
  refine pt_weak (pt_truth ha he) fun σ H Q q => ?_
  refine read1 (rel := relB cl) (r := fun x H1 Q => ∃ k, TruV X.K x H1 k ∧ Q k H1) oldT (fun Hs F H d v Q σ s r p => ?_) q
  cases d with
  | non => exact ⟨false, by rw [BRep.non r]; rfl, PostG.done p s rfl⟩
  | bl b => exact ⟨b, by rw [BRep.bl r]; rfl, PostG.done p s rfl⟩
  | int i => exact ⟨_, by rw [BRep.int r]; rfl, PostG.done p s rfl⟩
  | str y =>
    simp only [truD] at p
    split at p
    · rename_i h
      exact ⟨_, by rw [BRep.str r]; exact ⟨h, rfl⟩, PostG.done p s rfl⟩
    · exact p.elim
  | tup xs =>
    obtain ⟨a, vs, rfl, h1, l1, z1⟩ := BRep.tup' r s
    exact ⟨_, .inr (.inl ⟨vs, .inl h1, rfl⟩), PostG.done p s (isEmpty_rep l1)⟩
  | lst xs =>
    obtain ⟨a, vs, rfl, h1, l1, z1⟩ := BRep.lst' r s
    exact ⟨_, .inl ⟨vs, .inl h1, rfl⟩, PostG.done p s (isEmpty_rep l1)⟩
  | _ => exact p.elim
def mNotT (t : HEnv → R Bool) : HEnv → R Bool := m1 (fun c => .ok (!c)) t
def mAndT (t u : HEnv → R Bool) : HEnv → R Bool := fun env => (t env).bind fun c => if c = true then u env else .ok false
def mOrT (t u : HEnv → R Bool) : HEnv → R Bool := fun env => (t env).bind fun c => if c = true then .ok true else u env
variable {a b : Expr} {rest : List Expr} {ta tb : HEnv → R Bool}
theorem dt_not (h : PT X a (tT cl W ta)) : PT X (.UnaryOp .Not a pos) (tT cl W (mNotT ta)) := by
  refine pt_weak (pt_not h) fun σ H Q q => ?_
  exact read1 (rel := relT) (r := fun c H1 Q => Q (!c) H1) oldT (fun Hs F H d v Q σ s r p => by cases r; exact PostG.done p s rfl) q
theorem tT_at {t : HEnv → R Bool} {F0 : Bs} {H0 F1 H1 : Hp} {env : HEnv} {σ : L2.St} {Q : Bool → Hp → Prop} (s : HSt cl F0 H0 F1 env σ H1) (p : PostG cl relT W (t env) F1 σ H1 Q) : tT cl W t σ H1 Q := ⟨F0, H0, F1, env, s, p⟩
theorem read_and {σ : L2.St} {H : Hp} {Q : Bool → Hp → Prop} (q : tT cl W (mAndT ta tb) σ H Q) : tAnd (tT cl W ta) (tT cl W tb) σ H Q := by
  refine bindG (k := fun c env => if c = true then tb env else .ok false) oldT q fun c v F0 H0 F1 env Hs H1 s r p => ?_
  obtain rfl : v = c := r
  cases v with
  | true => rw [if_pos rfl]; exact tT_at s p
  | false => rw [if_neg (by decide)]; exact PostG.done (rel := relT) p s.sub rfl
theorem read_or {σ : L2.St} {H : Hp} {Q : Bool → Hp → Prop} (q : tT cl W (mOrT ta tb) σ H Q) : tOr (tT cl W ta) (tT cl W tb) σ H Q := by
  refine bindG (k := fun c env => if c = true then .ok true else tb env) oldT q fun c v F0 H0 F1 env Hs H1 s r p => ?_
  obtain rfl : v = c := r
  cases v with
  | true => rw [if_pos rfl]; exact PostG.done (rel := relT) p s.sub rfl
  | false => rw [if_neg (by decide)]; exact tT_at s p
theorem dw_and1 (h : PT X a (tT cl W ta)) : PW X (.BoolOp .And [a] pos) (tT cl W ta) := pw_and1 h
theorem dw_or1 (h : PT X a (tT cl W ta)) : PW X (.BoolOp .Or [a] pos) (tT cl W ta) := pw_or1 h
theorem dw_and (h : PT X a (tT cl W ta)) (hr : PW X (.BoolOp .And (b :: rest) pos) (tT cl W tb)) : PW X (.BoolOp .And (a :: b :: rest) pos) (tT cl W (mAndT ta tb)) := pw_weak (pw_and h hr) fun σ H Q q => read_and q
theorem dw_or (h : PT X a (tT cl W ta)) (hr : PW X (.BoolOp .Or (b :: rest) pos) (tT cl W tb)) : PW X (.BoolOp .Or (a :: b :: rest) pos) (tT cl W (mOrT ta tb)) := pw_weak (pw_or h hr) fun σ H Q q => read_or q
/-- .. as values: bools -/
def mAndV (ma mb : HEnv → R D) : HEnv → R D := fun env => (ma env).bind fun d => (truB d).bind fun c => if c = true then mb env else .ok (.bl false)
def mOrV (ma mb : HEnv → R D) : HEnv → R D := fun env => (ma env).bind fun d => (truB d).bind fun c => if c = true then .ok (.bl true) else mb env
def notD : D → R D
  | .bl b => .ok (.bl (!b))
  | _ => .stuck
variable {ma mb : HEnv → R D}
theorem de_one {op} (h : PE X a (tF cl W ma)) : PE X (.BoolOp op [a] pos) (tF cl W ma) := pe_one h
theorem tF_at {m : HEnv → R D} {F0 : Bs} {H0 F1 H1 : Hp} {env : HEnv} {σ : L2.St} {Q : VK} (s : HSt cl F0 H0 F1 env σ H1) (p : PostG cl (relF cl) W (m env) F1 σ H1 Q) : tF cl W m σ H1 Q := ⟨F0, H0, F1, env, s, p⟩
theorem de_and (h : PE X a (tF cl W ma)) (hr : PE X (.BoolOp .And (b :: rest) pos) (tF cl W mb)) : PE X (.BoolOp .And (a :: b :: rest) pos) (tF cl W (mAndV ma mb)) := by
  refine pe_weak (pe_and h hr) fun σ H Q q => ?_
  refine bindG (k := fun d env => (truB d).bind fun c => if c = true then mb env else .ok (.bl false)) oldF q fun d v F0 H0 F1 env Hs H1 s r p => ?_
  cases d with
  | bl c =>
    refine ⟨c, RepIn.bl r, ?_⟩
    cases c with
    | true => rw [if_pos rfl]; exact tF_at s p
    | false => rw [if_neg (by decide)]; exact PostG.done (rel := relF cl) p s.sub (by simp only [relF, Rep])
  | _ => exact p.elim
theorem de_or (h : PE X a (tF cl W ma)) (hr : PE X (.BoolOp .Or (b :: rest) pos) (tF cl W mb)) : PE X (.BoolOp .Or (a :: b :: rest) pos) (tF cl W (mOrV ma mb)) := by
  refine pe_weak (pe_or h hr) fun σ H Q q => ?_
  refine bindG (k := fun d env => (truB d).bind fun c => if c = true then .ok (.bl true) else mb env) oldF q fun d v F0 H0 F1 env Hs H1 s r p => ?_
  cases d with
  | bl c =>
    refine ⟨c, RepIn.bl r, ?_⟩
    cases c with
    | true => rw [if_pos rfl]; exact PostG.done (rel := relF cl) p s.sub (by simp only [relF, Rep])
    | false => rw [if_neg (by decide)]; exact tF_at s p
  | _ => exact p.elim
theorem de_not (h : PE X a (tF cl W ma)) : PE X (.UnaryOp .Not a pos) (tF cl W (m1 notD ma)) := by
  refine pe_weak (pe_not h) fun σ H Q q => ?_
  refine read1 (rel := relF cl) (r := fun x H1 Q => ∃ c, x = V.bl c ∧ Q (.bl (!c)) H1) oldF (fun Hs F H d v Q σ s r p => ?_) q
  cases d with
  | bl c => exact ⟨c, RepIn.bl r, PostG.done p s (by simp only [relF, Rep])⟩
  | _ => exact p.elim
/-- a if c else b -/
def mIfE (c : HEnv → R Bool) (ma mb : HEnv → R D) : HEnv → R D := fun env => (c env).bind fun t => if t = true then ma env else mb env
theorem d_ife {c : Expr} {t : HEnv → R Bool} (hc : PT X c (tT cl W t)) (h1 : PE X a (tF cl W ma)) (h2 : PE X b (tF cl W mb)) : PE X (.IfExp c a b pos) (tF cl W (mIfE t ma mb)) := by
  refine pe_weak (pe_ifExp hc h1 h2) fun σ H Q q => ?_
  refine bindG (k := fun t env => if t = true then ma env else mb env) oldF q fun c v F0 H0 F1 env Hs H1 s r p => ?_
  obtain rfl : v = c := r
  cases v with
  | true => rw [if_pos rfl]; exact tF_at s p
  | false => rw [if_neg (by decide)]; exact tF_at s p
theorem dts_one {t : Expr} {tt : HEnv → R Bool} (h : PT X t (tT cl W tt)) : PTs X [t] (tT cl W tt) := pts_one h
end
end HL

namespace HL
open PySem PySem.Spec PyProof.Rows L2
/-! ### several except clauses with a name -/
/-- a suite's ends: its name at slot i goes -/
abbrev goneE (i : Nat) (Dn : Ends) : Ends := { nx := fun σ' H' => Dn.nx (σ'.set i none) H', rt := Dn.rt, bk := fun σ' H' => Dn.bk (σ'.set i none) H', ct := fun σ' H' => Dn.ct (σ'.set i none) H' }
abbrev Clause := Value × (Addr → Value → Option Addr → TS)
def wAll (K : PySem.W.Frag) (i : Nat) (Wout : WX) (Dn : Ends) : List Clause → WX
  | [] => Wout
  | q :: r => fun cls d σ H => ∃ b, PySem.W.exmOne K cls q.1 = some b ∧ if b = true then ∀ a, H a = none → q.2 a cls d (goneE i Dn) (σ.set i (some (.ref a))) H else wAll K i Wout Dn r cls d σ H
inductive ClausesOk (X : Cx) (n : Str) : List ExceptHandler → List Clause → Prop
  | nil : ClausesOk X n [] []
  | cons {x : Str} {q : Clause} {st : Stmt} {sts : List Stmt} {np ps : Pos} {hds : List ExceptHandler} {l : List Clause} (hc : Names X x q.1)
      (hsu : ∀ (a : Addr) (oe : Obj) (cls : Value) (d : Option Addr) (pn : List (Addr × Obj)), Zc cls d oe → (∃ vs, oe.data = .fields vs) → PSs (X.suite a ((a, oe) :: pn)) (st :: sts) (q.2 a cls d)) (r : ClausesOk X n hds l) :
      ClausesOk X n (.ExceptHandler (some (.Name x np)) (some n) (st :: sts) ps :: hds) (q :: l)
section
variable {X : Cx} {n : Str} {i : Nat} {Wout : WX}
/-- an exception that has come to this frame's clauses -/
structure Come (X : Cx) (pins : List (Addr × Obj)) (σ : L2.St) (H : Hp) (cls : Value) (d : Option Addr) (a : Addr) (B : Heap) (sI s' s3 : Shared) : Prop where
  J : L2.Inv X pins σ H sI
  nb : ∀ (b : Addr) (o : Obj), sI.heap.get? b = some o → ¬ b ∈ frs X.stack → B.get? b = some o
  up : sI.heap.UpToSlots s3.heap
  os : s3.os = sI.os
  ag : AllBare s3.gens
  na : H a = none
  fl : HandSPX.FlyingZ B (X.env :: X.outer) a (Zc cls d) s3.heap
theorem Come.inv {pins : List (Addr × Obj)} {σ : L2.St} {H : Hp} {cls : Value} {d : Option Addr} {a : Addr} {B : Heap} {sI s' s3 : Shared} (c : Come X pins σ H cls d a B sI s' s3) : L2.Inv X pins σ H s3 := c.J.landed c.nb c.fl.1 c.up c.os c.ag
theorem Come.far {pins : List (Addr × Obj)} {σ : L2.St} {H : Hp} {cls : Value} {d : Option Addr} {a : Addr} {B : Heap} {sI s' s3 : Shared} (c : Come X pins σ H cls d a B sI s' s3) (hf : X.env.frame = some X.env.locals) : a ≠ X.env.locals ∧ a ∉ X.fs := by
  obtain ⟨oe, vs, he, _, hd⟩ := c.fl.there
  have nfr : a ∉ frs (X.env :: X.outer) := fun hm => by
    obtain ⟨_, o2, e2, hnf⟩ := c.fl.2.2.1.mem hm
    rw [he] at e2
    cases e2
    exact hnf _ hd
  constructor
  · intro z
    exact nfr (List.mem_filterMap.mpr ⟨X.env, List.mem_cons_self, by rw [hf, z]⟩)
  · intro hm
    obtain ⟨e, h1, h2⟩ := List.mem_filterMap.mp hm
    exact nfr (List.mem_filterMap.mpr ⟨e, List.mem_cons_of_mem _ h1, h2⟩)
theorem clauses_run (hs : X.stack = X.env :: X.outer) (hf : X.env.frame = some X.env.locals) (hN : X.N.Nodup) (hi : X.N[i]? = some n) (hln : X.env.kindOf n = some .local) (tk : Takes X Wout) {Dn : Ends} {hds : List ExceptHandler} {l : List Clause} (hk : ClausesOk X n hds l) :
    ∀ {pins : List (Addr × Obj)} {σ : L2.St} {H : Hp} {cls : Value} {d : Option Addr} {a : Addr} {B : Heap} {sI s' s3 : Shared}, Come X pins σ H cls d a B sI s' s3 → wAll X.K i Wout Dn l cls d σ H → wpAny (model X.prog X.w) X.A (handleBy (.ref a) X.env hds) (SP X pins Dn) X.xe s3 := by
  induction hk with
  | nil =>
    intro pins σ H cls d a B sI s' s3 c w
    refine wpAny_handleBy_nil ?_
    obtain ⟨_, _, _, oe, vs, T, _, _, he, _, hd, h1, _⟩ := id c.fl
    unfold PySem.passOn
    refine wpAny_bind (wpAny_field he hd h1 ?_)
    rw [if_neg (by simp : ¬ ((Value.ref T == Value.none) = true))]
    have out : wpAny (model X.prog X.w) X.A (setFlight (.ref a) X.env.frame) (fun _ s4 => wpAny (model X.prog X.w) X.A (throw (.ref a) : Sem Flow) (SP X pins Dn) X.xe s4) X.xe s3 := by
      rw [hf]
      exact HandSPX.setFlight_upZ c.fl fun h4 held up4 => wpAny_throw (tk _ _ ⟨a, B, sI, pins, σ, H, cls, d, rfl, c.J, c.nb, c.up.trans up4, .inr (.inr (by rw [hs]; exact held)), c.na, c.os, c.ag, w⟩)
    first
      | exact wpAny_bind (wpAny_pure (wpAny_bind out))
      | exact wpAny_bind out
  | cons hc hsu r ih =>
    intro pins σ H cls d a B sI s' s3 c w
    rename_i x q st sts np ps hds2 l2
    obtain ⟨b, hb1, w⟩ := w
    have I3 := c.inv
    obtain ⟨nL, nF⟩ := c.far hf
    obtain ⟨oe, vs, he, hz, hd⟩ := c.fl.there
    have S3 := I3.suite he hd c.na nL nF
    refine wpAny_handleBy_cons (codeAny_handlers_test ?_) (by intro z; cases z)
    have lt : PySem.W.Looks (model X.prog X.w) s3.heap (typeOf (.ref a)) cls := fun A Q E s k q => wpAny_typeOf_ref (k _ _ he) (by rw [hz.1]; exact q)
    have lm := PySem.W.exm_one (M := model X.prog X.w) I3.kIn lt hb1
    have named : ∀ {Q : Value → Shared → Prop} {E : Value → Shared → Prop}, Q q.1 s3 → wpAny (model X.prog X.w) (X.A.mark (some (.ref a))) (eval (.Name x np) X.env) Q E s3 := fun {Q E} z => by
      obtain ⟨g1, g2, g3⟩ := hc
      rcases g3 with g3 | ⟨g3, g4, g5⟩
      · exact ld_glob (X := X.suite a ((a, oe) :: (X.pn ++ pins))) S3 g1 g3 z g2
      · exact ld_blt (X := X.suite a ((a, oe) :: (X.pn ++ pins))) S3 g1 g3 g4 z g5 g2
    refine named (lm.here ?_)
    cases b with
    | false =>
      rw [if_neg (by decide)] at w
      exact ih (s' := s') c w
    | true =>
      rw [if_pos rfl] at w
      refine codeAny_handlers_suite_as (HandSPX.lands_againZ c.fl fun h4 fl4 up4 => ?_)
      have c4 : Come X pins σ H cls d a B sI s' { s3 with heap := h4 } := ⟨c.J, c.nb, c.up.trans up4, c.os, c.ag, c.na, fl4⟩
      obtain ⟨oe4, vs4, he4, hz4, hd4⟩ := c4.fl.there
      have S4 := c4.inv.suite he4 hd4 c.na nL nF
      refine store_ok (X := X.suite a ((a, oe4) :: (X.pn ++ pins))) (v := .ref a) S4 hN hi (.inl hln) rfl (fun s5 S5 => ?_) (.inr hln)
      refine wpAny_mono ((hsu a oe4 cls d (X.pn ++ pins) hz4 ⟨_, hd4⟩).run [] s5 _ H _ S5 (w a c.na)) (fun f s6 hsp => ?_) (fun _ _ z => z.elim)
      have fin : ∀ {σ6 : L2.St} {H6 : Hp} {Q : Shared → Prop}, L2.Inv (X.suite a ((a, oe4) :: (X.pn ++ pins))) [] σ6 H6 s6 → (∀ s7, L2.Inv X pins (σ6.set i none) H6 s7 → Q s7) →
          wpAny (model X.prog X.w) X.A (do bindName X.env n .none; unbindBehindTheSuite X.env n ps) (fun _ s7 => Q s7) X.xe s6 := fun S6 hq => gone_ok (S6.unsuite c.J.ok) hN hi hln hq
      cases f <;> first
        | (obtain ⟨σ6, H6, S6, q6⟩ := hsp; exact fin S6 fun s7 J7 => ⟨_, _, J7, q6⟩)
        | (obtain ⟨v6, σ6, H6, S6, r6, q6⟩ := hsp; exact fin S6 fun s7 J7 => ⟨_, _, _, J7, r6, q6⟩)
theorem ps_try_all {body : List Stmt} {h₀ : ExceptHandler} {hds : List ExceptHandler} {l : List Clause} {pos : Pos} {tb : WX → TS} (hs : X.stack = X.env :: X.outer) (hf : X.env.frame = some X.env.locals) (hN : X.N.Nodup) (hi : X.N[i]? = some n) (hln : X.env.kindOf n = some .local) (tk : Takes X Wout)
    (hb : ∀ (W : WX) (pn : List (Addr × Obj)) (xe : Value → Shared → Prop), Takes (X.tr pn xe) W → PassesOwn (model X.prog X.w) X.A X.env xe → PSs (X.tr pn xe) body (tb W)) (hh : ClausesOk X n (h₀ :: hds) l) :
    PS X (.Try body (h₀ :: hds) [] [] pos) (fun Dn σ H => tb (wAll X.K i Wout Dn l) Dn σ H) := by
  refine ⟨fun pins s σ H Dn I h => ?_⟩
  refine wpAny_Try_except ?_
  have hfr : X.A.frames = some (X.env :: X.outer) := by rw [I.ok.frames, hs]
  let xe1 : Value → Shared → Prop := fun e s₁ => wpAny (model X.prog X.w) X.A (noteFrame e X.env) (fun _ s₂ => wpAny (model X.prog X.w) X.A (setFlight e none) (fun _ s₃ => wpAny (model X.prog X.w) X.A (handleBy e X.env (h₀ :: hds)) (SP X pins Dn) X.xe s₃) X.xe s₂) X.xe s₁
  have tk1 : Takes (X.tr (X.pn ++ pins) xe1) (wAll X.K i Wout Dn l) := fun u s' xx => by
    obtain ⟨a, B, sI, pins', σ', H', cls, d, rfl, J', nb, up, sky, na, os, ag, w⟩ := xx
    have J : L2.Inv X pins σ' H' sI := J'.ofTry I.ok
    refine Sky.land Zc.steady hfr hf (by rw [← hs]; exact sky) fun h3 fl3 up3 => ?_
    exact clauses_run (s' := s') hs hf hN hi hln tk hh ⟨J, nb, up.trans up3, os, ag, na, fl3⟩ w
  refine wpAny_mono ((hb _ (X.pn ++ pins) xe1 tk1 PassesOwn.looking).run [] s σ H Dn (I.toTry _) h) (fun f s1 hsp => ?_) (fun e s1 he => he)
  cases f with
  | next => obtain ⟨σ2, H2, J2, q⟩ := hsp; exact wpAny_execs_nil ⟨σ2, H2, J2.ofTry I.ok, q⟩
  | brk => obtain ⟨σ2, H2, J2, q⟩ := hsp; exact ⟨σ2, H2, J2.ofTry I.ok, q⟩
  | cont => obtain ⟨σ2, H2, J2, q⟩ := hsp; exact ⟨σ2, H2, J2.ofTry I.ok, q⟩
  | ret u => obtain ⟨v, σ2, H2, J2, r, q⟩ := hsp; exact ⟨v, σ2, H2, J2.ofTry I.ok, r, q⟩
end
end HL

/-! An own error class whose __init__ says super().__init__(f'.. {a}') and self.a = a. -/
namespace PySem
namespace HLX
open PySem.W PySem.Calls PyProof.Rows PySem.HandSPX
def iA (fld : Str) (p1 p2 : Pos) : Arguments := { posonlyargs := [], args := [{ arg := "self", annotation := none, pos := p1 }, { arg := fld, annotation := none, pos := p2 }], vararg := none, kwonlyargs := [], kw_defaults := [], kwarg := none, defaults := [] }
def iB (fld pre : Str) (suf : List Expr) (q1 q2 q3 q4 q5 q6 q7 q8 q9 r1 r2 r3 r4 : Pos) : List Stmt :=
  [.Expr (.Call (.Attribute (.Call (.Name "super" q1) [] [] q2) "__init__" q3) [.JoinedStr (.Constant (.str pre) 0 q4 :: .FormattedValue (.Name fld q5) (-1) none q6 :: suf) q7] [] q8) q9, .Assign [.Attribute (.Name "self" r1) fld r2] (.Name fld r3) r4]
/-- what may stand behind the field in the text: nothing, or a text -/
def sufB : List Expr → Bool
  | [] => true
  | [.Constant (.str x) _ _] => decide (x.length ≤ 100)
  | _ => false
def iS (fld : Str) : Scope := { kind := .function, names := [(PySem.Str.ofString "self", .local), (fld, .local), (PySem.Str.ofString "__class__", .free), (PySem.Str.ofString "super", .globalImplicit)], isGenerator := false, isCoroutine := false, more := [] }
/-- the scope's answers, by rfl at a written name -/
structure FldOk (fld : Str) : Prop where
  s1 : (iS fld).names.lookup (Str.ofString "super") = some NameKind.globalImplicit
  s2 : (iS fld).names.lookup (Str.ofString "__class__") = some NameKind.free
  s3 : (iS fld).names.lookup (Str.ofString "self") = some NameKind.local
  s4 : (iS fld).names.lookup fld = some NameKind.local
  d : (fld == ("__debug__" : Str)) = false
  ne : (fld == ("self" : Str)) = false
  bd : ∀ (body : List Stmt) (qual : Str) (p1 p2 : Pos) (kV doc pm : Value) (an : Option Addr) (cdv ct : Value) (cc : Addr) (x v : Value), bindArgs (ksFn "__init__" qual (iA fld p1 p2) body (iS fld) .none kV doc pm an cdv ct cc) ⟨[x, v], []⟩ = pure [(Str.ofString "self", x), (fld, v)]
/-- what the written part says of such a class, at C, its __init__ at fI -/
structure ErrTxt (P : Program) (K : Frag) (mg : Str → Option Value) (nm fld : Str) (C fI : Addr) : Prop where
  gC : mg nm = some (.ref C)
  gS : mg "super" = none
  cls : ∃ nm q N bs bm sn sub ab col dd k0 k1 k2 k3 k5, K.lookup C = some (excClassObj nm q C N bs bm true sn sub ab col dd k0 k1 k2 k3 k5 "ValueError.__new__") ∧ refsVE bm = true
  sa : findIn K (.ref C) "__setattr__" = some (some (.builtin "object.__setattr__"))
  noN : findIn K (.ref C) fld = some none
  iC : findIn K (.ref C) "__init__" = some (some (.ref fI))
  tC : typeIn K (.ref fI) = some (.type "function")
  kC : keepIn K (.ref C) = true
  xf : L2.XfC K C
  tyC : typeIn K (.ref C) = some (.type "type")
  sup : ks_superIn K C C "__init__" = some (some (.builtin "ValueError.__init__"))
  stat : nsIn K cStatics "thirdparty.any" = some none
  sb : subIn K (.ref C) (.type "ValueError") = some true
  mr : mroIn K C (.ref C) = some true
  top : (P.main.scope.names.lookup ("super" : Str)).isSome = false
  fn : ∃ (oc : Value) (od : Option Addr) (kV doc pm : Value) (an : Option Addr) (ct : Value) (osl : Array (Option Value)) (cda cc : Addr) (qual pre : Str) (suf : List Expr) (p1 p2 q1 q2 q3 q4 q5 q6 q7 q8 q9 r1 r2 r3 r4 : Pos),
    K.lookup fI = some ⟨oc, od, .func (ksFn "__init__" qual (iA fld p1 p2) (iB fld pre suf q1 q2 q3 q4 q5 q6 q7 q8 q9 r1 r2 r3 r4) (iS fld) .none kV doc pm an (.ref cda) ct cc), osl⟩ ∧ codeIn K (.ref cda) qual = true ∧ pre.length ≤ 100 ∧ sufB suf = true ∧ (q3.endLine == q8.line) = true ∧
    (∃ ccl cdd vs ccs file tf, K.lookup cda = some ⟨ccl, cdd, .fields vs, ccs⟩ ∧ vs[2]? = some (.str file tf) ∧ (P.main.file == file) = true) ∧ (∃ cl cld csl, K.lookup cc = some ⟨cl, cld, .cell (some (.ref C)), csl⟩)
structure InitEnd (h h' : Heap) (fld : Str) (x C dx t1 : Addr) (v : Value) : Prop where
  keep : ∀ b o, b ≠ x → h.get? b = some o → h'.get? b = some o
  obj : h'.get? x = some { cls := .ref C, dict := some dx, data := .fields #[.ref t1, .none, .none, .none, .bool false, .none] }
  dbig : h.objs.size ≤ dx
  dne : dx ≠ x
  ns : h'.Ns1 dx (fun y => if y = fld then some v else none)
structure OwnMade (h h' : Heap) (fld : Str) (e C d : Addr) (v : Value) : Prop where
  keep : ∀ b o, h.get? b = some o → h'.get? b = some o
  new : h.objs.size ≤ e
  obj : ∃ oe vs, h'.get? e = some oe ∧ oe.cls = .ref C ∧ oe.dict = some d ∧ oe.data = .fields vs ∧ vs[1]? = some .none
  dbig : h.objs.size ≤ d
  dne : d ≠ e
  ns : h'.Ns1 d (fun y => if y = fld then some v else none)
/-- what an error may be made with -/
def argOk : L2.V → Prop
  | .str x => x.length ≤ 1000
  | .int i => i.natAbs.log2 < 1920
  | _ => False
section
variable {prog : Program} {w : World} {A : Around} {E : Value → Shared → Prop} {R : Result → Shared → Prop} {s : Shared} {K : Frag} {mg : Str → Option Value} {C fI : Addr} {nm fld : Str}
theorem str_len (x y : Str) : (x ++ y).length = x.length + y.length := by
  show (x.cps ++ y.cps).size = _
  rw [Array.size_append]
  rfl
theorem fmt_arg {env : Env} {pos : Pos} {x : Expr} {xv : L2.V} {v : Value} {Q : Value → Shared → Prop} (r : L2.RelV xv v) (ok : argOk xv) (he : ∀ {Q1 : Value → Shared → Prop}, Q1 v s → wpAny (model prog w) A (eval x env) Q1 E s)
    (hq : ∀ y t tk, y.length ≤ 1930 → Q (.str y t) { s with toks := tk }) : wpAny (model prog w) A (eval (.FormattedValue x (-1) none pos) env) Q E s := by
  refine wpAny_FormattedValue_plain (he ?_)
  have hz := sizeLine_eq
  cases xv with
  | str y =>
    obtain ⟨t, rfl⟩ := r
    have h1 : y.length ≤ 1000 := ok
    exact wpAny_formatField_str (hq y t s.toks (by omega)) (hq y _ _ (by omega)) (by omega)
  | int i =>
    obtain ⟨t, rfl⟩ := r
    have h1 : i.natAbs.log2 < 1920 := ok
    exact wpAny_formatField_int h1 (hq _ _ _ (by have := int_text_len_1921 h1; omega))
  | _ => exact False.elim ok
theorem boot_super' : bootBuiltins (Str.ofString "super") = some (.type "super") := by decide +kernel
theorem at_method {M : Model} {c : Code} {env : Env} {o : Expr} {name : Str} {apos pos : Pos} {args : List Expr} {Q : Value → Shared → Prop} (hform : methodCallForm (args.length + ([] : List Keyword).length) (backTo pos (starEach args env)) (backToKw pos (keywordEach [] env)) = true) (hline : (apos.endLine == pos.line) = true)
    (h : PySem.wpAt M A c (attributeBase o name env (eval o env)) (fun ov s₁ => ∀ pl, wpAny M A (getMethod ov name pl) (fun fx s₂ => wpAny M A (callWith pos fx.1 fx.2 (backTo pos (starEach args env)) []) Q E s₂) E s₁) E s) :
    PySem.wpAt M A c (eval (.Call (.Attribute o name apos) args [] pos) env) Q E s := by
  have hpos : methodCallPos true o env apos pos = pure pos := by unfold methodCallPos; simp [hline]
  rw [arm_eval_Call]
  refine wpAt_bind (wpAt_mono h (fun ov s₁ h₁ => wpAt_of_wpAny (wpAny_bind (wpAny_standAt ?_))) fun _ _ z => z)
  unfold methodCall
  rw [hform]
  refine wpAny_bind (wpAny_holding (wpAny_mono (h₁ _) (fun fx s₂ h₂ => ?_) fun _ _ z => z))
  exact wpAny_bind (wpAny_of_eq hpos h₂)
theorem joins_suf {M : Model} {env : Env} {suf : List Expr} {acc : Str} {Q : Str → Shared → Prop} (hs : sufB suf = true) (ha : acc.length ≤ 2100) (h : ∀ out tk, out.length ≤ 2300 → Q out { s with toks := tk }) : Joins M A E (evalEach suf env) acc Q s := by
  have hz := sizeLine_eq
  unfold sufB at hs
  split at hs
  · exact h acc s.toks (by omega)
  · rename_i x k p
    have hx : x.length ≤ 100 := of_decide_eq_true hs
    have hl : (acc ++ x).length ≤ 2300 := by
      rw [str_len]
      omega
    show wpAny _ _ (eval (.Constant (.str x) k p) env) _ _ _
    exact Constant_str ⟨x, _, rfl, by omega, h _ _ hl⟩
  · cases hs
theorem err_init (T : ErrTxt prog K mg nm fld C fI) (fo : FldOk fld) {x t0 : Addr} {xv : L2.V} {v : Value} {mb : Str → Option Value} (X : K.In s.heap) (hg : s.heap.Ns mainGlobals mg) (hb : s.heap.Ns builtinsNs mb) (hbb : ∀ x : Str, x ≠ "__name__" → mb x = bootBuiltins x) (hlim : s.heap.NoLimit)
    (hx : s.heap.get? x = some (excO C t0)) (hnx : K.lookup x = none) (r : L2.RelV xv v) (ok : argOk xv) (hroom : A.depth < recursionLimit)
    (hq : ∀ h' tk dx t1, InitEnd s.heap h' fld x C dx t1 v → R (.ok (.ret .none)) { s with heap := h', toks := tk }) :
    codeAny (model prog w) A (.call (.ref fI) ⟨[.ref x, v], []⟩) R s := by
  obtain ⟨oc, od, kV, doc, pm, an, ct, osl, cda, cc, qual, pre, suf, p1, p2, q1, q2, q3, q4, q5, q6, q7, q8, q9, r1, r2, r3, r4, ho, hcd, hpre, hsuf, hql, ⟨ccl, cdd, vs, ccs, file, tf, hcda, hvs, hfile⟩, ⟨cl, cld, csl, hcell⟩⟩ := T.fn
  obtain ⟨nm', q, N, bs, bm, sn, sub, ab, col, dd, k0, k1, k2, k3, k5, hC, hbm⟩ := T.cls
  have hcl : clsIn K C = some { name := nm', bases := bs, mro := .ref C :: bm, ns := N, qualname := q, hasDict := true, slotNames := sn, subclasses := sub, abstract := ab, collection := col, hasDel := false } := by unfold clsIn; rw [hC] <;> rfl
  have hbind : BindsTo s (ksFn "__init__" qual (iA fld p1 p2) (iB fld pre suf q1 q2 q3 q4 q5 q6 q7 q8 q9 r1 r2 r3 r4) (iS fld) .none kV doc pm an (.ref cda) ct cc) ⟨[.ref x, v], []⟩ [("self", .ref x), (fld, v)] := BindsTo.of_eq (fo.bd _ _ _ _ _ _ _ _ _ _ _ _ _)
  have hloc : ∀ y ∈ [(("self" : Str), Value.ref x), (fld, v)], (iS fld).names.lookup y.1 = some .local := fun y hy => by
    rcases List.mem_cons.mp hy with rfl | hy
    · exact fo.s3
    · rcases List.mem_cons.mp hy with rfl | hy
      · exact fo.s4
      · cases hy
  refine ks_codeAny_call_defAt (fd := ksFn "__init__" qual (iA fld p1 p2) (iB fld pre suf q1 q2 q3 q4 q5 q6 q7 q8 q9 r1 r2 r3 r4) (iS fld) .none kV doc pm an (.ref cda) ct cc) (body := iB fld pre suf q1 q2 q3 q4 q5 q6 q7 q8 q9 r1 r2 r3 r4) (binds := [("self", .ref x), (fld, v)]) hroom (X _ _ ho) rfl hlim (codeRec_of X hcd) rfl hbind ?_ hloc (fun h₁ hns hk₁ => ?_) rfl rfl rfl
  · intro y hy e
    simp only [iS, List.mem_cons, List.not_mem_nil, or_false] at hy
    rcases hy with rfl | rfl | rfl | rfl <;> cases e
  · have X₁ : K.In h₁ := X.keeps hk₁
    have hx₁ := hk₁ _ _ hx
    have hxL : s.heap.objs.size ≠ x := Nat.ne_of_gt (Heap.lt_size hx)
    obtain ⟨hh, g, d, t, os⟩ := s
    generalize hen : callEnv (ksFn "__init__" qual (iA fld p1 p2) (iB fld pre suf q1 q2 q3 q4 q5 q6 q7 q8 q9 r1 r2 r3 r4) (iS fld) .none kV doc pm an (.ref cda) ct cc) (⟨hh, g, d, t, os⟩ : Shared).heap.objs.size fI = env
    have k1 : env.kindOf (Str.ofString "super") = some .globalImplicit := by rw [← hen]; exact fo.s1
    have k2 : env.kindOf (Str.ofString "__class__") = some .free := by rw [← hen]; exact fo.s2
    have k3 : env.kindOf (Str.ofString "self") = some .local := by rw [← hen]; exact fo.s3
    have k4 : env.kindOf fld = some .local := by rw [← hen]; exact fo.s4
    have e1 : env.func = some fI := by rw [← hen]; rfl
    have e2 : env.code = .ref cda := by rw [← hen]; rfl
    have e3 : env.scope.kind = .function := by rw [← hen]; rfl
    have e4 : env.locals = hh.objs.size := by rw [← hen]; rfl
    have e5 : List.lookup (Str.ofString "__class__") env.cells = some cc := by rw [← hen]; rfl
    have e6 : env.globals = mainGlobals := by rw [← hen]; rfl
    have e7 : env.builtins = builtinsNs := by rw [← hen]; rfl
    have e8 : interactive env = false := by rw [← hen]; rfl
    have hns' : h₁.Ns env.locals (fun y => List.lookup y [(("self" : Str), Value.ref x), (fld, v)].reverse) := by rw [e4]; exact hns
    have vself : List.lookup (Str.ofString "self") [(("self" : Str), Value.ref x), (fld, v)].reverse = some (.ref x) := by
      show List.lookup (Str.ofString "self") [(fld, v), (("self" : Str), Value.ref x)] = _
      rw [List.lookup_cons]
      have : (Str.ofString "self" == fld) = false := by rw [BEq.comm]; exact fo.ne
      rw [this]
      rfl
    have vfld : List.lookup fld [(("self" : Str), Value.ref x), (fld, v)].reverse = some v := by
      show List.lookup fld [(fld, v), (("self" : Str), Value.ref x)] = _
      rw [List.lookup_cons, beq_self_eq_true]
    have g₁ : h₁.Ns mainGlobals mg := hg.keeps hk₁
    have b₁ : h₁.Ns builtinsNs mb := hb.keeps hk₁
    have xC : x ≠ C := fun z => by rw [z, hC] at hnx; cases hnx
    refine ks_wpAt_execs_cons (ks_wpAt_Expr_any (at_method (by first | rfl | decide) hql ?_) e8 (by first | rfl | with_unfolding_all rfl))
    refine ks_wpAt_super_base k1 k2 rfl e1 (X₁ _ _ ho) rfl rfl e2 (X₁ _ _ hcda) rfl hvs hfile T.top ?_
    refine ks_loadName_global e3 k1 (loadGlobal_builtin (by rw [e6]; exact g₁) T.gS (by rw [e7]; exact b₁) ((hbb _ (by decide +kernel)).trans boot_super') ⟨rfl, ?_⟩)
    refine wpAny_loadName_free e3 k2 e5 ⟨_, X₁ _ _ hcell, rfl⟩ ?_
    refine wpAny_loadName_local e3 k3 hns' vself ?_
    refine ks_wpAny_isType_cls (X₁ _ _ hC) rfl ⟨rfl, ?_⟩
    refine ks_wpAny_call_super (X₁ _ _ hC) rfl hx₁ rfl (fun c e => by cases e) (looks_mroIn X₁ T.mr) (fun h₂ e₂ kk₂ => ?_)
    have X₂ : K.In h₂ := X₁.keeps kk₂
    have hx₂ := kk₂ _ _ hx₁
    intro pl
    have I₂ : InstAt h₂ x (excO C t0) C none := ⟨hx₂, rfl, rfl, trivial⟩
    have hsup := T.sup
    unfold ks_superIn at hsup
    rw [hcl] at hsup
    refine kxs_getMethod kxs_ValueError e₂ (looks_opaque X₂ T.stat) (l₀ := .ref C :: bm) (fun A Q E s k q => wpAny_bind ((looks_clsIn X₂ hcl) A _ E s k (wpAny_pure q))) rfl X₂ hsup (I₂.type.andThen (looks_subIn X₂ T.sb)) xC (by decide) ?_
    have kk₃ : ∀ b o, h₂.get? b = some o → (h₂.push (kxs_mw "ValueError.__init__" x)).get? b = some o := fun b o e => Heap.get?_push_of_some _ e
    have hu₃ : (h₂.push (kxs_mw "ValueError.__init__" x)).get? h₂.objs.size = some (kxs_mw "ValueError.__init__" x) := Heap.get?_push_at rfl rfl
    generalize hh₃ : h₂.push (kxs_mw "ValueError.__init__" x) = h₃ at kk₃ hu₃
    generalize hu : h₂.objs.size = u at hu₃
    have X₃ : K.In h₃ := X₂.keeps kk₃
    have hx₃ := kk₃ _ _ hx₂
    have kk₀₃ : ∀ b o, h₁.get? b = some o → h₃.get? b = some o := fun b o e => kk₃ b o (kk₂ b o e)
    have ns₃ : h₃.Ns env.locals (fun y => List.lookup y [(("self" : Str), Value.ref x), (fld, v)].reverse) := hns'.keeps kk₀₃
    have he : starEach [Expr.JoinedStr (.Constant (.str pre) 0 q4 :: .FormattedValue (.Name fld q5) (-1) none q6 :: suf) q7] env = (false, eval (Expr.JoinedStr (.Constant (.str pre) 0 q4 :: .FormattedValue (.Name fld q5) (-1) none q6 :: suf) q7) env) :: starEach [] env := rfl
    show wpAny _ _ (callWith q8 (.ref u) [] (backTo q8 (starEach [Expr.JoinedStr (.Constant (.str pre) 0 q4 :: .FormattedValue (.Name fld q5) (-1) none q6 :: suf) q7] env)) []) _ _ _
    rw [he]
    refine kxs_callWith (i := "ValueError.__init__") (x := x) rfl (evalArgs_plain ?_)
    rw [show ((false, _) :: _ : List (Bool × Sem Value)) = backTo q8 (starEach [Expr.JoinedStr (.Constant (.str pre) 0 q4 :: .FormattedValue (.Name fld q5) (-1) none q6 :: suf) q7] env) from rfl]
    have hz := sizeLine_eq
    have ee : (Str.empty ++ pre).length ≤ 100 := by
      rw [str_len]
      show 0 + pre.length ≤ 100
      omega
    refine args_cons ?_ he
    refine wpAny_JoinedStr ?_
    show wpAny _ _ (eval (.Constant (.str pre) 0 q4) env) _ _ _
    refine Constant_str ?_
    refine ⟨pre, _, rfl, by omega, ?_⟩
    show wpAny _ _ (eval (.FormattedValue (.Name fld q5) (-1) none q6) env) _ _ _
    refine fmt_arg (xv := xv) r ok (fun {Q1} q1 => wpAny_Name (wpAny_loadName_local e3 k4 ns₃ vfld q1) fo.d) fun y tk tk2 hy => ?_
    have hlen : (Str.empty ++ pre ++ y).length ≤ 2100 := by
      rw [str_len]
      omega
    refine ⟨y, tk, rfl, by omega, joins_suf hsuf hlen fun out tk3 ho => ⟨by omega, args_nil ⟨hu₃, ?_⟩⟩⟩
    show wpAny _ _ (call (.ref u) [_]) _ _ _
    refine wpAny_call (codeAny_of_tree ?_)
    show wpAny _ _ (callAny (.ref u) ⟨[_], []⟩) _ _ _
    simp only [callAny]
    refine wpAny_bind (wpAny_load hu₃ ?_)
    simp only [kxs_mw, show (Value.type "method-wrapper" == Value.type "method" || Value.type "method-wrapper" == Value.type "builtin_function_or_method" || Value.type "method-wrapper" == Value.type "method-wrapper") = true by decide, if_true]
    refine KFB.if_so (by decide) ?_
    refine wpAny_bind (check_bound_init F.excBase_ValueError.toExcCallFacts (X₃ _ _ hC) hx₃ rfl ?_)
    refine wpAny_bind (wpAny_pure (wpAny_pure ?_))
    refine ⟨plainId_quiet F.excBase_ValueError.init.plain _, codeAny_builtin F.excBase_ValueError.initEntry ?_⟩
    refine exc_init_tree (cls := .ref C) (t0 := t0) (dv := none) (c2 := .none) (c3 := .none) (b4 := .bool false) hx₃ (by simp; omega) fun h₄ k₄ hx₄ _ => ?_
    have kk₄ : ∀ b o, b ≠ x → hh.get? b = some o → h₄.get? b = some o := fun b o hb e => k₄ b o hb (kk₀₃ b o (hk₁ b o e))
    have X₄ : K.In h₄ := fun a o e => k₄ a o (fun z => by rw [z, hnx] at e; cases e) (X₃ a o e)
    have ns₄ : h₄.Ns env.locals (fun y => List.lookup y [(("self" : Str), Value.ref x), (fld, v)].reverse) := by
      obtain ⟨oL, es, ep, hL, rL⟩ := ns₃
      exact ⟨oL, es, ep, k₄ _ _ (by rw [e4]; exact hxL) hL, rL⟩
    show PySem.wpAt _ _ _ (execs _ env) _ _ _
    refine wpAt_of_wpAny (wpAny_execs_cons (plainObj_wpAny_Assign_Attribute ?_ (by first | rfl | with_unfolding_all rfl)))
    refine wpAny_Name (wpAny_loadName_local e3 k4 ns₄ vfld ?_) fo.d
    refine wpAny_Name (wpAny_loadName_local e3 k3 ns₄ vself ?_) (by decide)
    refine set_plain X₄ (ox := { cls := .ref C, data := .fields #[.ref h₃.objs.size, .none, .none, .none, .bool false, .none] }) (od := none) ⟨hx₄, rfl, rfl, trivial⟩ T.sa ?_
    refine exc_osa X₄ hx₄ hcl (show refsVE (.ref C :: bm) = true from hbm) rfl T.noN (fun h₅ tk₅ dx k₅ dn dne hx₅ hn₅ => ?_)
    refine wpAny_execs_nil (hq h₅ tk₅ dx h₃.objs.size ⟨fun b o hb e => k₅ b o hb (kk₄ b o hb e), hx₅, ?_, dne, hn₅⟩)
    have z : hh.objs.size < h₄.objs.size := by
      have := ns₄.lt
      rw [e4] at this
      exact this
    exact Nat.le_of_lt (Nat.lt_of_lt_of_le z dn)
theorem err_made (T : ErrTxt prog K mg nm fld C fI) (fo : FldOk fld) {xv : L2.V} {v : Value} {mb : Str → Option Value} (X : K.In s.heap) (hg : s.heap.Ns mainGlobals mg) (hb : s.heap.Ns builtinsNs mb) (hbb : ∀ x : Str, x ≠ "__name__" → mb x = bootBuiltins x) (hlim : s.heap.NoLimit)
    (r : L2.RelV xv v) (ok : argOk xv) (hroom : A.depth + 1 < recursionLimit)
    (hq : ∀ h' tk e d, OwnMade s.heap h' fld e C d v → R (.ok (.ret (.ref e))) { s with heap := h', toks := tk }) :
    codeAny (model prog w) A (.call (.ref C) ⟨[v], []⟩) R s := by
  obtain ⟨nm', q, N, bs, bm, sn, sub, ab, col, dd, k0, k1, k2, k3, k5, hC, hbm⟩ := T.cls
  obtain ⟨hp, g, dr, tk, os⟩ := s
  have k : ∀ b o, hp.get? b = some o → ((hp.push (kdv_tup [v])).push (excO C hp.objs.size)).get? b = some o := fun b o e => Heap.get?_push_of_some _ (Heap.get?_push_of_some _ e)
  have hget : ((hp.push (kdv_tup [v])).push (excO C hp.objs.size)).get? (hp.objs.size + 1) = some (excO C hp.objs.size) := by heap_get
  have hnx : K.lookup (hp.objs.size + 1) = none := by
    cases e : K.lookup (hp.objs.size + 1) with
    | none => rfl
    | some o =>
      have z : hp.get? (hp.objs.size + 1) = some o := X _ _ e
      exact absurd (Nat.lt_of_succ_lt (Heap.lt_size z)) (Nat.lt_irrefl _)
  refine call_own F.excBase_ValueError (fun X => refsVE_contains X bm hbm) (X _ _ hC) (looks_findIn X T.iC) (fun self => bind_fn X self T.tC) (by show 1 ≤ sizeLine; rw [sizeLine_eq]; omega) ?_
  refine err_init (s := ⟨(hp.push (kdv_tup [v])).push (excO C hp.objs.size), g, dr, tk, os⟩) T fo (X.keeps k) (hg.keeps k) (hb.keeps k) hbb (hlim.keeps k) hget hnx r ok ?_ fun h' tk' dx t1 ⟨k', hx, dn, dne, hns⟩ => ?_
  · show A.depth + 1 < recursionLimit
    exact hroom
  · have old : ∀ b o, hp.get? b = some o → h'.get? b = some o := fun b o e => k' b o (Nat.ne_of_lt (Nat.lt_succ_of_lt (Heap.lt_size e))) (k b o e)
    have z : hp.objs.size + 1 + 1 ≤ dx := by
      first
        | (simpa only [Heap.size_push] using dn)
        | exact dn
        | (have q := dn; rw [Heap.size_push, Heap.size_push] at q; exact q)
    exact ⟨rfl, hq h' tk' (hp.objs.size + 1) dx ⟨old, Nat.le_succ _, ⟨_, _, hx, rfl, rfl, rfl, rfl⟩, Nat.le_trans (Nat.le_trans (Nat.le_succ _) (Nat.le_succ _)) z, dne, hns⟩⟩
end
end HLX
end PySem
namespace HL
open PySem PySem.Spec PyProof.Rows L2
theorem relO_one {v : V} {v' : Value} (r : RelV v v') (fld f : Str) : RelO (List.lookup f [(fld, v)]) (if f = fld then some v' else none) := by
  by_cases hw : f = fld
  · subst hw
    rw [if_pos rfl]
    have q : List.lookup f [(f, v)] = some v := by simp [List.lookup]
    rw [q]
    exact r
  · rw [if_neg hw]
    have qw : (f == fld) = false := by simpa using hw
    have q2 : List.lookup f [(fld, v)] = none := by simp [List.lookup, qw]
    rw [q2]
    trivial
section
variable {X : Cx} {C fI : Addr} {nm fld : Str}
/-- C(e) -/
def tMkErr (fld : Str) (C : Addr) (ta : TA) : L2.St → Hp → XK → Prop := fun σ H Q => ta σ H fun vs H1 => ∃ v, vs = [v] ∧ HLX.argOk v ∧ ∀ d, H1 d = none → Q (.ref C) (some d) (upd H1 d (.xd [(fld, v)]))
theorem pmk_err {a : Expr} {ta : TA} {p pos : Pos} {k : Nat} (T : HLX.ErrTxt X.prog X.K X.mg nm fld C fI) (fo : HLX.FldOk fld) (hr : Room (k + 1) X.A) (ha : PA X [a] ta) (hg : Gl X nm) (hd : (nm == ("__debug__" : Str)) = false := by decide)
    (he : starEach (a :: []) X.env = (false, eval a X.env) :: starEach [] X.env := by rfl) (hpl : (backTo pos (starEach [] X.env)).any (·.1) = false := by rfl) :
    PMk X (.Call (.Name nm p) [a] [] pos) (tMkErr fld C ta) := by
  intro pins s σ H Q I h
  refine wpAny_Call_Name_kw (ld_glob I hg T.gC ?_ hd)
  refine PySem.W.callWith_K (h₀ := X.base) I.ok.mod.kin T.kC (thn (ha.run pos pins s σ H _ I h) fun us s1 hh => ?_) he hpl
  obtain ⟨vs, H1, I1, r1, v, ev, ok, q1⟩ := hh
  subst ev
  refine ⟨I1.kIn, ?_⟩
  cases r1 with
  | cons rv rn =>
    rename_i v' us'
    cases rn
    show wpAny _ _ (call (.ref C) [v']) _ _ _
    have hlim := I1.nolimit
    obtain ⟨mb, hmb, hbb⟩ := I1.ok.mod.blt
    have hb1 : s1.heap.Ns builtinsNs mb := hmb.keeps fun b o e => (I1.bs b o e).1
    have hg1 : s1.heap.Ns mainGlobals X.mg := I1.ok.mod.glob.keeps fun b o e => (I1.bs b o e).1
    obtain ⟨hp, g, dr, tk, os⟩ := s1
    refine wpAny_call (HLX.err_made T fo I1.kIn hg1 hb1 hbb hlim rv ok (by have := hr.dp; omega) fun h' tk' e d M => ?_)
    show MkP X pins σ Q (.ref e) ⟨h', g, dr, tk', os⟩
    obtain ⟨oe, fv, hoe, hc, hd, hdat, h1⟩ := M.obj
    have hns := M.ns
    obtain ⟨G', g1, g2⟩ := restrict h' fun b => decide (b ≠ e)
    have gk : ∀ b, b ≠ e → G'.get? b = h'.get? b := fun b hb => g1 b (decide_eq_true hb)
    have ge : G'.get? e = none := g2 e (by simp)
    have old : ∀ b o, hp.get? b = some o → G'.get? b = some o := fun b o q => (gk b (Nat.ne_of_lt (Nat.lt_of_lt_of_le (Heap.lt_size q) M.new))).trans (M.keep b o q)
    have ob : ObjOk X.prog X.w (upd H1 d (.xd [(fld, v)])) G' d (.xd [(fld, v)]) :=
      ⟨_, hns.at (fun o q => (gk d M.dne).trans q), fun f => relO_one rv fld f⟩
    have J : Inv X pins σ (upd H1 d (.xd [(fld, v)])) ⟨G', g, dr, tk', os⟩ := I1.laid (t' := tk') old M.dbig ob
    refine ⟨e, oe, fv, ⟨G', g, dr, tk', os⟩, _, .ref C, some d, rfl, J, fun b o q => ?_, ge, hoe, ⟨hc, hd⟩, hdat, h1, ?_, rfl, I1.bare, raises_own T.xf.exC T.tyC, q1 d (I1.hok.fresh M.dbig)⟩
    · by_cases hb : b = e
      · have q' : G'.get? b = some o := q
        rw [hb, ge] at q'; cases q'
      · exact (gk b hb).symm.trans q
    · rw [upd_ne (Ne.symm M.dne)]
      exact I1.hok.fresh M.new
/-- what an error may carry, as data -/
def argD : D → Bool
  | .str x => decide (x.length ≤ 1000)
  | .int i => decide (i.natAbs.log2 < 1920)
  | _ => false
theorem argD_ok {cl : Cl} {F : Hp} {d : D} {v : V} (h : argD d = true) (r : Rep cl F d v) : HLX.argOk v ∧ Rep cl (fun _ => none) d v := by
  cases d with
  | str x => exact ⟨by rw [RepIn.str r]; exact (of_decide_eq_true (p := x.length ≤ 1000) h), r.atom rfl⟩
  | int i => exact ⟨by rw [RepIn.int r]; exact (of_decide_eq_true (p := i.natAbs.log2 < 1920) h), r.atom rfl⟩
  | _ => cases h
/-- raise C(e) -/
def mRaise (nm fld : Str) (m : HEnv → R D) : HEnv → SO := sB m fun d env => if argD d = true then .er ⟨nm, fld, d⟩ env else .stuck
theorem ds_raise {cl : Cl} {W : WX} {a : Expr} {m : HEnv → R D} {p pos pos2 : Pos} {k : Nat} (hc : X.calm = true) (T : HLX.ErrTxt X.prog X.K X.mg nm fld C fI) (hcl : cl nm = some C) (fo : HLX.FldOk fld) (hr : Room (k + 1) X.A) (tk : Takes X W) (ha : PE X a (tF cl W m)) (hg : Gl X nm) (hd : (nm == ("__debug__" : Str)) = false := by decide)
    (hs : starEach [a] X.env = (false, eval a X.env) :: starEach [] X.env := by rfl) (hpl : (backTo pos (starEach [] X.env)).any (·.1) = false := by rfl) :
    PS X (.Raise (some (.Call (.Name nm p) [a] [] pos)) none pos2) (tS cl W (mRaise nm fld m)) := by
  refine ps_weak (ps_raise hc tk (pmk_err T fo hr (pa_cons ha pa_nil hs) hg hd hs hpl)) fun Dn σ H q => ?_
  refine stB (k := fun d env => if argD d = true then .er ⟨nm, fld, d⟩ env else .stuck) q fun d v F0 H0 F env Hs H1 s0 F1 kp s r p => ?_
  refine ⟨v, rfl, ?_⟩
  by_cases h : argD d = true
  · rw [if_pos h] at p
    obtain ⟨h1, h2⟩ := argD_ok h r
    refine ⟨h1, fun dx hdx => ?_⟩
    have hf := sub_none s.sub hdx
    exact p _ _ σ F1 _ (Ext.refl F1) (s.step (kp_new hdx) (sub_upd s.sub hf)) ⟨C, dx, v, rfl, hcl, rfl, upd_same, h2⟩
  · rw [if_neg h] at p
    exact p.elim
end
end HL

/-! try: .. except X as e: return ('X', e.f, isinstance(e, (..))) -/
namespace HL
open PySem PySem.Spec PyProof.Rows L2
theorem boot_isi : bootBuiltins "isinstance" = some (.builtin "isinstance") := by decide +kernel
/-- what an own error class must have, beside XfC, for isinstance -/
structure XkC (K : PySem.W.Frag) (C : Addr) : Prop where
  hcl : (PySem.W.clsIn K C).isSome = true
  ha : PySem.W.findIn K (.ref C) "__class__" = some (some (.builtin "object.__class__"))
  hn : PySem.W.specialIn K (.builtin "object.__class__") "__get__" = some (some (.builtin "getset_descriptor.__get__"))
  htk : PySem.W.takesIn K (.builtin "object.__class__") = some true
  hm : PySem.W.mroIn K C (.type "object") = some true
def rIsE (K : PySem.W.Frag) (a : Addr) (cls : Value) (d : Option Addr) : List V → Hp → VK → Prop := fun xs H Q => ∃ (tp : Addr) (cs : List V) (us : List Value) (b : Bool) (dd : Addr) (fs : List (Str × V)) (C : Addr),
  xs = [.ref a, .ref tp] ∧ H tp = some (.tup cs) ∧ Paired ClsV cs us ∧ cls = .ref C ∧ d = some dd ∧ H dd = some (.xd fs) ∧ PySem.W.kitAny K (.ref C) us = some b ∧ L2.XfC K C ∧ XkC K C ∧ Q (.bl b) H
section
variable {X : Cx} {a : Addr} {oe : Obj} {cls : Value} {d : Option Addr} {pn : List (Addr × Obj)}
theorem call_isE (hz : Zc cls d oe) (hf : ∃ vs, oe.data = .fields vs) : CallR (X.suite a ((a, oe) :: pn)) (.builtin "isinstance") (rIsE X.K a cls d) := by
  intro pins s σ H xs us Q I r h
  obtain ⟨tp, cs, ws, b, dd, fs, C, rfl, hT, k, ec, ed, hd, hk, T, T2, q⟩ := h
  subst ec
  subst ed
  obtain ⟨u1, u2, rfl, r1, r2⟩ := vals2 r
  cases (show u1 = Value.ref a from r1)
  cases (show u2 = Value.ref tp from r2)
  obtain ⟨ha, _⟩ := I.pin (a, oe) (List.mem_append_left _ List.mem_cons_self)
  obtain ⟨vs, hdat⟩ := hf
  have hx : ObjOk X.prog X.w H s.heap dd (.xd fs) := I.hok dd _ hd
  obtain ⟨mA, hns, hr⟩ := hx
  obtain ⟨od, ho, hl⟩ := lookIn_ns hns
  have J : PySem.W.InstAt s.heap a oe C (some od) := ⟨ha, hz.1, by unfold PySem.W.notCls; rw [hdat] <;> rfl, by rw [hz.2]; exact ho⟩
  obtain ⟨_, its, rv, o, h1, h2, n, h3⟩ := (show ObjOk X.prog X.w H s.heap tp (.tup cs) from I.hok tp _ hT)
  have e3 := ClsV.all k rv
  subst e3
  obtain ⟨oc, ood, dt, sl⟩ := o
  simp only at h2 h3
  subst h2 h3
  exact PySem.W.kia_tup (PySem.W.kitx_exc T2.hcl T.ga T.gg T.exC T2.ha T2.hn T2.htk T2.hm) I.kIn J h1 hk (fun z => nomatch z) fun tk => ⟨.bl b, H, I.tok tk, rfl, q⟩
/-- names of classes, as arguments -/
inductive Clss (X : Cx) : List Expr → List Addr → Prop where
  | nil : Clss X [] []
  | cons {x : Str} {p : Pos} {es : List Expr} {C : Addr} {Cs : List Addr} (hg : Gl X x) (hm : X.mg x = some (.ref C)) (hd : (x == ("__debug__" : Str)) = false) (hs : starEach (.Name x p :: es) X.env = (false, eval (.Name x p) X.env) :: starEach es X.env) (r : Clss X es Cs) : Clss X (.Name x p :: es) (C :: Cs)
theorem Clss.pa {es : List Expr} {Cs : List Addr} (h : Clss X es Cs) : PA X es (fun _ H Q => Q (Cs.map V.ref) H) := by
  induction h with
  | nil => exact pa_weak pa_nil fun _ _ _ q => q
  | cons hg hm hd hs r ih => exact pa_weak (pa_cons (pe_glob (v := .ref _) hg hm rfl hd) ih hs) fun _ _ _ q => q
theorem Clss.paired : ∀ (Cs : List Addr), Paired ClsV (Cs.map V.ref) (Cs.map Value.ref)
  | [] => .nil
  | C :: r => .cons (.own C) (Clss.paired r)
end

/-! ### the clauses -/
def errNames : List Str := ["HeadlessError", "Unread", "BadHead", "BadRow", "NoTable", "TooMany", "Refused"]
/-- the facts about the error classes -/
structure ExF (cl : Cl) (K : PySem.W.Frag) : Prop where
  exm : ∀ c ∈ errNames, ∀ c' ∈ errNames, ∀ C C', cl c = some C → cl c' = some C' → c ≠ "HeadlessError" → c' ≠ "HeadlessError" → PySem.W.exmOne K (.ref C) (.ref C') = some (c == c')
  xf : ∀ c ∈ errNames, ∀ C, cl c = some C → L2.XfC K C ∧ XkC K C
/-- a clause: its class, the field, the tag -/
abbrev Cla := Str × Str × Str
def hOut : List Cla → Er → HEnv → SO
  | [], x, e => .er x e
  | (c, fld, tag) :: r, x, e => if errNames.contains x.cls = true ∧ x.cls ≠ "HeadlessError" then (if (x.cls == c) = true then (if x.fld = fld then .rt false (.tup [.str tag, x.arg, .bl false]) else .stuck) else hOut r x e) else .stuck
def mTry (i : Nat) (b : HEnv → SO) (hds : List Cla) : HEnv → SO := fun env => match b env with
  | .er x e => if i < e.length then hOut hds x e else .stuck
  | .nx e => .nx e
  | .rt o d => .rt o d
  | .bk e => .bk e
  | .ct e => .ct e
  | .stuck => .stuck
/-- the suite's reading -/
def tTell (cl : Cl) (K : PySem.W.Frag) (i : Nat) (C : Addr) (fld tag : Str) (Cs : List Addr) : Addr → Value → Option Addr → TS := fun a cls d Dn σ H => ∃ (F0 : Bs) (H0 F : Hp) (dd : Addr) (v : V) (arg : D), σ[i]? = some (some (.ref a)) ∧ Kp F0.1 H0 F H ∧ Sub F H ∧ cls = .ref C ∧ d = some dd ∧ H dd = some (.xd [(fld, v)]) ∧ Rep cl F arg v ∧ PySem.W.kitAny K (.ref C) (Cs.map Value.ref) = some false ∧
  PostS cl WNo Dn F0 H0 F (.rt false (.tup [.str tag, arg, .bl false]))
section
variable {X : Cx} {a : Addr} {oe : Obj} {cls : Value} {d : Option Addr} {pn : List (Addr × Obj)} {cl : Cl}
theorem suite_tell {i : Nat} {C : Addr} {fld tag : Str} {Cs : List Addr} {en1 en2 : Expr} {es : List Expr} {j : Nat} {ps p1 p2 p3 p4 p5 p6 : Pos} {x1 x2 : _} (T : L2.XfC X.K C) (T2 : XkC X.K C) (hno : PySem.W.findIn X.K (.ref C) fld = some none) (hz : Zc cls d oe) (hf : ∃ vs, oe.data = .fields vs)
    (h1 : PE (X.suite a ((a, oe) :: pn)) en1 (tVar i)) (h2 : PE (X.suite a ((a, oe) :: pn)) en2 (tVar i)) (hc : Clss (X.suite a ((a, oe) :: pn)) es Cs) (hg : Gl X "isinstance") (hm : X.mg "isinstance" = none) (few : decide (Cs.length ≤ 60) = true)
    (hb : attributeBase en1 fld X.env (eval en1 X.env) = eval en1 X.env := by rfl)
    (hs1 : starEach [.Constant (.str tag) j p1, .Attribute en1 fld p2, .Call (.Name "isinstance" p3) [en2, .Tuple es x1 p4] [] p5] X.env = (false, eval (.Constant (.str tag) j p1) X.env) :: starEach [.Attribute en1 fld p2, .Call (.Name "isinstance" p3) [en2, .Tuple es x1 p4] [] p5] X.env := by rfl)
    (hs2 : starEach [.Attribute en1 fld p2, .Call (.Name "isinstance" p3) [en2, .Tuple es x1 p4] [] p5] X.env = (false, eval (.Attribute en1 fld p2) X.env) :: starEach [.Call (.Name "isinstance" p3) [en2, .Tuple es x1 p4] [] p5] X.env := by rfl)
    (hs3 : starEach [.Call (.Name "isinstance" p3) [en2, .Tuple es x1 p4] [] p5] X.env = (false, eval (.Call (.Name "isinstance" p3) [en2, .Tuple es x1 p4] [] p5) X.env) :: starEach [] X.env := by rfl)
    (hs4 : starEach [en2, .Tuple es x1 p4] X.env = (false, eval en2 X.env) :: starEach [.Tuple es x1 p4] X.env := by rfl) (hs5 : starEach [.Tuple es x1 p4] X.env = (false, eval (.Tuple es x1 p4) X.env) :: starEach [] X.env := by rfl)
    (hpl : (backTo p5 (starEach [.Tuple es x1 p4] X.env)).any (·.1) = false := by rfl) :
    PSs (X.suite a ((a, oe) :: pn)) [.Return (some (.Tuple [.Constant (.str tag) j p1, .Attribute en1 fld p2, .Call (.Name "isinstance" p3) [en2, .Tuple es x1 p4] [] p5] x2 p6)) ps] (tTell cl X.K i C fld tag Cs a cls d) := by
  refine pss_weak (pss_one (ps_ret (pe_tup (pa_cons pe_str (pa_cons (pe_xf T hno hz hf h1 hb) (pa_cons (pe_callB (call_isE hz hf) hg hm boot_isi (pa_cons h2 (pa_cons (pe_tup hc.pa) pa_nil hs5) hs4) (by decide) (by decide) hs4 hpl) pa_nil hs3) hs2) hs1)))) fun Dn σ H q => ?_
  obtain ⟨F0, H0, F, dd, v, arg, hi, k, s, rfl, rfl, hd, r, hk, p⟩ := q
  refine ⟨.ref a, hi, rfl, rfl, dd, _, v, rfl, hd, by simp [List.lookup], ?_⟩
  refine ⟨.ref a, hi, ?_⟩
  have zl : (Cs.map V.ref).length ≤ sizeLine := by rw [List.length_map]; exact few_line few
  refine ⟨zl, fun tp htp => ?_⟩
  have ft := sub_none s htp
  have s1 : Sub F (upd H tp (.tup (Cs.map V.ref))) := sub_upd s ft
  have k1 : Kp F0.1 H0 F (upd H tp (.tup (Cs.map V.ref))) := k.trans (kp_new htp)
  have hdt : dd ≠ tp := ne_of_none hd htp
  refine ⟨tp, _, _, false, dd, _, C, rfl, upd_same, Clss.paired Cs, rfl, rfl, by rw [upd_ne hdt]; exact hd, hk, T, T2, ?_⟩
  refine ⟨by show 3 ≤ sizeLine; rw [sizeLine_eq]; omega, fun p' hp' => ?_⟩
  obtain ⟨F2, x2, k2, s2, r2, _⟩ := freezeO (u := .tup [.str tag, v, .bl false]) (cl := cl) (d := .tup [.str tag, arg, .bl false]) (k1.trans (kp_new hp')) (sub_upd s1 (sub_none s1 hp')) (k1.same.free hp') (sub_none s1 hp') upd_same
    ⟨_, rfl, by simp only [RepL, Rep]; exact ⟨_, _, rfl, rfl, _, _, rfl, r, _, _, rfl, rfl, rfl⟩, by show 3 ≤ sizeLine; rw [sizeLine_eq]; omega⟩
  exact p _ F2 _ k2 s2 (by unfold RetR; rw [if_neg (by decide)]; exact r2)
end
/-- the clauses' data against the text's -/
inductive ClaOk (cl : Cl) (X : Cx) (n : Str) (i : Nat) : List ExceptHandler → List Cla → List Clause → Prop
  | nil : ClaOk cl X n i [] [] []
  | cons {x fld tag : Str} {C : Addr} {Cs : List Addr} {st : Stmt} {sts : List Stmt} {np ps : Pos} {hds : List ExceptHandler} {l : List Cla} {q : List Clause} (hx : x ∈ errNames) (hne : x ≠ "HeadlessError") (hcl : cl x = some C) (hc : Names X x (.ref C)) (hk : PySem.W.kitAny X.K (.ref C) (Cs.map Value.ref) = some false)
      (hsu : ∀ (a : Addr) (oe : Obj) (cls : Value) (d : Option Addr) (pn : List (Addr × Obj)), Zc cls d oe → (∃ vs, oe.data = .fields vs) → PSs (X.suite a ((a, oe) :: pn)) (st :: sts) (tTell cl X.K i C fld tag Cs a cls d)) (r : ClaOk cl X n i hds l q) :
      ClaOk cl X n i (.ExceptHandler (some (.Name x np)) (some n) (st :: sts) ps :: hds) ((x, fld, tag) :: l) ((.ref C, tTell cl X.K i C fld tag Cs) :: q)
section
variable {X : Cx} {cl : Cl} {n : Str} {i : Nat} {W : WX} {pos : Pos}
theorem ClaOk.ok {hds : List ExceptHandler} {l : List Cla} {q : List Clause} (h : ClaOk cl X n i hds l q) : ClausesOk X n hds q := by
  induction h with
  | nil => exact .nil
  | cons hx hne hcl hc hk hsu r ih => exact .cons hc hsu ih
theorem ClaOk.all (T : ExF cl X.K) {hds : List ExceptHandler} {l : List Cla} {q : List Clause} (h : ClaOk cl X n i hds l q) {Dn : Ends} {F0 : Bs} {H0 F : Hp} {e : HEnv} {σ : L2.St} {H : Hp} {x : Er} {cls : Value} {dd : Option Addr} (hi : i < σ.length) (s : HSt cl F0 H0 F e σ H) (r : ERep cl H x cls dd)
    (p : PostS cl W Dn F0 H0 F (hOut l x e)) : wAll X.K i W Dn q cls dd σ H := by
  induction h with
  | nil => exact p cls dd σ F H (Ext.refl F) s r
  | cons hx hne hcl hc hk hsu rr ih =>
    rename_i c fld tag C Cs st sts np ps hds l q
    unfold hOut at p
    split at p
    case isFalse => exact p.elim
    rename_i h1
    obtain ⟨C', dx, v, e1, e2, e3, e4, e5⟩ := id r
    subst e1
    refine ⟨(x.cls == c), T.exm _ (by simpa using h1.1) _ hx _ _ e2 hcl h1.2 hne, ?_⟩
    by_cases hb : (x.cls == c) = true
    · rw [if_pos hb] at p ⊢
      split at p
      case isFalse => exact p.elim
      rename_i hfld
      have ec : x.cls = c := eq_of_beq hb
      have eC : C' = C := by rw [ec, hcl] at e2; exact (Option.some.inj e2).symm
      subst eC
      intro a ha
      refine ⟨F0, H0, F, dx, v, x.arg, ?_, s.kp, s.sub, rfl, e3, by rw [← hfld]; exact e4, e5.ext (fun p u z => by cases z), hk, p⟩
      rw [List.getElem?_set_self hi]
    · rw [if_neg hb] at p ⊢
      exact ih p
theorem ds_try {body : List Stmt} {h₀ : ExceptHandler} {hds : List ExceptHandler} {l : List Cla} {q : List Clause} {b : HEnv → SO} (T : ExF cl X.K) (hs : X.stack = X.env :: X.outer) (hf : X.env.frame = some X.env.locals) (hN : X.N.Nodup) (hi : X.N[i]? = some n) (hln : X.env.kindOf n = some .local) (tk : Takes X W)
    (hb : ∀ (W : WX) (pn : List (Addr × Obj)) (xe : Value → Shared → Prop), Takes (X.tr pn xe) W → PassesOwn (model X.prog X.w) X.A X.env xe → PSs (X.tr pn xe) body (tS cl W b)) (hh : ClaOk cl X n i (h₀ :: hds) l q) :
    PS X (.Try body (h₀ :: hds) [] [] pos) (tS cl W (mTry i b l)) := by
  have base := ps_try_all (pos := pos) (tb := fun W => tS cl W b) hs hf hN hi hln tk hb hh.ok
  refine ⟨fun pins s σ H Dn I q => base.run pins s σ H Dn I ?_⟩
  obtain ⟨F0, H0, F, env, st, q⟩ := q
  refine ⟨F0, H0, F, env, st, ?_⟩
  unfold mTry at q
  cases eb : b env with
  | er x e =>
    rw [eb] at q
    simp only at q
    split at q
    case isFalse => exact q.elim
    rename_i hl
    intro cls dd σ' F' H' k s' r
    exact hh.all T (by rw [s'.len]; exact hl) s' r (q.ext k)
  | nx e => rw [eb] at q; exact q
  | rt o d => rw [eb] at q; exact q
  | bk e => rw [eb] at q; exact q
  | ct e => rw [eb] at q; exact q
  | stuck => rw [eb] at q; exact q.elim
end
end HL

namespace HL
open PySem PySem.Spec PyProof.Rows L2
section
variable {X : Cx} {cl : Cl} {W : WX} {pos : Pos} {tg e : Expr}
/-! ### reversed -/
theorem rev_at {α : Type} {xs : List α} {i : Nat} {x : α} (h : xs.reverse[i]? = some x) : i < xs.length ∧ xs[xs.length - 1 - i]? = some x := by
  have hi : i < xs.length := by
    have := (List.getElem?_eq_some_iff.mp h).1
    simpa using this
  refine ⟨hi, ?_⟩
  rw [List.getElem?_reverse hi] at h
  exact h
theorem itd_revL {K : PySem.W.Frag} {F : Hp} {p : Addr} {ds : List D} {vs : List V} (hp : F p = some (.lst vs)) (r : RepL cl F ds vs) (z : ds.length ≤ sizeLine) : ItD cl (Itv K p vs.length) ds.reverse F where
  few := by rw [List.length_reverse]; exact z
  stop := fun F1 H1 x s => by
    show vs.length ≤ ds.reverse.length
    rw [List.length_reverse, r.len]
    exact Nat.le_refl _
  go := fun i d F1 H1 e x s => by
    obtain ⟨h1, h2⟩ := rev_at e
    obtain ⟨v, a, _⟩ := r.at h2
    rw [← r.len] at h1 a
    exact ⟨h1, vs, v, .inl (s.rd (x p _ hp)), a⟩
  yld := fun i d F1 H1 x H2 e k s y => by
    obtain ⟨h1, h2⟩ := rev_at e
    obtain ⟨v, a, b⟩ := r.at h2
    rw [← r.len] at a
    obtain ⟨rfl, q⟩ := y
    have := q vs (.inl (s.rd (k p _ hp)))
    rw [a] at this
    cases this
    exact ⟨F1, Kp.refl _ _, s, b.ext k⟩
theorem itd_revT {K : PySem.W.Frag} {F : Hp} {p : Addr} {ds : List D} {vs : List V} (hp : F p = some (.tup vs)) (r : RepL cl F ds vs) (z : ds.length ≤ sizeLine) : ItD cl (RT.ItvT K p vs.length) ds.reverse F where
  few := by rw [List.length_reverse]; exact z
  stop := fun F1 H1 x s => by
    show vs.length ≤ ds.reverse.length
    rw [List.length_reverse, r.len]
    exact Nat.le_refl _
  go := fun i d F1 H1 e x s => by
    obtain ⟨h1, h2⟩ := rev_at e
    obtain ⟨v, a, _⟩ := r.at h2
    rw [← r.len] at h1 a
    exact ⟨h1, vs, v, .inl (s.rd (x p _ hp)), a⟩
  yld := fun i d F1 H1 x H2 e k s y => by
    obtain ⟨h1, h2⟩ := rev_at e
    obtain ⟨v, a, b⟩ := r.at h2
    rw [← r.len] at a
    obtain ⟨rfl, q⟩ := y
    have := q vs (.inl (s.rd (k p _ hp)))
    rw [a] at this
    cases this
    exact ⟨F1, Kp.refl _ _, s, b.ext k⟩
def revItems : D → R (List D)
  | .lst ds => .ok ds.reverse
  | .tup ds => .ok ds.reverse
  | _ => .stuck
/-- for x in reversed(list or tuple) -/
theorem di_rev {m : HEnv → R D} {p : Pos} (hg : Gl X "reversed") (hm : X.mg "reversed" = none) (h : PE X e (tF cl W m)) (hs : starEach [e] X.env = (false, eval e X.env) :: starEach [] X.env := by rfl) : PI X tg (.Call (.Name "reversed" p) [e] [] pos) (tI cl W (m1 revItems m)) := by
  refine pi_weak (RT.pi_revA hg hm h hs) fun σ H Q q => ?_
  refine read1 (rel := relF cl) (r := fun v H1 R => ∃ (a : Addr) (xs : List V), v = .ref a ∧ ((SqL X.K H1 a xs ∧ R (Itv X.K a xs.length) H1) ∨ (SqT X.K H1 a xs ∧ R (RT.ItvT X.K a xs.length) H1))) (rel' := relI cl) (fun _ _ _ _ _ _ _ z => z) (fun Hs F H d v Q σ s r p => ?_) q
  cases d with
  | lst ds =>
    obtain ⟨a, vs, rfl, ha, rl, z⟩ := RepIn.lst r
    exact ⟨a, vs, rfl, .inl ⟨.inl (s.rd ha), PostG.done p s (itd_revL ha rl z)⟩⟩
  | tup ds =>
    obtain ⟨a, vs, rfl, ha, rl, z⟩ := RepIn.tup r
    exact ⟨a, vs, rfl, .inr ⟨.inl (s.rd ha), PostG.done p s (itd_revT ha rl z)⟩⟩
  | _ => exact p.elim

/-! ### isinstance of data -/
def tyD : D → Option String
  | .non => some "NoneType"
  | .bl _ => some "bool"
  | .int _ => some "int"
  | .str _ => some "str"
  | .tup _ => some "tuple"
  | .lst _ => some "list"
  | .dic _ _ => none
  | .ins _ _ => none
def isiD (T : String) (d : D) : R D := match tyD d with
  | some t => match kitB t T with
    | some b => .ok (.bl b)
    | none => .stuck
  | none => .stuck
theorem tyx_of {K : PySem.W.Frag} {F H : Hp} {d : D} {v : V} {t : String} (s : Sub F H) (r : BRep cl F H d v) (h : tyD d = some t) : TyX K H v (.type t) := by
  cases d with
  | non => cases h; rw [BRep.non r]; exact .base .non
  | bl b => cases h; rw [BRep.bl r]; exact .base (.bl _)
  | int b => cases h; rw [BRep.int r]; exact .base (.int _)
  | str b => cases h; rw [BRep.str r]; exact .base (.str _)
  | tup xs =>
    cases h
    obtain ⟨a, vs, rfl, h1, _⟩ := BRep.tup' r s
    rcases h1 with h1 | ⟨o, h1⟩
    · exact .base (.tup h1)
    · exact .fTuple h1
  | lst xs =>
    cases h
    obtain ⟨a, vs, rfl, h1, _⟩ := BRep.lst' r s
    rcases h1 with h1 | ⟨o, h1⟩
    · exact .base (.lst h1)
    · exact .base (.frz h1)
  | _ => cases h
theorem boot_isi' : bootBuiltins "isinstance" = some (.builtin "isinstance") := by decide +kernel
/-- isinstance(x, T), T a built-in type -/
theorem d_isi {T : String} {tn : Str} {m : HEnv → R D} {p p2 : Pos} (hg : Gl X "isinstance") (hm : X.mg "isinstance" = none) (hg2 : Gl X tn) (hm2 : X.mg tn = none) (hb : bootBuiltins tn = some (.type T)) (he : PE X e (tB cl W m))
    (hs1 : starEach [e, .Name tn p2] X.env = (false, eval e X.env) :: starEach [.Name tn p2] X.env := by rfl) (hs2 : starEach [.Name tn p2] X.env = (false, eval (.Name tn p2) X.env) :: starEach [] X.env := by rfl) (hpl : (backTo pos (starEach [.Name tn p2] X.env)).any (·.1) = false := by rfl)
    (hn : tn ≠ "__name__" := by decide) (hd : (tn == ("__debug__" : Str)) = false := by decide) :
    PE X (.Call (.Name "isinstance" p) [e, .Name tn p2] [] pos) (tF cl W (m1 (isiD T) m)) := by
  refine pe_weak (pe_callB call_isi hg hm boot_isi' (pa_cons he (pa_cons (pe_bltn (v := .ty T) hg2 hm2 hb rfl hn hd) pa_nil hs2) hs1) (by decide) (by decide) hs1 hpl) fun σ H Q q => ?_
  refine read1 (rel := relB cl) (r := fun x H1 Q => rIsi X.K [x, .ty T] H1 Q) oldF (fun Hs F H d v Q σ s r p => ?_) q
  unfold isiD at p
  split at p
  · rename_i t ht
    split at p
    · rename_i b hb'
      exact ⟨v, .ty T, _, _, b, rfl, .ty T, tyx_of s r ht, kit_ty hb', PostG.done p s (by simp only [relF, Rep])⟩
    · exact p.elim
  · exact p.elim

/-! ### list.clear, list.pop as statements; ghost freezing -/
def clearD : D → R D
  | .lst _ => .ok (.lst [])
  | _ => .stuck
theorem ds_clear {o : Expr} {apos cpos : Pos} {i : Nat} (ho : PE X o (tVar i)) (h1 : attributeBase o "clear" X.env (eval o X.env) = eval o X.env := by rfl) (h3 : (apos.endLine == cpos.line) = true := by rfl)
    (hs : swapsWith (.Call (.Attribute o "clear" apos) [] [] cpos) none pos.line X.env = pure false := by rfl) : PS X (.Expr (.Call (.Attribute o "clear" apos) [] [] cpos) pos) (tS cl W (mOwn0 i clearD)) := by
  refine ds_own0 (T := "list") PySem.F.plainAttrs_list PySem.F.slot_list_clear PySem.F.type_list_clear mt_clear (fun F H p c c' u Q s hu ob ef q => ?_) (fun c c' ef => ?_) ho h1 h3 hs
  · cases c with
    | lst ds =>
      cases ef
      obtain ⟨vs, rfl, rl, z⟩ := ob
      exact ⟨p, vs, rfl, rfl, hu, q _ ⟨[], rfl, by simp only [RepL], Nat.zero_le _⟩ rfl⟩
    | _ => cases ef
  · cases c with
    | lst ds => rfl
    | _ => cases ef
/-- from here on the slot's thing stays -/
def mFrzS (i : Nat) (a : HEnv → SO) : HEnv → SO := fun env => match env[i]? with
  | some (.own d) => a (env.set i (.val d))
  | some (.val _) => a env
  | _ => .stuck
theorem read_frzS {a : HEnv → SO} {i : Nat} {Dn : Ends} {σ : L2.St} {H : Hp} (q : tS cl W (mFrzS i a) Dn σ H) : tS cl W a Dn σ H := by
  obtain ⟨F0, H0, F, env, s, q⟩ := q
  unfold mFrzS at q
  split at q
  · rename_i d e
    refine read_frz (i := i) ⟨F0, H0, F, env, s, ?_⟩
    unfold mFrz
    rw [e]
    exact q
  · exact ⟨F0, H0, F, env, s, q⟩
  · exact q.elim
theorem ds_frzS {a : HEnv → SO} {i : Nat} {st : Stmt} (h : PS X st (tS cl W a)) : PS X st (tS cl W (mFrzS i a)) := ps_weak h fun _ _ _ q => read_frzS q
end
/-! ### for x in a list of one's own: it is lent -/
def forB (i : Nat) (g : D → HEnv → R HEnv) (body : HEnv → SO) : Nat → Nat → HEnv → SO
  | 0, _, _ => .stuck
  | n + 1, j, env => match env[i]? with
    | some (.lent (.lst ds)) => match ds[j]? with
      | none => .nx env
      | some d => match g d env with
        | .ok e1 => match body e1 with
          | .nx e2 => forB i g body n (j + 1) e2
          | .ct e2 => forB i g body n (j + 1) e2
          | .bk e2 => .nx e2
          | .rt o r => .rt o r
          | .er x e2 => .er x e2
          | .stuck => .stuck
        | _ => .stuck
    | _ => .stuck
def giveBack (i : Nat) : SO → SO
  | .nx e => match e[i]? with
    | some (.lent d) => .nx (e.set i (.own d))
    | _ => .stuck
  | .er x e => match e[i]? with
    | some (.lent d) => .er x (e.set i (.own d))
    | _ => .stuck
  | .rt o d => .rt o d
  | _ => .stuck
def mForB (i : Nat) (g : D → HEnv → R HEnv) (body : HEnv → SO) : HEnv → SO := fun env => match env[i]? with
  | some (.own (.lst ds)) => giveBack i (forB i g body (ds.length + 1) 0 (env.set i (.lent (.lst ds))))
  | some (.val _) => mFor (m1 itemsD (mVar i)) g body env
  | _ => .stuck
def lendBs (F0 : Bs) (i : Nat) (p : Addr) : Bs := (F0.1, fun j => if j = i then some p else F0.2 j)
section
variable {cl : Cl}
theorem HSt.lend {F0 : Bs} {H0 F H : Hp} {env : HEnv} {σ : L2.St} (s : HSt cl F0 H0 F env σ H) {i : Nat} {d : D} {p : Addr} (he : env[i]? = some (.own d)) (hp : σ[i]? = some (some (.ref p))) : HSt cl (lendBs F0 i p) H0 F (env.set i (.lent d)) σ H := by
  have hl : i < env.length := (List.getElem?_eq_some_iff.mp he).1
  have back : ∀ (j : Nat) (e : D), (env.set i (.lent d))[j]?.bind oL = some e → env[j]?.bind oL = some e := fun j e h => by
    by_cases hj : i = j
    · subst hj
      rw [List.getElem?_set_self hl] at h
      rw [he]
      exact h
    · rwa [List.getElem?_set_ne hj] at h
  refine ⟨by simp [s.len], s.sub, s.kp, fun j e h => ?_, fun j e h => s.own j e (back j e h), fun j e h => ?_, fun j e h => ?_, fun j k e g q h1 h2 => s.dis j k e g q (back j e h1) (back k g h2)⟩
  · by_cases hj : i = j
    · subst hj
      rw [List.getElem?_set_self hl] at h
      cases h
    · rw [List.getElem?_set_ne hj] at h
      exact s.val j e h
  · by_cases hj : i = j
    · subst hj
      exact ⟨p, if_pos rfl, hp⟩
    · rw [List.getElem?_set_ne hj] at h
      obtain ⟨q, a, b⟩ := s.lnt j e h
      exact ⟨q, (if_neg (Ne.symm hj)).trans a, b⟩
  · by_cases hj : i = j
    · subst hj
      rw [List.getElem?_set_self hl] at h
      cases h
    · rw [List.getElem?_set_ne hj] at h
      exact s.bor j e h
theorem HSt.give {F0 : Bs} {H0 F H : Hp} {env : HEnv} {σ : L2.St} {i : Nat} {d : D} {p : Addr} (s : HSt cl (lendBs F0 i p) H0 F env σ H) (he : env[i]? = some (.lent d)) : HSt cl F0 H0 F (env.set i (.own d)) σ H := by
  have hl : i < env.length := (List.getElem?_eq_some_iff.mp he).1
  have back : ∀ (j : Nat) (e : D), (env.set i (.own d))[j]?.bind oL = some e → env[j]?.bind oL = some e := fun j e h => by
    by_cases hj : i = j
    · subst hj
      rw [List.getElem?_set_self hl] at h
      rw [he]
      exact h
    · rwa [List.getElem?_set_ne hj] at h
  refine ⟨by simp [s.len], s.sub, s.kp, fun j e h => ?_, fun j e h => s.own j e (back j e h), fun j e h => ?_, fun j e h => ?_, fun j k e g q h1 h2 => s.dis j k e g q (back j e h1) (back k g h2)⟩
  · by_cases hj : i = j
    · subst hj
      rw [List.getElem?_set_self hl] at h
      cases h
    · rw [List.getElem?_set_ne hj] at h
      exact s.val j e h
  · by_cases hj : i = j
    · subst hj
      rw [List.getElem?_set_self hl] at h
      cases h
    · rw [List.getElem?_set_ne hj] at h
      obtain ⟨q, a, b⟩ := s.lnt j e h
      exact ⟨q, (if_neg (Ne.symm hj)).symm.trans a, b⟩
  · by_cases hj : i = j
    · subst hj
      rw [List.getElem?_set_self hl] at h
      cases h
    · rw [List.getElem?_set_ne hj] at h
      exact s.bor j e h
variable {X : Cx} {W : WX} {pos : Pos}
theorem ds_forB {tg iter : Expr} {body : List Stmt} {i : Nat} {is : List Nat} {g : D → HEnv → R HEnv} {b : HEnv → SO} (hp : PassesOwn (model X.prog X.w) X.A X.env X.xe) (hc : X.calm = true)
    (hi : PE X iter (tVar i)) (hg : PG X tg (tTg cl is g)) (hb : PSs X body (tS cl W b)) (hs : ∀ x, foldedSetIterable iter X.env x = pure x := by intro _; rfl) : PS X (.For tg iter body [] pos) (tS cl W (mForB i g b)) := by
  refine ⟨fun pins s σ H Dn I q => ?_⟩
  obtain ⟨F0, H0, F, env, st, q⟩ := q
  unfold mForB at q
  split at q
  case h_2 d ei => exact (ds_for hp hc (di_any (d_var hi)) hg hb hs).run pins s σ H Dn I ⟨F0, H0, F, env, st, q⟩
  case h_3 => exact q.elim
  rename_i ds ei
  refine (ps_for hp hc (pi_list hi) hg hb hs).run pins s σ H Dn I ?_
  obtain ⟨p, hsi, hf, h0, u, hu, ⟨vs, rfl, rl, z⟩, mu⟩ := st.own i _ (oL_own ei)
  have sl := st.lend ei hsi
  refine ⟨.ref p, hsi, p, rfl, ⟨vs, .inl (.inl hu)⟩, ?_⟩
  refine ⟨fun j m σ H => ∃ F2 env2, Ext F F2 ∧ HSt cl (lendBs F0 i p) H0 F2 env2 σ H ∧ PostS cl W Dn F0 H0 F2 (giveBack i (forB i g b m j env2)), ⟨_, F, _, Ext.refl F, sl, q⟩, fun j m σ2 H2 ⟨F2, env2, x2, s2, p2⟩ => ?_⟩
  cases m with
  | zero => exact p2.elim
  | succ k =>
    simp only [forB] at p2
    cases e2 : env2[i]? with
    | none => simp only [e2] at p2; exact p2.elim
    | some sl2 =>
      cases sl2 with
      | no => simp only [e2] at p2; exact p2.elim
      | val d => simp only [e2] at p2; exact p2.elim
      | own d => simp only [e2] at p2; exact p2.elim
      | bor d => simp only [e2] at p2; exact p2.elim
      | lent d2 =>
        cases d2 with
        | lst ds2 =>
          simp only [e2] at p2
          obtain ⟨p', a1, a2⟩ := s2.lnt i _ e2
          have ep : p' = p := by
            have : (lendBs F0 i p).2 i = some p := if_pos rfl
            rw [this] at a1
            exact (Option.some.inj a1).symm
          subst ep
          obtain ⟨p3, b1, b2, b3, u3, b4, ⟨vs2, rfl, rl2, z2⟩, _⟩ := s2.own i _ (oL_lent e2)
          rw [a2] at b1
          cases b1
          cases ed : ds2[j]? with
          | none =>
            simp only [ed] at p2
            refine .inl ⟨⟨vs2, .inl (.inl b4), ?_⟩, ?_⟩
            · rw [rl2.len]
              exact List.getElem?_eq_none_iff.mp ed
            · simp only [giveBack, e2] at p2
              exact p2 σ2 F2 H2 (Ext.refl F2) (s2.give e2)
          | some d =>
            simp only [ed] at p2
            obtain ⟨v, hv, rv⟩ := rl2.at ed
            refine .inr ⟨⟨vs2, v, .inl (.inl b4), hv⟩, fun σ' H' => ∃ F3 env3, Ext F F3 ∧ HSt cl (lendBs F0 i p') H0 F3 env3 σ' H' ∧ PostS cl W Dn F0 H0 F3 (giveBack i (forB i g b k (j + 1) env3)),
              fun σ' H' h => ⟨k, Nat.lt_succ_self k, h⟩, fun x H' y => ?_⟩
            obtain ⟨rfl, y⟩ := y
            have ex := y vs2 (.inl (.inl b4))
            rw [hv] at ex
            cases ex
            refine ⟨_, H0, F2, env2, d, s2, rv, ?_⟩
            cases eg : g d env2 with
            | er x => simp only [eg] at p2; exact p2.elim
            | stuck => simp only [eg] at p2; exact p2.elim
            | ok e1 =>
              simp only [eg] at p2 ⊢
              intro σ4 s4 l4 n4
              refine ⟨_, H0, F2, e1, s4, ?_⟩
              cases eb : b e1 with
              | nx e5 =>
                simp only [eb] at p2
                exact fun σ5 F5 H5 x5 s5 => ⟨F5, e5, x2.trans x5, s5, p2.ext x5⟩
              | ct e5 =>
                simp only [eb] at p2
                exact fun σ5 F5 H5 x5 s5 => ⟨F5, e5, x2.trans x5, s5, p2.ext x5⟩
              | bk e5 =>
                simp only [eb] at p2
                intro σ5 F5 H5 x5 s5
                simp only [giveBack] at p2
                split at p2
                · rename_i dd hh
                  exact p2 σ5 F5 H5 x5 (s5.give hh)
                · exact p2.elim
              | rt o r =>
                simp only [eb] at p2
                exact p2
              | er x e5 =>
                simp only [eb] at p2
                intro cls dd σ5 F5 H5 x5 s5 r5
                simp only [giveBack] at p2
                split at p2
                · rename_i d6 hh
                  exact p2 cls dd σ5 F5 H5 x5 (s5.give hh) r5
                · exact p2.elim
              | stuck =>
                simp only [eb] at p2
                exact p2.elim
        | _ => simp only [e2] at p2; exact p2.elim
end
end HL

/-! What a law's text asks of the written part: constants, error classes. -/
namespace HL
open PySem PySem.Spec PyProof.Rows L2
theorem hu64 {k : Nat} {A : Around} (hr : Room k A) : A.units + 64 < cLine := by have := hr.un; omega
theorem hu65 {k : Nat} {A : Around} (hr : Room k A) : A.units + 65 < cLine := by have := hr.un; omega
/-- a module's constant -/
def Cst (mg : Str → Option Value) (x : Str) (d : D) : Prop := ∃ (u : Value) (v : V), vD d = some v ∧ mg x = some u ∧ RelV v u
theorem d_cst {X : Cx} {cl : Cl} {W : WX} {x : Str} {d : D} {pos : Pos} (hg : Gl X x) (h : Cst X.mg x d) (hd : (x == ("__debug__" : Str)) = false := by decide) : PE X (.Name x pos) (tF cl W (mC d)) := by
  obtain ⟨u, v, h1, h2, h3⟩ := h
  exact d_glob hg h2 h3 h1 hd
theorem cst_int {K : PySem.W.Frag} {h : Heap} {mg : Str → Option Value} {x : Str} {i : Int} {t : Tok} (X : K.In h) (G : h.Ns mainGlobals mg) (a : PySem.W.nsIn K mainGlobals x = some (some (.int i t))) : Cst mg x (.int i) := ⟨_, _, rfl, PySem.W.mg_of X G a, ⟨t, rfl⟩⟩
theorem cst_str {K : PySem.W.Frag} {h : Heap} {mg : Str → Option Value} {x : Str} {i : Str} {t : Tok} (X : K.In h) (G : h.Ns mainGlobals mg) (a : PySem.W.nsIn K mainGlobals x = some (some (.str i t))) : Cst mg x (.str i) := ⟨_, _, rfl, PySem.W.mg_of X G a, ⟨t, rfl⟩⟩
/-! ### the error classes -/
def fileB (P : Program) (vs : Array Value) : Bool := match vs[2]? with
  | some (Value.str file _) => P.main.file == file
  | _ => false
theorem fileB_ok {P : Program} {vs : Array Value} (h : fileB P vs = true) : ∃ file tf, vs[2]? = some (Value.str file tf) ∧ (P.main.file == file) = true := by
  unfold fileB at h
  split at h
  · rename_i file tf hv
    exact ⟨file, tf, hv, h⟩
  · cases h
open PySem.W in
def errB (P : Program) (K : PySem.W.Frag) (fld : Str) (C fI cda : Addr) (vs : Array Value) (bm : List Value) (qual pre : Str) (suf : List Expr) (q3 q8 : Pos) : Bool :=
  HandSPX.refsVE bm && decide (findIn K (.ref C) "__setattr__" = some (some (.builtin "object.__setattr__"))) && decide (findIn K (.ref C) fld = some none) && decide (typeIn K (.ref fI) = some (.type "function")) && keepIn K (.ref C) && L2.xfB K C &&
  decide (typeIn K (.ref C) = some (.type "type")) && decide (ks_superIn K C C "__init__" = some (some (.builtin "ValueError.__init__"))) && decide (nsIn K cStatics "thirdparty.any" = some none) && decide (subIn K (.ref C) (.type "ValueError") = some true) && decide (mroIn K C (.ref C) = some true) &&
  !(P.main.scope.names.lookup ("super" : Str)).isSome && codeIn K (.ref cda) qual && decide (pre.length ≤ 100) && HLX.sufB suf && (q3.endLine == q8.line) && fileB P vs &&
  (clsIn K C).isSome && decide (findIn K (.ref C) "__class__" = some (some (.builtin "object.__class__"))) && decide (specialIn K (.builtin "object.__class__") "__get__" = some (some (.builtin "getset_descriptor.__get__"))) && decide (takesIn K (.builtin "object.__class__") = some true) && decide (mroIn K C (.type "object") = some true)
structure ErrAll (P : Program) (K : PySem.W.Frag) (mg : Str → Option Value) (cl : Cl) (nm fld : Str) : Prop where
  ex : ∃ C fI, HLX.ErrTxt P K mg nm fld C fI ∧ XkC K C ∧ cl nm = some C
theorem err_mk {P : Program} {K : PySem.W.Frag} {h : Heap} {mg : Str → Option Value} {cl : Cl} {nm fld : Str} {C fI cda cc : Addr} {nm' q : Str} {N : Addr} {bs bm : List Value} {sn : List Str} {sub : List Value} {ab : Bool} {col : Option Bool} {dd : Option Addr} {k0 k1 k2 k3 k5 : Option Value}
    {oc : Value} {od : Option Addr} {kV doc pm : Value} {an : Option Addr} {ct : Value} {osl : Array (Option Value)} {qual pre : Str} {suf : List Expr} {p1 p2 q1 q2 q3 q4 q5 q6 q7 q8 q9 r1 r2 r3 r4 : Pos} {ccl : Value} {cdd : Option Addr} {vs : Array Value} {ccs : Array (Option Value)} {cl' : Value} {cld : Option Addr} {csl : Array (Option Value)}
    (X : K.In h) (G : h.Ns mainGlobals mg) (zs : PySem.W.nsIn K mainGlobals "super" = some none) (hcl : cl nm = some C)
    (a : PySem.W.nsIn K mainGlobals nm = some (some (.ref C)))
    (l : K.lookup C = some (excClassObj nm' q C N bs bm true sn sub ab col dd k0 k1 k2 k3 k5 "ValueError.__new__"))
    (i : PySem.W.findIn K (.ref C) "__init__" = some (some (.ref fI)))
    (lf : K.lookup fI = some ⟨oc, od, .func (PySem.W.ksFn "__init__" qual (HLX.iA fld p1 p2) (HLX.iB fld pre suf q1 q2 q3 q4 q5 q6 q7 q8 q9 r1 r2 r3 r4) (HLX.iS fld) .none kV doc pm an (.ref cda) ct cc), osl⟩)
    (lc : K.lookup cda = some ⟨ccl, cdd, .fields vs, ccs⟩) (ll : K.lookup cc = some ⟨cl', cld, .cell (some (.ref C)), csl⟩)
    (b : errB P K fld C fI cda vs bm qual pre suf q3 q8 = true) : ErrAll P K mg cl nm fld := by
  unfold errB at b
  simp only [Bool.and_eq_true, decide_eq_true_eq, Bool.not_eq_true'] at b
  obtain ⟨⟨⟨⟨⟨⟨⟨⟨⟨⟨⟨⟨⟨⟨⟨⟨⟨⟨⟨⟨⟨b1, b2⟩, b3⟩, b4⟩, b5⟩, b6⟩, b7⟩, b8⟩, b9⟩, b10⟩, b11⟩, b12⟩, b13⟩, b14⟩, b14s⟩, b15⟩, b16⟩, b17⟩, b18⟩, b19⟩, b20⟩, b21⟩ := b
  refine ⟨C, fI, ⟨PySem.W.mg_of X G a, PySem.W.mg_none_of X G zs, ⟨_, _, _, _, _, _, _, _, _, _, _, _, _, _, _, l, b1⟩, b2, b3, i, b4, b5, L2.xfB_ok b6, b7, b8, b9, b10, b11, b12, ?_⟩, ⟨b17, b18, b19, b20, b21⟩, hcl⟩
  obtain ⟨file, tf, hv, hfl⟩ := fileB_ok b16
  exact ⟨_, _, _, _, _, _, _, _, _, _, _, _, _, _, _, _, _, _, _, _, _, _, _, _, _, _, _, _, lf, b13, b14, b14s, b15, ⟨_, _, _, _, _, _, lc, hv, hfl⟩, ⟨_, _, _, ll⟩⟩
/-- raise X(e) -/
theorem ds_raiseE {X : Cx} {nm fld : Str} {cl : Cl} {W : WX} {a : Expr} {m : HEnv → R D} {p pos pos2 : Pos} {k : Nat} (T : ErrAll X.prog X.K X.mg cl nm fld) (hc : X.calm = true) (fo : HLX.FldOk fld) (hr : Room (k + 1) X.A) (tk : Takes X W) (ha : PE X a (tF cl W m)) (hg : Gl X nm) (hd : (nm == ("__debug__" : Str)) = false := by decide)
    (hs : starEach [a] X.env = (false, eval a X.env) :: starEach [] X.env := by rfl) (hpl : (backTo pos (starEach [] X.env)).any (·.1) = false := by rfl) :
    PS X (.Raise (some (.Call (.Name nm p) [a] [] pos)) none pos2) (tS cl W (mRaise nm fld m)) := by
  obtain ⟨C, fI, h1, h2, h3⟩ := T.ex
  exact ds_raise hc h1 h3 fo hr tk ha hg hd hs hpl
theorem fo_limit : HLX.FldOk "limit" := ⟨rfl, rfl, rfl, rfl, by decide, by decide, fun _ _ _ _ _ _ _ _ _ _ _ _ _ => rfl⟩
theorem fo_at : HLX.FldOk "at" := ⟨rfl, rfl, rfl, rfl, by decide, by decide, fun _ _ _ _ _ _ _ _ _ _ _ _ _ => rfl⟩
theorem fo_name : HLX.FldOk "name" := ⟨rfl, rfl, rfl, rfl, by decide, by decide, fun _ _ _ _ _ _ _ _ _ _ _ _ _ => rfl⟩
theorem fo_column : HLX.FldOk "column" := ⟨rfl, rfl, rfl, rfl, by decide, by decide, fun _ _ _ _ _ _ _ _ _ _ _ _ _ => rfl⟩

/-! ### the classes' table -/
def clOf (l : List (Str × Addr)) : Cl := fun c => l.lookup c
def exB (K : PySem.W.Frag) (l : List (Str × Addr)) : Bool := l.all fun p => l.all fun q => decide (PySem.W.exmOne K (.ref p.2) (.ref q.2) = some (p.1 == q.1)) && decide (PySem.W.kitOne K (.ref p.2) (.ref q.2) = some (p.1 == q.1))
theorem lookup_mem {κ α : Type} [BEq κ] [LawfulBEq κ] {x : κ} {v : α} : ∀ {l : List (κ × α)}, l.lookup x = some v → (x, v) ∈ l
  | [], h => by cases h
  | (y, u) :: r, h => by
    rw [List.lookup_cons] at h
    by_cases e : (x == y) = true
    · rw [e] at h
      cases h
      rw [eq_of_beq e]
      exact List.mem_cons_self
    · rw [Bool.not_eq_true] at e
      rw [e] at h
      exact List.mem_cons_of_mem _ (lookup_mem h)
/-- the table's facts: lE the error classes, lO further ones -/
structure ErrTab (cl : Cl) (K : PySem.W.Frag) : Prop where
  ex : ExF cl K
  kit : ∀ c ∈ errNames, ∀ c' ∈ errNames, ∀ C C', cl c = some C → cl c' = some C' → c ≠ "HeadlessError" → c' ≠ "HeadlessError" → PySem.W.kitOne K (.ref C) (.ref C') = some (c == c')
theorem errTab_mk {K : PySem.W.Frag} {l : List (Str × Addr)} (h : exB K l = true) (hx : ∀ p ∈ l, L2.XfC K p.2 ∧ XkC K p.2) : ErrTab (clOf l) K := by
  unfold exB at h
  simp only [List.all_eq_true, Bool.and_eq_true, decide_eq_true_eq] at h
  exact ⟨⟨fun c _ c' _ C C' e e' _ _ => (h _ (lookup_mem e) _ (lookup_mem e')).1, fun c _ C e => hx _ (lookup_mem e)⟩, fun c _ c' _ C C' e e' _ _ => (h _ (lookup_mem e) _ (lookup_mem e')).2⟩
theorem kit_none {K : PySem.W.Frag} {cl : Cl} (T : ErrTab cl K) {x : Str} {C : Addr} (hx : x ∈ errNames) (hne : x ≠ "HeadlessError") (hcl : cl x = some C) : ∀ {ns : List Str} {Cs : List Addr}, (ns.all fun c => errNames.contains c && (c != "HeadlessError" && x != c)) = true → ns.map cl = Cs.map some → PySem.W.kitAny K (.ref C) (Cs.map Value.ref) = some false
  | [], [], _, _ => kitAny_nil
  | [], C :: Cs, _, h => by cases h
  | c :: ns, [], _, h => by cases h
  | c :: ns, C' :: Cs, ha, h => by
    simp only [List.all_cons, Bool.and_eq_true] at ha
    simp only [List.map_cons, List.cons.injEq] at h
    obtain ⟨⟨h1, h2, h3⟩, h4⟩ := ha
    have e : (x == c) = false := by simpa [bne] using h3
    refine kitAny_cons (b := false) ?_ (fun _ => kit_none T hx hne hcl (by simpa using h4) h.2) (fun z => by cases z)
    rw [← e]
    exact T.kit x hx c (by simpa using h1) C C' hcl h.1 hne (by simpa [bne] using h2)
theorem ErrAll.xf {P : Program} {K : PySem.W.Frag} {mg : Str → Option Value} {cl : Cl} {nm fld : Str} (E : ErrAll P K mg cl nm fld) {C : Addr} (h : cl nm = some C) : L2.XfC K C ∧ XkC K C := by
  obtain ⟨C', fI, h1, h2, h3⟩ := E.ex
  rw [h] at h3
  cases h3
  exact ⟨h1.xf, h2⟩
theorem cla_cons {X : Cx} {cl : Cl} {n : Str} {i : Nat} {x fld tag : Str} {ns : List Str} {Cs : List Addr} {C : Addr} {st : Stmt} {sts : List Stmt} {np ps : Pos} {hds : List ExceptHandler} {l : List Cla} {q : List Clause} (T : ErrTab cl X.K) (E : ErrAll X.prog X.K X.mg cl x fld) (hx : x ∈ errNames) (hne : x ≠ "HeadlessError")
    (hall : (ns.all fun c => errNames.contains c && (c != "HeadlessError" && x != c)) = true) (hg : Gl X x) (hd : (x == ("__debug__" : Str)) = false) (hm : X.mg x = some (.ref C)) (hcl : cl x = some C) (hns : ns.map cl = Cs.map some)
    (hsu : ∀ (a : Addr) (oe : Obj) (cls : Value) (d : Option Addr) (pn : List (Addr × Obj)), Zc cls d oe → (∃ vs, oe.data = .fields vs) → L2.XfC X.K C → XkC X.K C → PySem.W.findIn X.K (.ref C) fld = some none → PSs (X.suite a ((a, oe) :: pn)) (st :: sts) (tTell cl X.K i C fld tag Cs a cls d))
    (r : ClaOk cl X n i hds l q) : ClaOk cl X n i (.ExceptHandler (some (.Name x np)) (some n) (st :: sts) ps :: hds) ((x, fld, tag) :: l) ((.ref C, tTell cl X.K i C fld tag Cs) :: q) := by
  obtain ⟨C', fI, h1, h2, h3⟩ := E.ex
  rw [hcl] at h3
  cases h3
  exact .cons hx hne hcl ⟨hg, hd, .inl hm⟩ (kit_none T hx hne hcl hall hns) (fun a oe cls d pn hz hf => hsu a oe cls d pn hz hf h1.xf h2 h1.noN) r
/-! ### the end -/
theorem cx_end {P : Program} {w : World} {outer : List PySem.Env} {H : Hp} {s : Shared} {e : Value} {s' : Shared} (h : L2.CX P w outer H s (fun _ _ _ => False) e s') : False := by
  obtain ⟨_, _, _, _, _, _, _, _, _, _, _, _, z⟩ := h
  exact z
def noLst (K : PySem.W.Frag) : Bool := K.all fun p => match p.2.cls with
  | .type t => t != "list"
  | _ => true
theorem noLst_of {K : PySem.W.Frag} (h : noLst K = true) {a : Addr} {o : Obj} (e : K.lookup a = some o) : o.cls ≠ .type "list" := fun z => by
  have := List.all_eq_true.mp h _ (lookup_mem e)
  simp [z] at this
theorem ints_rep {cl : Cl} {F : Hp} : ∀ ns : List Int, RepL cl F (ns.map D.int) (ns.map V.int)
  | [] => by simp only [List.map_nil, RepL]
  | n :: r => by simp only [List.map_cons, RepL, Rep]; exact ⟨_, _, rfl, rfl, ints_rep r⟩
theorem script_ok {cl : Cl} {f : List D → R (Bool × D)} {K : PySem.W.Frag} {n : Nat} (hn : n ≤ 1000) (hlaw : ∀ ns : List Int, ns.length ≤ n → ∃ o, f [.lst (ns.map D.int)] = .ok (o, .bl true)) (hK : noLst K = true) {H : Hp} {a : Addr} {ns : List Int} (hl : ns.length ≤ n) (hS : SqL K H a (ns.map V.int)) :
    spD cl 1 f [.ref a] H (fun v _ => v = .bl true) fun _ _ _ => False := by
  obtain ⟨o, hf⟩ := hlaw ns hl
  rcases hS with hR | ⟨o, its, m, e, c, _⟩
  case inr => exact (noLst_of hK e c).elim
  refine ⟨rfl, fun b => if b = a then some (.lst (ns.map V.int)) else none, [.lst (ns.map D.int)], fun p u e => ?_, ?_, ?_⟩
  · by_cases hp : p = a
    · subst hp
      have e' := (if_pos rfl).symm.trans e
      cases e'
      exact ⟨hR, fun z => by cases z⟩
    · have e' := (if_neg hp).symm.trans e
      cases e'
  · simp only [RepL, Rep]
    refine ⟨_, _, rfl, ⟨a, _, rfl, if_pos rfl, ints_rep ns, ?_⟩, rfl⟩
    rw [List.length_map, sizeLine_eq]
    omega
  · rw [hf]
    intro v F' H' k s r
    cases o with
    | false => exact RepIn.bl (by simpa [RetR] using r)
    | true =>
      obtain ⟨p, rfl, h0, hff, u, hu, ob, mu⟩ : relN cl H F' H' (.bl true) v := by simpa [RetR] using r
      exact ob.elim
end HL

/-! Plain lemmas: how a text's meaning is reckoned. -/
namespace HL
open PySem PySem.Spec PyProof.Rows L2
theorem mSeq_nx {a b : HEnv → SO} {env e : HEnv} (h : a env = .nx e) : mSeq a b env = b e := by unfold mSeq; rw [h]
theorem mSeq_rt {a b : HEnv → SO} {env : HEnv} {o : Bool} {d : D} (h : a env = .rt o d) : mSeq a b env = .rt o d := by unfold mSeq; rw [h]
theorem mSeq_er {a b : HEnv → SO} {env e : HEnv} {x : Er} (h : a env = .er x e) : mSeq a b env = .er x e := by unfold mSeq; rw [h]
theorem sB_ok {α : Type} {m : HEnv → R α} {k : α → HEnv → SO} {env : HEnv} {a : α} (h : m env = .ok a) : sB m k env = k a env := by unfold sB; rw [h]
theorem mSet_ok {i : Nat} {m : HEnv → R D} {env : HEnv} {d : D} (h : m env = .ok d) : mSet i m env = .nx (env.set i (.val d)) := sB_ok h
theorem mSetN_ok {i : Nat} {m : HEnv → R D} {env : HEnv} {d : D} (h : m env = .ok d) : mSetN i m env = .nx (env.set i (.own d)) := sB_ok h
theorem mRet_ok {m : HEnv → R D} {env : HEnv} {d : D} (h : m env = .ok d) : mRet m env = .rt false d := sB_ok h
theorem mRetN_ok {m : HEnv → R D} {env : HEnv} {d : D} (h : m env = .ok d) : mRetN m env = .rt true d := sB_ok h
theorem mIf_tt {t : HEnv → R Bool} {a b : HEnv → SO} {env : HEnv} (h : t env = .ok true) : mIfS t a b env = a env := (sB_ok h).trans (if_pos rfl)
theorem mIf_ff {t : HEnv → R Bool} {a b : HEnv → SO} {env : HEnv} (h : t env = .ok false) : mIfS t a b env = b env := (sB_ok h).trans (if_neg (by decide))
theorem mFor_ok {src : HEnv → R (List D)} {g : D → HEnv → R HEnv} {b : HEnv → SO} {env : HEnv} {ds : List D} (h : src env = .ok ds) : mFor src g b env = forL g b ds env := sB_ok h
theorem m1_ok {α β : Type} {f : α → R β} {m : HEnv → R α} {env : HEnv} {a : α} (h : m env = .ok a) : m1 f m env = f a := by unfold m1; rw [h]; rfl
theorem m2_ok {α β γ : Type} {f : α → β → R γ} {ma : HEnv → R α} {mb : HEnv → R β} {env : HEnv} {a : α} {b : β} (h : ma env = .ok a) (k : mb env = .ok b) : m2 f ma mb env = f a b := by unfold m2; rw [h, R.bind_ok, k]; rfl
theorem mComp_ok {vs : List Nat} {src : HEnv → R (List D)} {g : D → HEnv → R HEnv} {t : HEnv → R Bool} {el : HEnv → R D} {env : HEnv} {ds ys : List D} (h : src env = .ok ds) (k : compL g t el (wipeE env vs) ds = .ok ys) : mComp vs src g t el env = .ok (.lst ys) := by
  unfold mComp
  rw [h, R.bind_ok, k]
theorem fnS_rt {n : Nat} {body : HEnv → SO} {ds : List D} {o : Bool} {d : D} (h : body (ds.map Slot.val ++ List.replicate (n - ds.length) Slot.no) = .rt o d) : fnS n body ds = .ok (o, d) := by unfold fnS; rw [h]
theorem fnS_er {n : Nat} {body : HEnv → SO} {ds : List D} {x : Er} {e : HEnv} (h : body (ds.map Slot.val ++ List.replicate (n - ds.length) Slot.no) = .er x e) : fnS n body ds = .er x := by unfold fnS; rw [h]
theorem fnS_nx {n : Nat} {body : HEnv → SO} {ds : List D} {e : HEnv} (h : body (ds.map Slot.val ++ List.replicate (n - ds.length) Slot.no) = .nx e) : fnS n body ds = .ok (false, .non) := by unfold fnS; rw [h]
/-- a comprehension that keeps all -/
theorem compL_map {α : Type} {i : Nat} {el : HEnv → R D} {env : HEnv} {f h : α → D} : ∀ {xs : List α}, (∀ x ∈ xs, el (env.set i (.val (f x))) = .ok (h x)) → compL (gN i) mYes el env (xs.map f) = .ok (xs.map h)
  | [], _ => rfl
  | x :: xs, k => by
    have e1 := k x List.mem_cons_self
    have e2 := compL_map (i := i) (el := el) (env := env) (f := f) (h := h) (xs := xs) fun y hy => k y (List.mem_cons_of_mem _ hy)
    simp only [List.map_cons, compL, gN, mYes, e1, e2]
/-- one that keeps those with p -/
theorem compL_filter {α : Type} {i : Nat} {t : HEnv → R Bool} {el : HEnv → R D} {env : HEnv} {f h : α → D} {p : α → Bool} : ∀ {xs : List α}, (∀ x ∈ xs, t (env.set i (.val (f x))) = .ok (p x)) → (∀ x ∈ xs, p x = true → el (env.set i (.val (f x))) = .ok (h x)) →
    compL (gN i) t el env (xs.map f) = .ok ((xs.filter p).map h)
  | [], _, _ => rfl
  | x :: xs, kt, k => by
    have e0 := kt x List.mem_cons_self
    have e2 := compL_filter (i := i) (t := t) (el := el) (env := env) (f := f) (h := h) (p := p) (xs := xs) (fun y hy => kt y (List.mem_cons_of_mem _ hy)) fun y hy => k y (List.mem_cons_of_mem _ hy)
    cases hp : p x with
    | true =>
      have e1 := k x List.mem_cons_self hp
      rw [hp] at e0
      simp only [List.map_cons, compL, gN, e0, e1, e2, List.filter_cons, hp, if_true]
    | false =>
      rw [hp] at e0
      simp only [List.map_cons, compL, gN, e0, e2, List.filter_cons, hp]
      rfl
/-- a loop's invariant -/
theorem forL_ind {g : D → HEnv → R HEnv} {b : HEnv → SO} (P : Nat → HEnv → Prop) : ∀ {ds : List D} {j : Nat} {env : HEnv}, P j env → (∀ (i : Nat) (d : D) (env : HEnv), ds[i]? = some d → P (j + i) env → ∃ e1 e, g d env = .ok e1 ∧ (b e1 = .nx e ∨ b e1 = .ct e) ∧ P (j + i + 1) e) → ∃ e, forL g b ds env = .nx e ∧ P (j + ds.length) e
  | [], j, env, h0, _ => ⟨env, rfl, h0⟩
  | d :: ds, j, env, h0, hs => by
    obtain ⟨e1, e, h1, h2, h3⟩ := hs 0 d env rfl h0
    obtain ⟨e', k1, k2⟩ := forL_ind P (ds := ds) (j := j + 1) (env := e) h3 fun i d env hi hp => by
      have e : j + 1 + i = j + (i + 1) := by omega
      rw [e] at hp ⊢
      exact hs (i + 1) d env (by simpa using hi) hp
    refine ⟨e', ?_, ?_⟩
    · unfold forL
      simp only [h1]
      rcases h2 with h2 | h2 <;> simp only [h2] <;> exact k1
    · have e : j + (d :: ds).length = j + 1 + ds.length := by simp only [List.length_cons]; omega
      rw [e]
      exact k2
theorem rangeD_ok {n : Nat} (h : n ≤ 16777216) : rangeD 0 n = .ok ((List.range n).map fun i => D.int (i : Nat)) := by
  unfold rangeD
  have e : ((n : Int) - 0).toNat = n := by omega
  rw [if_pos ⟨by decide, by decide, by omega, by omega, by omega⟩, e]
  congr 1
  refine List.map_congr_left fun i _ => ?_
  rw [Int.zero_add]
theorem atI_nat' {α : Type} {xs : List α} {j : Nat} {x : α} (h : xs[j]? = some x) : atI xs (j : Int) = some x := atI_nat h
theorem append_ok {i : Nat} {m : HEnv → R D} {env : HEnv} {ds : List D} {d : D} (he : env[i]? = some (.own (.lst ds))) (hm : m env = .ok d) (hz : ds.length < sizeLine) : mOwn1 i (tyL "list") appD m env = .nx (env.set i (.own (.lst (ds ++ [d])))) := by
  unfold mOwn1
  rw [he]
  have ht : tyL "list" (.lst ds) = true := by simp [tyL]
  simp only [ht, if_true]
  rw [sB_ok hm]
  unfold appD
  simp only [hz, if_true]
theorem small_line {n : Nat} (h : n ≤ 1000000) : n < sizeLine := by rw [sizeLine_eq]; omega
theorem le_line {n : Nat} (h : n ≤ 1000000) : n ≤ sizeLine := Nat.le_of_lt (small_line h)
theorem mCons_ok {m : HEnv → R D} {ms : HEnv → R (List D)} {env : HEnv} {d : D} {ds : List D} (h : m env = .ok d) (k : ms env = .ok ds) : mCons m ms env = .ok (d :: ds) := m2_ok h k
theorem mCall_ok {f : List D → R (Bool × D)} {ms : HEnv → R (List D)} {env : HEnv} {ds : List D} {o : Bool} {d : D} (h : ms env = .ok ds) (k : f ds = .ok (o, d)) : mCall f ms env = .ok d := by
  unfold mCall
  rw [h, R.bind_ok, k]
  rfl
theorem mCallX_ok {f : List D → R (Bool × D)} {ms : HEnv → R (List D)} {env : HEnv} {ds : List D} {r : R (Bool × D)} (h : ms env = .ok ds) (k : f ds = r) : mCallX f ms env = r := by
  unfold mCallX
  rw [h, R.bind_ok, k]
/-- a loop over what is lent: P says what holds between the turns -/
theorem forB_all {i : Nat} {g : D → HEnv → R HEnv} {b : HEnv → SO} {ds : List D} (P : HEnv → Prop) (hP : ∀ env, P env → env[i]? = some (.lent (.lst ds))) (hs : ∀ d ∈ ds, ∀ env, P env → ∃ e1 e, g d env = .ok e1 ∧ b e1 = .nx e ∧ P e) :
    ∀ (n j : Nat) (env : HEnv), ds.length < n + j → P env → j ≤ ds.length → ∃ e, forB i g b n j env = .nx e ∧ P e
  | 0, j, env, h, _, hj => by omega
  | n + 1, j, env, h, h0, hj => by
    unfold forB
    rw [hP env h0]
    simp only
    by_cases hlt : j < ds.length
    · rw [List.getElem?_eq_getElem hlt]
      simp only
      obtain ⟨e1, e, h1, h2, h3⟩ := hs _ (List.getElem_mem hlt) env h0
      simp only [h1, h2]
      exact forB_all P hP hs n (j + 1) e (by omega) h3 hlt
    · rw [List.getElem?_eq_none (by omega)]
      exact ⟨env, rfl, h0⟩
theorem mForB_all {i : Nat} {g : D → HEnv → R HEnv} {b : HEnv → SO} {ds : List D} {env : HEnv} (P : HEnv → Prop) (he : env[i]? = some (.own (.lst ds))) (h0 : P (env.set i (.lent (.lst ds)))) (hP : ∀ env, P env → env[i]? = some (.lent (.lst ds))) (hs : ∀ d ∈ ds, ∀ env, P env → ∃ e1 e, g d env = .ok e1 ∧ b e1 = .nx e ∧ P e) :
    ∃ e, mForB i g b env = .nx (e.set i (.own (.lst ds))) ∧ P e := by
  obtain ⟨e, h1, h2⟩ := forB_all P hP hs (ds.length + 1) 0 _ (by omega) h0 (Nat.zero_le _)
  refine ⟨e, ?_, h2⟩
  unfold mForB
  rw [he]
  simp only [h1, giveBack, hP e h2]
/-- a loop whose body leaves things as they are, in a way -/
theorem forL_all {g : D → HEnv → R HEnv} {b : HEnv → SO} (P : HEnv → Prop) {ds : List D} {env : HEnv} (h0 : P env) (hs : ∀ d ∈ ds, ∀ env, P env → ∃ e1 e, g d env = .ok e1 ∧ b e1 = .nx e ∧ P e) : ∃ e, forL g b ds env = .nx e ∧ P e := by
  obtain ⟨e, h1, h2⟩ := forL_ind (g := g) (b := b) (fun _ => P) (ds := ds) (j := 0) (env := env) h0 fun i d env hd hp => by
    obtain ⟨e1, e, k1, k2, k3⟩ := hs d (List.mem_of_getElem? hd) env hp
    exact ⟨e1, e, k1, .inl k2, k3⟩
  exact ⟨e, h1, h2⟩
/-! ### equality of plain data -/
theorem eqD_self {d : D} (h : sim d = true) : eqD d d = .ok (.bl true) := by
  unfold eqD
  rw [if_pos ⟨h, h⟩, deq_refl d (n := 50) h]
theorem neD_self {d : D} (h : sim d = true) : neD d d = .ok (.bl false) := by
  unfold neD
  rw [if_pos ⟨h, h⟩, deq_refl d (n := 50) h]
  rfl
theorem simpL_of {n : Nat} : ∀ {ds : List D}, (∀ d ∈ ds, simp? n d = true) → simpL? n ds = true
  | [], _ => rfl
  | d :: ds, h => by
    simp only [simpL?, Bool.and_eq_true]
    exact ⟨h d List.mem_cons_self, simpL_of fun x hx => h x (List.mem_cons_of_mem _ hx)⟩
theorem simpL_strs {n : Nat} (xs : List Str) : simpL? n (xs.map D.str) = true := simpL_of fun d hd => by
  obtain ⟨x, _, rfl⟩ := List.mem_map.mp hd
  cases n <;> rfl
theorem sim_lst {ds : List D} (h : simpL? 49 ds = true) : sim (.lst ds) = true := by
  show simp? (49 + 1) (.lst ds) = true
  simp only [simp?]
  exact h
theorem sim_tup {ds : List D} (h : simpL? 49 ds = true) : sim (.tup ds) = true := by
  show simp? (49 + 1) (.tup ds) = true
  simp only [simp?]
  exact h
theorem cutL_from (ds : List D) (k : Nat) : cutL ds (some (k : Int)) none = ds.drop k := by
  unfold cutL
  rw [HT.sIx_none, HT.sIx_nat]
  rcases Nat.le_total k ds.length with h | h
  · rw [Nat.min_eq_left h]
    exact List.take_of_length_le (by simp)
  · rw [Nat.min_eq_right h, List.drop_length, List.drop_eq_nil_of_le h, List.take_nil]
theorem ix_lst {ds : List D} {j : Nat} {d : D} (h : ds[j]? = some d) : ixD (.lst ds) (.int (j : Int)) = .ok d := by
  show atD ds (j : Int) = _
  unfold atD
  rw [atI_nat h]
theorem ix_tup {ds : List D} {j : Nat} {d : D} (h : ds[j]? = some d) : ixD (.tup ds) (.int (j : Int)) = .ok d := by
  show atD ds (j : Int) = _
  unfold atD
  rw [atI_nat h]
theorem allD_map {α : Type} {f : α → Bool} : ∀ (xs : List α), boolsD (xs.map fun x => D.bl (f x)) = some (xs.map f)
  | [] => rfl
  | x :: xs => by
    show (boolsD (xs.map fun x => D.bl (f x))).map (f x :: ·) = _
    rw [allD_map xs]
    rfl
end HL

namespace HL
open PySem PySem.Spec PyProof.Rows L2
def b_drawn  : HEnv → SO :=
  (mSeq (mSet 3 (mLstE (mCons (mC (.int 1234)) (mCons (mC (.int 4021)) (mCons (mC (.int 777)) (mCons (mC (.int 2906)) (mCons (mC (.int 3315)) (mCons (mC (.int 158)) (mCons (mC (.int 4712)) (mCons (mC (.int 2089)) (mCons (mC (.int 3640)) (mCons (mC (.int 915)) (mCons (mC (.int 1782)) (mCons (mC (.int 4463)) (mCons (mC (.int 2531)) mNil)))))))))))))))
  (mSeq (mSet 3 (m2 addD (mOwn 3) (mLstE (mCons (mC (.int 606)) (mCons (mC (.int 3877)) (mCons (mC (.int 1409)) (mCons (mC (.int 4950)) (mCons (mC (.int 263)) (mCons (mC (.int 3128)) (mCons (mC (.int 2214)) (mCons (mC (.int 4347)) (mCons (mC (.int 1071)) (mCons (mC (.int 3599)) (mCons (mC (.int 880)) (mCons (mC (.int 2752)) mNil)))))))))))))))
  (mSeq (mSet 3 (m2 addD (mOwn 3) (mLstE (mCons (mC (.int 4126)) (mCons (mC (.int 1513)) (mCons (mC (.int 3006)) (mCons (mC (.int 4888)) (mCons (mC (.int 391)) (mCons (mC (.int 2465)) (mCons (mC (.int 1690)) (mCons (mC (.int 3754)) (mCons (mC (.int 4219)) (mCons (mC (.int 542)) (mCons (mC (.int 2837)) (mCons (mC (.int 1176)) mNil)))))))))))))))
  (mSeq (mSet 3 (m2 addD (mOwn 3) (mLstE (mCons (mC (.int 4605)) (mCons (mC (.int 3281)) (mCons (mC (.int 98)) (mCons (mC (.int 1955)) (mCons (mC (.int 4074)) (mCons (mC (.int 2698)) (mCons (mC (.int 3433)) (mCons (mC (.int 721)) (mCons (mC (.int 4790)) (mCons (mC (.int 1347)) (mCons (mC (.int 2020)) (mCons (mC (.int 3916)) mNil)))))))))))))))
  (mSeq (mSet 3 (m2 addD (mOwn 3) (mLstE (mCons (mC (.int 1661)) (mCons (mC (.int 4532)) (mCons (mC (.int 305)) (mCons (mC (.int 2983)) (mCons (mC (.int 3702)) (mCons (mC (.int 1128)) (mCons (mC (.int 4251)) (mCons (mC (.int 2376)) (mCons (mC (.int 649)) (mCons (mC (.int 3067)) (mCons (mC (.int 1894)) (mCons (mC (.int 4813)) mNil)))))))))))))))
  (mSeq (mSet 4 (mC (.int 0)))
  (mSeq (mIfS (m1 truB (m2 ltD (mOwn 1) (m1 lenD (mOwn 0))))
  (mSet 4 (m1 intD (m2 ixD (mOwn 0) (mOwn 1))))
  mNext)
  (mSeq (mIfS (m1 truB (m2 ltD (mOwn 4) (m2 powD (mC (.int 10)) (mC (.int 18)))))
  (mSeq (mSet 5 (m2 addD (m2 modD (m1 intD (mOwn 4)) (mC (.int 1009))) (mC (.int 1))))
  (mRetN (mComp [7] (m1 range1D (mCons (mVar 2) mNil)) (gN 7) mYes (m2 modD (m1 intD (m2 mulD (mOwn 5) (m2 ixD (mOwn 3) (m2 modD (m2 addD (mOwn 7) (m2 mulD (mC (.int 7)) (mOwn 1))) (mC (.int 61)))))) (mC (.int 5039))))))
  mNext)
  (mSeq (mSetN 6 (mLstE mNil))
  (mSeq (mFor (m1 range1D (mCons (mVar 2) mNil)) (gN 7)
  (mSeq (mOwn1 6 (tyL "list") appD (m2 modD (m1 intD (mOwn 4)) (mC (.int 5040))))
  (mSet 4 (m2 divD (mOwn 4) (mC (.int 5040))))))
  (mRetOwn 6)))))))))))
/-- _law_pick_names -/
def b_pick  : HEnv → SO :=
  (mSeq (mSet 2 (mC (.str "ABCDEFGHIJKLMNOPQRSTUVWXYZ")))
  (mSeq (mSetN 3 (mLstE mNil))
  (mSeq (mFor (m1 range1D (mCons (mVar 1) mNil)) (gN 4)
  (mSeq (mSet 5 (m2 modD (m1 intD (m2 ixD (mOwn 0) (mOwn 4))) (m1 lenD (mOwn 2))))
  (mSeq (mOwn1 3 (tyL "list") appD (m2 ixD (mOwn 2) (mOwn 5)))
  (mSet 2 (m2 addD (mSl slD (mOwn 2) mNoPart (mPart (mVar 5))) (mSl slD (mOwn 2) (mPart (m2 addD (mOwn 5) (mC (.int 1)))) mNoPart))))))
  (mRetOwn 3))))
def marks : List Int := [1234, 4021, 777, 2906, 3315, 158, 4712, 2089, 3640, 915, 1782, 4463, 2531, 606, 3877, 1409, 4950, 263, 3128, 2214, 4347, 1071, 3599, 880, 2752, 4126, 1513, 3006, 4888, 391, 2465, 1690, 3754, 4219, 542, 2837, 1176, 4605, 3281, 98, 1955, 4074, 2698, 3433, 721, 4790, 1347, 2020, 3916, 1661, 4532, 305, 2983, 3702, 1128, 4251, 2376, 649, 3067, 1894, 4813]
def mk (j : Int) : Int := marks.getD j.toNat 0
theorem marks_at {j : Int} (h0 : 0 ≤ j) (h : j < 61) : ixD (.lst (marks.map D.int)) (.int j) = .ok (.int (mk j)) := by
  obtain ⟨n, rfl⟩ : ∃ n : Nat, j = n := ⟨j.toNat, by omega⟩
  have hn : n < marks.length := by show n < 61; omega
  show atD _ _ = _
  unfold atD
  rw [atI_nat (v := D.int marks[n]) (by rw [List.getElem?_map, List.getElem?_eq_getElem hn]; rfl)]
  unfold mk
  rw [Int.toNat_natCast, List.getD_eq_getElem?_getD, List.getElem?_eq_getElem hn]
  rfl
theorem drawn_ok (ns : List Int) (k m : Nat) (hk : k ≤ 1000) (hm : m ≤ 1000) : ∃ cs : List Int, cs.length = m ∧ (∀ c ∈ cs, 0 ≤ c ∧ c < 5040) ∧ fnS 8 b_drawn [.lst (ns.map D.int), .int k, .int m] = .ok (true, .lst (cs.map D.int)) := by
  let cell : Int := if h : k < ns.length then ns[k] else 0
  have hlt : ltD (.int (k : Int)) (.int (ns.length : Int)) = .ok (.bl (decide (k < ns.length))) := by
    show R.ok (D.bl (decide ((k : Int) < (ns.length : Int)))) = _
    rw [show decide ((k : Int) < (ns.length : Int)) = decide (k < ns.length) from by simp]
  -- the cell
  have cellE : (mIfS (m1 truB (m2 ltD (mOwn 1) (m1 lenD (mOwn 0)))) (mSet 4 (m1 intD (m2 ixD (mOwn 0) (mOwn 1)))) mNext) [.val (.lst (ns.map D.int)), .val (.int k), .val (.int m), .val (.lst (marks.map D.int)), .val (.int 0), .no, .no, .no] =
      .nx [.val (.lst (ns.map D.int)), .val (.int k), .val (.int m), .val (.lst (marks.map D.int)), .val (.int cell), .no, .no, .no] := by
    have ht : (m1 truB (m2 ltD (mOwn 1) (m1 lenD (mOwn 0)))) [.val (.lst (ns.map D.int)), .val (.int k), .val (.int m), .val (.lst (marks.map D.int)), .val (.int 0), .no, .no, .no] = .ok (decide (k < ns.length)) := by
      refine (m1_ok (a := D.bl (decide (k < ns.length))) ?_).trans rfl
      refine (m2_ok (a := D.int k) (b := D.int ns.length) rfl ?_).trans hlt
      show R.ok (D.int ((ns.map D.int).length : Nat)) = _
      rw [List.length_map]
    by_cases hk2 : k < ns.length
    · rw [decide_eq_true hk2] at ht
      rw [mIf_tt ht]
      have e : atI (ns.map D.int) (k : Int) = some (.int ns[k]) := atI_nat (by rw [List.getElem?_map, List.getElem?_eq_getElem hk2]; rfl)
      refine (mSet_ok (d := .int ns[k]) ?_).trans ?_
      · show (match atI (ns.map D.int) (k : Int) with | some d => R.ok d | none => R.stuck).bind intD = _
        rw [e]
        rfl
      · show SO.nx _ = SO.nx _
        rw [show cell = ns[k] from dif_pos hk2]
        rfl
    · rw [decide_eq_false hk2] at ht
      rw [mIf_ff ht]
      show SO.nx _ = SO.nx _
      rw [show cell = 0 from dif_neg hk2]
  have ht : ∀ s5 s6 s7, (m1 truB (m2 ltD (mOwn 4) (m2 powD (mC (.int 10)) (mC (.int 18))))) [.val (.lst (ns.map D.int)), .val (.int k), .val (.int m), .val (.lst (marks.map D.int)), .val (.int cell), s5, s6, s7] = .ok (decide (cell < 10 ^ 18)) := fun s5 s6 s7 => by
    refine (m1_ok (a := D.bl (decide (cell < 10 ^ 18))) ?_).trans rfl
    exact (m2_ok (a := D.int cell) (b := D.int (10 ^ 18)) rfl rfl).trans rfl
  have hrange : ∀ s3 s4 s5 s6 s7, (m1 range1D (mCons (mVar 2) mNil)) [.val (.lst (ns.map D.int)), .val (.int k), .val (.int m), s3, s4, s5, s6, s7] = .ok ((List.range m).map fun i => D.int (i : Nat)) := fun s3 s4 s5 s6 s7 => by
    refine (m1_ok (a := [D.int m]) rfl).trans ?_
    exact rangeD_ok (by omega)
  have first : ∀ (r : HEnv → SO) (o : SO), r [.val (.lst (ns.map D.int)), .val (.int k), .val (.int m), .val (.lst (marks.map D.int)), .val (.int cell), .no, .no, .no] = o →
      mSeq (mIfS (m1 truB (m2 ltD (mOwn 1) (m1 lenD (mOwn 0)))) (mSet 4 (m1 intD (m2 ixD (mOwn 0) (mOwn 1)))) mNext) r [.val (.lst (ns.map D.int)), .val (.int k), .val (.int m), .val (.lst (marks.map D.int)), .val (.int 0), .no, .no, .no] = o := fun r o h => by
    rw [mSeq_nx cellE]
    exact h
  by_cases hc : cell < 10 ^ 18
  · refine ⟨(List.range m).map fun i => ((cell % 1009 + 1) * mk (((i : Nat) + 7 * k : Int) % 61)) % 5039, by simp, fun c h => ?_, fnS_rt ?_⟩
    · obtain ⟨i, _, rfl⟩ := List.mem_map.mp h
      have h1 := Int.emod_nonneg ((cell % 1009 + 1) * mk (((i : Nat) + 7 * k : Int) % 61)) (b := 5039) (by decide)
      have h2 := Int.emod_lt_of_pos ((cell % 1009 + 1) * mk (((i : Nat) + 7 * k : Int) % 61)) (b := 5039) (by decide)
      omega
    · unfold b_drawn
      refine (mSeq_nx (mSet_ok rfl)).trans ((mSeq_nx (mSet_ok rfl)).trans ((mSeq_nx (mSet_ok rfl)).trans ((mSeq_nx (mSet_ok rfl)).trans ((mSeq_nx (mSet_ok rfl)).trans ((mSeq_nx (mSet_ok rfl)).trans (first _ _ ?_))))))
      have h0 := ht .no .no .no
      rw [decide_eq_true hc] at h0
      refine mSeq_rt ?_
      rw [mIf_tt h0]
      refine (mSeq_nx (mSet_ok (d := .int (cell % 1009 + 1)) rfl)).trans (mRetN_ok ?_)
      refine mComp_ok (hrange _ _ _ _ _) ?_
      rw [List.map_map]
      refine compL_map fun i hi => ?_
      have hs0 := Int.emod_nonneg cell (b := 1009) (by decide)
      have hs1 := Int.emod_lt_of_pos cell (b := 1009) (by decide)
      have hj0 := Int.emod_nonneg ((i : Nat) + 7 * k : Int) (b := 61) (by decide)
      have hj1 := Int.emod_lt_of_pos ((i : Nat) + 7 * k : Int) (b := 61) (by decide)
      refine (m2_ok (a := D.int ((cell % 1009 + 1) * mk (((i : Nat) + 7 * k : Int) % 61))) (b := D.int 5039) ?_ rfl).trans rfl
      refine (m1_ok (a := D.int ((cell % 1009 + 1) * mk (((i : Nat) + 7 * k : Int) % 61))) ?_).trans rfl
      refine (m2_ok (a := D.int (cell % 1009 + 1)) (b := D.int (mk (((i : Nat) + 7 * k : Int) % 61))) rfl ?_).trans (if_pos ⟨by omega, by omega⟩)
      exact (m2_ok (a := D.lst (marks.map D.int)) (b := D.int (((i : Nat) + 7 * k : Int) % 61)) rfl rfl).trans (marks_at hj0 hj1)
  · have key := forL_ind (g := gN 7) (b := mSeq (mOwn1 6 (tyL "list") appD (m2 modD (m1 intD (mOwn 4)) (mC (.int 5040)))) (mSet 4 (m2 divD (mOwn 4) (mC (.int 5040)))))
      (fun j env => ∃ (cs : List Int) (c : Int) (s7 : Slot), cs.length = j ∧ (∀ c ∈ cs, 0 ≤ c ∧ c < 5040) ∧ env = [.val (.lst (ns.map D.int)), .val (.int k), .val (.int m), .val (.lst (marks.map D.int)), .val (.int c), .no, .own (.lst (cs.map D.int)), s7])
      (ds := (List.range m).map fun i => D.int (i : Nat)) (j := 0) (env := [.val (.lst (ns.map D.int)), .val (.int k), .val (.int m), .val (.lst (marks.map D.int)), .val (.int cell), .no, .own (.lst []), .no]) ⟨[], cell, .no, rfl, by simp, rfl⟩ ?_
    · obtain ⟨e, h1, cs, c, s7, h2, h3, rfl⟩ := key
      refine ⟨cs, by simpa using h2, h3, fnS_rt ?_⟩
      unfold b_drawn
      refine (mSeq_nx (mSet_ok rfl)).trans ((mSeq_nx (mSet_ok rfl)).trans ((mSeq_nx (mSet_ok rfl)).trans ((mSeq_nx (mSet_ok rfl)).trans ((mSeq_nx (mSet_ok rfl)).trans ((mSeq_nx (mSet_ok rfl)).trans (first _ _ ?_))))))
      have h0 := ht .no .no .no
      rw [decide_eq_false hc] at h0
      refine (mSeq_nx (mIf_ff h0)).trans ?_
      refine (mSeq_nx (mSetN_ok (d := .lst []) rfl)).trans ?_
      refine (mSeq_nx ((mFor_ok (hrange _ _ _ _ _)).trans h1)).trans rfl
    · intro i d env hd ⟨cs, c, s7, h1, h2, h3⟩
      subst h3
      have hi : i < m := by
        have := (List.getElem?_eq_some_iff.mp hd).1
        simpa using this
      refine ⟨_, _, rfl, .inl ((mSeq_nx (e := [.val (.lst (ns.map D.int)), .val (.int k), .val (.int m), .val (.lst (marks.map D.int)), .val (.int c), .no, .own (.lst ((cs ++ [c % 5040]).map D.int)), .val d]) ?_).trans (mSet_ok (d := .int (c / 5040)) rfl)), cs ++ [c % 5040], c / 5040, .val d, by simp [h1], fun z hz => ?_, rfl⟩
      · refine (append_ok (ds := cs.map D.int) (d := .int (c % 5040)) rfl rfl (small_line (by rw [List.length_map]; omega))).trans ?_
        simp
      · rcases List.mem_append.mp hz with hz | hz
        · exact h2 z hz
        · simp only [List.mem_cons, List.not_mem_nil, or_false] at hz
          subst hz
          exact ⟨Int.emod_nonneg c (by decide), Int.emod_lt_of_pos c (by decide)⟩
/-! ### letters -/
def tx (cs : List Nat) : Str := ⟨cs.toArray⟩
def letters : List Nat := (List.range 26).map (65 + ·)
theorem abc : (Str.ofString "ABCDEFGHIJKLMNOPQRSTUVWXYZ") = tx letters := by decide +kernel
theorem tx_len (cs : List Nat) : (tx cs).length = cs.length := by
  show cs.toArray.size = _
  simp
theorem tx_list (cs : List Nat) : (tx cs).cps.toList = cs := by simp [tx]
theorem tx_app (a b : List Nat) : tx a ++ tx b = tx (a ++ b) := by
  show (⟨(tx a).cps ++ (tx b).cps⟩ : Str) = _
  simp [tx]
theorem len_tx {cs : List Nat} (h : cs.length ≤ 1000000) : lenD (.str (tx cs)) = .ok (.int cs.length) := by
  show (if (tx cs).length ≤ sizeLine then _ else _) = _
  rw [tx_len, if_pos (le_line h)]
theorem ix_tx {cs : List Nat} {j : Nat} {c : Nat} (h : cs.length ≤ 1000000) (hj : cs[j]? = some c) : ixD (.str (tx cs)) (.int (j : Int)) = .ok (.str (tx [c])) := by
  show (if (tx cs).length ≤ sizeLine then (match atI (tx cs).cps.toList (j : Int) with | some c => R.ok (D.str ⟨#[c]⟩) | none => R.stuck) else R.stuck) = _
  rw [tx_len, if_pos (le_line h), tx_list, atI_nat hj]
  rfl
theorem cut_to {cs : List Nat} {j : Nat} (h : cs.length ≤ 1000000) : slD (.str (tx cs)) none (some (j : Int)) = .ok (.str (tx (cs.take j))) := by
  show (if (tx cs).length ≤ sizeLine then R.ok (D.str (cutS (tx cs) none (some (j : Int)))) else R.stuck) = _
  rw [tx_len, if_pos (le_line h)]
  unfold cutS
  rw [tx_list, tx_len, HT.sIx_none, HT.sIx_nat, List.drop_zero, Nat.sub_zero]
  rw [show List.take (min j cs.length) cs = cs.take j from by
    rcases Nat.le_total j cs.length with h | h
    · rw [Nat.min_eq_left h]
    · rw [Nat.min_eq_right h, List.take_length, List.take_of_length_le h]]
  rfl
theorem cut_from {cs : List Nat} {j : Nat} (h : cs.length ≤ 1000000) : slD (.str (tx cs)) (some (j : Int)) none = .ok (.str (tx (cs.drop j))) := by
  show (if (tx cs).length ≤ sizeLine then R.ok (D.str (cutS (tx cs) (some (j : Int)) none)) else R.stuck) = _
  rw [tx_len, if_pos (le_line h)]
  unfold cutS
  rw [tx_list, tx_len, HT.sIx_none, HT.sIx_nat]
  rw [show List.take (cs.length - min j cs.length) (List.drop (min j cs.length) cs) = cs.drop j from by
    rcases Nat.le_total j cs.length with h | h
    · rw [Nat.min_eq_left h]
      exact List.take_of_length_le (by simp)
    · rw [Nat.min_eq_right h, List.drop_length, List.drop_eq_nil_of_le h, List.take_nil]]
  rfl
theorem add_tx {a b : List Nat} (h : a.length + b.length ≤ 1000000) : addD (.str (tx a)) (.str (tx b)) = .ok (.str (tx (a ++ b))) := by
  show (if (tx a).length + (tx b).length ≤ sizeLine then R.ok (D.str (tx a ++ tx b)) else R.stuck) = _
  rw [tx_len, tx_len, if_pos (le_line h), tx_app]
theorem pick_ok (cs : List Int) (m : Nat) (h : ∀ c ∈ cs, 0 ≤ c) (hm : m ≤ cs.length) (hm2 : m ≤ 26) :
    ∃ ls : List Nat, ls.length = m ∧ ls.Nodup ∧ (∀ l ∈ ls, 65 ≤ l ∧ l ≤ 90) ∧ fnS 6 b_pick [.lst (cs.map D.int), .int m] = .ok (true, .lst (ls.map fun c => .str (tx [c]))) := by
  have key := forL_ind (g := gN 4) (b := mSeq (mSet 5 (m2 modD (m1 intD (m2 ixD (mOwn 0) (mOwn 4))) (m1 lenD (mOwn 2)))) (mSeq (mOwn1 3 (tyL "list") appD (m2 ixD (mOwn 2) (mOwn 5))) (mSet 2 (m2 addD (mSl slD (mOwn 2) mNoPart (mPart (mVar 5))) (mSl slD (mOwn 2) (mPart (m2 addD (mOwn 5) (mC (.int 1)))) mNoPart)))))
    (fun j env => ∃ (fs rs : List Nat) (s4 s5 : Slot), fs.length = j ∧ rs.length + j = 26 ∧ (fs ++ rs).Nodup ∧ (∀ l ∈ fs ++ rs, 65 ≤ l ∧ l ≤ 90) ∧ env = [.val (.lst (cs.map D.int)), .val (.int m), .val (.str (tx rs)), .own (.lst (fs.map fun c => .str (tx [c]))), s4, s5])
    (ds := (List.range m).map fun i => D.int (i : Nat)) (j := 0) (env := [.val (.lst (cs.map D.int)), .val (.int m), .val (.str (tx letters)), .own (.lst []), .no, .no])
    ⟨[], letters, .no, .no, rfl, by decide, by decide, by decide, rfl⟩ ?_
  · obtain ⟨e, h1, fs, rs, s4, s5, h2, h3, h4, h5, rfl⟩ := key
    refine ⟨fs, by simpa using h2, (List.nodup_append.mp h4).1, fun l hl => h5 l (List.mem_append_left _ hl), fnS_rt ?_⟩
    unfold b_pick
    refine (mSeq_nx (mSet_ok rfl)).trans ?_
    rw [abc]
    refine (mSeq_nx (mSetN_ok (d := .lst []) rfl)).trans ?_
    refine (mSeq_nx ((mFor_ok (ds := (List.range m).map fun i => D.int (i : Nat)) ?_).trans h1)).trans rfl
    exact (m1_ok (a := [D.int m]) rfl).trans (rangeD_ok (by omega))
  · intro i d env hd ⟨fs, rs, s4, s5, h1, h2, h3, h4, h5⟩
    subst h5
    have hi : i < m := by
      have := (List.getElem?_eq_some_iff.mp hd).1
      simpa using this
    have ed : d = .int (i : Nat) := by
      rw [List.getElem?_map, List.getElem?_range hi] at hd
      exact (Option.some.inj hd).symm
    subst ed
    have hic : i < cs.length := by omega
    have hpos : 0 < rs.length := by omega
    obtain ⟨at_, hat⟩ : ∃ n : Nat, cs[i] % (rs.length : Int) = n := ⟨(cs[i] % (rs.length : Int)).toNat, by have := Int.emod_nonneg cs[i] (b := (rs.length : Int)) (by omega); omega⟩
    have hlt : at_ < rs.length := by
      have := Int.emod_lt_of_pos cs[i] (b := (rs.length : Int)) (by omega)
      omega
    have hsplit : rs = rs.take at_ ++ rs[at_] :: rs.drop (at_ + 1) := by
      rw [List.getElem_cons_drop, List.take_append_drop]
    have perm : (fs ++ rs).Perm ((fs ++ [rs[at_]]) ++ (rs.take at_ ++ rs.drop (at_ + 1))) := by
      conv => lhs; rw [hsplit]
      rw [List.append_assoc]
      refine List.Perm.append_left fs ?_
      exact List.perm_middle
    refine ⟨_, _, rfl, .inl ((mSeq_nx (mSet_ok (d := .int (at_ : Int)) ?_)).trans ((mSeq_nx (append_ok (ds := fs.map fun c => .str (tx [c])) (d := .str (tx [rs[at_]])) rfl ?_ (small_line (by rw [List.length_map]; omega)))).trans (mSet_ok (d := .str (tx (rs.take at_ ++ rs.drop (at_ + 1)))) ?_))),
      fs ++ [rs[at_]], rs.take at_ ++ rs.drop (at_ + 1), .val (.int (i : Nat)), .val (.int (at_ : Int)), by simp [h1], ?_, perm.nodup_iff.mp h3, fun l hl => h4 l (perm.mem_iff.mpr hl), ?_⟩
    · refine (m2_ok (a := D.int cs[i]) (b := D.int rs.length) ?_ (len_tx (by omega))).trans ?_
      · refine (m1_ok (a := D.int cs[i]) ?_).trans rfl
        have e : atI (cs.map D.int) (i : Int) = some (.int cs[i]) := atI_nat (by rw [List.getElem?_map, List.getElem?_eq_getElem hic]; rfl)
        show (match atI (cs.map D.int) (i : Int) with | some d => R.ok d | none => R.stuck) = _
        rw [e]
      · show (if (0 : Int) < (rs.length : Int) then R.ok (D.int (cs[i] % (rs.length : Int))) else R.stuck) = _
        rw [if_pos (by omega), hat]
    · exact (m2_ok (a := D.str (tx rs)) (b := D.int (at_ : Int)) rfl rfl).trans (ix_tx (by omega) (List.getElem?_eq_getElem hlt))
    · refine (m2_ok (a := D.str (tx (rs.take at_))) (b := D.str (tx (rs.drop (at_ + 1)))) ?_ ?_).trans (add_tx (by rw [List.length_take, List.length_drop]; omega))
      · exact cut_to (by omega)
      · exact cut_from (by omega)
    · rw [List.length_append, List.length_take, List.length_drop]
      omega
    · simp
end HL

namespace HL
open PySem PySem.Spec PyProof.Rows L2
def b_subsets  : HEnv → SO :=
  (mSeq (mSet 1 (mLstE (mCons (mTupE mNil) mNil)))
  (mSeq (mFor (m1 revItems (m1 listD (mOwn 0))) (gN 2)
  (mSet 1 (m2 addD (mComp [4] (m1 itemsD (mOwn 1)) (gN 4) mYes (m2 addD (mTupE (mCons (mVar 2) mNil)) (mOwn 4))) (mOwn 1))))
  (mRetN (mComp2 [3, 4] (m1 range1D (mCons (m2 addD (m1 lenD (mOwn 0)) (mC (.int 1))) mNil)) (gN 3) mYes (m1 itemsD (mVar 1)) [4] (gN 4) (m1 truB (m2 eqD (m1 lenD (mOwn 4)) (mOwn 3))) (mVar 4)))))
/-- lots -/
def b_lots (f_subsets : List D → R (Bool × D)) : HEnv → SO :=
  (mSeq (mIfS (m1 truB (m2 (cmpI fun i j => decide (j < i)) (m1 lenD (mOwn 0)) (mC (.int 4))))
  (mRaise "TooMany" "limit" (mC (.int 4)))
  mNext)
  (mRetN (mComp [1] (m1 itemsD (mCall f_subsets (mCons (m1 sortD (mComp [2] (m1 itemsD (mOwn 0)) (gN 2) mYes (m1 strD (mOwn 2)))) mNil))) (gN 1) (m1 truD (mOwn 1)) (mVar 1))))
theorem comp2L_flat {α β : Type} {i : Nat} {vs1 : List Nat} {i1 : Nat} {src1 : HEnv → R (List D)} {t1 : HEnv → R Bool} {el : HEnv → R D} {env : HEnv} {f : α → D} {fi h : β → D} {p : α → β → Bool} {ys : List β} : ∀ {xs : List α}, (∀ x ∈ xs, src1 (env.set i (.val (f x))) = .ok (ys.map fi)) →
    (∀ x ∈ xs, ∀ y ∈ ys, t1 ((wipeE (env.set i (.val (f x))) vs1).set i1 (.val (fi y))) = .ok (p x y)) → (∀ x ∈ xs, ∀ y ∈ ys, p x y = true → el ((wipeE (env.set i (.val (f x))) vs1).set i1 (.val (fi y))) = .ok (h y)) →
    comp2L (gN i) mYes src1 vs1 (gN i1) t1 el env (xs.map f) = .ok ((xs.flatMap fun x => ys.filter (p x)).map h)
  | [], _, _, _ => rfl
  | x :: xs, hs, ht, he => by
    have e0 := hs x List.mem_cons_self
    have e1 := compL_filter (i := i1) (t := t1) (el := el) (env := wipeE (env.set i (.val (f x))) vs1) (f := fi) (h := h) (p := p x) (xs := ys) (ht x List.mem_cons_self) (he x List.mem_cons_self)
    have e2 := comp2L_flat (i := i) (vs1 := vs1) (i1 := i1) (src1 := src1) (t1 := t1) (el := el) (env := env) (f := f) (fi := fi) (h := h) (p := p) (ys := ys) (xs := xs) (fun y hy => hs y (List.mem_cons_of_mem _ hy)) (fun y hy => ht y (List.mem_cons_of_mem _ hy)) fun y hy => he y (List.mem_cons_of_mem _ hy)
    simp only [List.map_cons, comp2L, gN, mYes, e0, e1, e2, List.flatMap_cons, List.map_append]
theorem mComp2_ok {vs : List Nat} {src : HEnv → R (List D)} {g : D → HEnv → R HEnv} {t : HEnv → R Bool} {src1 : HEnv → R (List D)} {vs1 : List Nat} {g1 : D → HEnv → R HEnv} {t1 : HEnv → R Bool} {el : HEnv → R D} {env : HEnv} {ds ys : List D} (h : src env = .ok ds) (k : comp2L g t src1 vs1 g1 t1 el (wipeE env vs) ds = .ok ys) (hz : ys.length ≤ 1000000) :
    mComp2 vs src g t src1 vs1 g1 t1 el env = .ok (.lst ys) := by
  unfold mComp2
  rw [h, R.bind_ok, k]
  exact if_pos (le_line hz)
/-! ### subsets -/
def subsR {α : Type} : List α → List (List α)
  | [] => [[]]
  | x :: xs => (subsR xs).map (x :: ·) ++ subsR xs
def sizes {α : Type} (xs : List α) : List (List α) := (List.range (xs.length + 1)).flatMap fun s => (subsR xs).filter fun r => r.length == s
theorem subsR_len {α : Type} : ∀ xs : List α, (subsR xs).length = 2 ^ xs.length
  | [] => rfl
  | x :: xs => by
    simp only [subsR, List.length_append, List.length_map, subsR_len xs, List.length_cons, Nat.pow_succ]
    omega
theorem subsR_le {α : Type} : ∀ {xs r : List α}, r ∈ subsR xs → r.length ≤ xs.length
  | [], r, h => by
    simp only [subsR, List.mem_cons, List.not_mem_nil, or_false] at h
    rw [h]
    exact Nat.le_refl _
  | x :: xs, r, h => by
    simp only [subsR, List.mem_append, List.mem_map] at h
    rcases h with ⟨q, hq, rfl⟩ | h
    · have := subsR_le hq
      simp only [List.length_cons]
      omega
    · have := subsR_le h
      simp only [List.length_cons]
      omega
theorem pow10 {n : Nat} (h : n ≤ 10) : 2 ^ n ≤ 1024 := Nat.pow_le_pow_right (by decide) h
theorem flat_len {α β : Type} {f : α → List β} {k : Nat} : ∀ {xs : List α}, (∀ x ∈ xs, (f x).length ≤ k) → (xs.flatMap f).length ≤ xs.length * k
  | [], _ => by simp
  | x :: xs, h => by
    have h1 := h x List.mem_cons_self
    have h2 := flat_len (f := f) (k := k) (xs := xs) fun y hy => h y (List.mem_cons_of_mem _ hy)
    simp only [List.flatMap_cons, List.length_append, List.length_cons, Nat.add_mul, Nat.one_mul]
    omega
theorem subsets_ok (xs : List D) (hx : xs.length ≤ 10) : fnS 5 b_subsets [.lst xs] = .ok (true, .lst ((sizes xs).map D.tup)) := by
  have key := forL_ind (g := gN 2) (b := mSet 1 (m2 addD (mComp [4] (m1 itemsD (mOwn 1)) (gN 4) mYes (m2 addD (mTupE (mCons (mVar 2) mNil)) (mOwn 4))) (mOwn 1)))
    (fun j env => ∃ s2, env = [.val (.lst xs), .val (.lst ((subsR (xs.drop (xs.length - j))).map D.tup)), s2, .no, .no])
    (ds := xs.reverse) (j := 0) (env := [.val (.lst xs), .val (.lst [.tup []]), .no, .no, .no]) ⟨.no, by simp [subsR]⟩ ?_
  · obtain ⟨e, h1, s2, rfl⟩ := key
    have e0 : xs.drop (xs.length - (0 + xs.reverse.length)) = xs := by simp
    rw [e0] at h1
    refine fnS_rt ?_
    unfold b_subsets
    refine (mSeq_nx (mSet_ok (d := .lst [.tup []]) rfl)).trans ?_
    refine (mSeq_nx ((mFor_ok (ds := xs.reverse) rfl).trans h1)).trans (mRetN_ok ?_)
    refine mComp2_ok (ds := (List.range (xs.length + 1)).map fun i => D.int (i : Nat)) ?_ (comp2L_flat (f := fun i : Nat => D.int (i : Nat)) (fi := D.tup) (h := D.tup) (p := fun s r => r.length == s) (ys := subsR xs) (fun s hs => rfl) (fun s hs r hr => ?_) fun s hs r hr _ => rfl) ?_
    · refine (m1_ok (a := [D.int ((xs.length : Nat) + 1)]) rfl).trans ?_
      exact rangeD_ok (n := xs.length + 1) (by omega)
    · refine (m1_ok (a := D.bl (r.length == s)) ?_).trans rfl
      refine (m2_ok (a := D.int r.length) (b := D.int s) rfl rfl).trans ?_
      show (if sim (.int (r.length : Int)) = true ∧ sim (.int (s : Int)) = true then R.ok (D.bl ((r.length : Int) == (s : Int))) else R.stuck) = _
      rw [if_pos ⟨rfl, rfl⟩]
      congr 2
      rw [Bool.eq_iff_iff]
      simp only [beq_iff_eq]
      omega
    · rw [List.length_map]
      have h1 := flat_len (f := fun s => (subsR xs).filter fun r => r.length == s) (k := 1024) (xs := List.range (xs.length + 1)) fun s _ => Nat.le_trans (List.length_filter_le _ _) (by rw [subsR_len]; exact pow10 hx)
      rw [List.length_range] at h1
      have : (xs.length + 1) * 1024 ≤ 11 * 1024 := Nat.mul_le_mul_right _ (by omega)
      exact Nat.le_trans h1 (by omega)
  · intro i d env hd ⟨s2, he⟩
    subst he
    rw [Nat.zero_add]
    have hi : i < xs.length := by
      have := (List.getElem?_eq_some_iff.mp hd).1
      simpa using this
    obtain ⟨_, hd2⟩ := rev_at hd
    have hdrop : xs.drop (xs.length - (i + 1)) = d :: xs.drop (xs.length - i) := by
      have e1 : xs.length - (i + 1) = xs.length - 1 - i := by omega
      have hlt : xs.length - 1 - i < xs.length := by omega
      rw [e1, List.drop_eq_getElem_cons hlt]
      rw [List.getElem?_eq_getElem hlt] at hd2
      rw [Option.some.inj hd2]
      congr 2
      omega
    have hlen : (subsR (xs.drop (xs.length - i))).length ≤ 1024 := by
      rw [subsR_len]
      exact pow10 (by rw [List.length_drop]; omega)
    refine ⟨_, _, rfl, .inl (mSet_ok (d := .lst ((subsR (d :: xs.drop (xs.length - i))).map D.tup)) ?_), .val d, by rw [hdrop]; rfl⟩
    refine (m2_ok (a := D.lst (((subsR (xs.drop (xs.length - i))).map (d :: ·)).map D.tup)) (b := D.lst ((subsR (xs.drop (xs.length - i))).map D.tup)) ?_ rfl).trans ?_
    · refine mComp_ok (ds := (subsR (xs.drop (xs.length - i))).map D.tup) rfl ?_
      rw [List.map_map]
      refine compL_map fun r hr => ?_
      refine (m2_ok (a := D.tup [d]) (b := D.tup r) rfl rfl).trans ?_
      have hrl := subsR_le hr
      rw [List.length_drop] at hrl
      exact if_pos (le_line (by simp only [List.length_cons, List.length_nil]; omega))
    · refine (if_pos (le_line (by simp only [List.length_map]; omega))).trans ?_
      rw [subsR, List.map_append]
/-! ### lots -/
theorem strsD_map : ∀ xs : List Str, strsD (xs.map D.str) = some xs
  | [] => rfl
  | x :: xs => by
    show (strsD (xs.map D.str)).map (x :: ·) = _
    rw [strsD_map xs]
    rfl
theorem sortS_length (xs : List Str) : (sortS xs).length = xs.length := (sortS_perm (xs := xs)).length_eq
def given : Bool → List D → D
  | true, xs => .tup xs
  | false, xs => .lst xs
def lotsOf (xs : List Str) : List (List D) := (sizes ((sortS xs).map D.str)).filter fun r => !r.isEmpty
theorem lots_big (b : Bool) (xs : List Str) (h : 4 < xs.length) : fnS 3 (b_lots (fnS 5 b_subsets)) [given b (xs.map D.str)] = .er ⟨"TooMany", "limit", .int 4⟩ := by
  have hl : m1 lenD (mOwn 0) [Slot.val (given b (xs.map D.str)), .no, .no] = .ok (.int xs.length) := by
    cases b <;> (show R.ok (D.int ((xs.map D.str).length : Nat)) = _; rw [List.length_map])
  have ht : (m1 truB (m2 (cmpI fun i j => decide (j < i)) (m1 lenD (mOwn 0)) (mC (.int 4)))) [Slot.val (given b (xs.map D.str)), .no, .no] = .ok true := by
    refine (m1_ok (a := D.bl true) ?_).trans rfl
    refine (m2_ok (a := D.int xs.length) (b := D.int 4) hl rfl).trans ?_
    show R.ok (D.bl (decide ((4 : Int) < (xs.length : Int)))) = _
    rw [decide_eq_true (by omega)]
  refine fnS_er (e := [Slot.val (given b (xs.map D.str)), .no, .no]) ?_
  unfold b_lots
  refine mSeq_er ?_
  refine (mIf_tt ht).trans ?_
  refine (sB_ok (a := D.int 4) rfl).trans (if_pos ?_)
  decide
theorem lots_ok (b : Bool) (xs : List Str) (h : xs.length ≤ 4) : fnS 3 (b_lots (fnS 5 b_subsets)) [given b (xs.map D.str)] = .ok (true, .lst ((lotsOf xs).map D.tup)) := by
  have hl : m1 lenD (mOwn 0) [Slot.val (given b (xs.map D.str)), .no, .no] = .ok (.int xs.length) := by
    cases b <;> (show R.ok (D.int ((xs.map D.str).length : Nat)) = _; rw [List.length_map])
  have ht : (m1 truB (m2 (cmpI fun i j => decide (j < i)) (m1 lenD (mOwn 0)) (mC (.int 4)))) [Slot.val (given b (xs.map D.str)), .no, .no] = .ok false := by
    refine (m1_ok (a := D.bl false) ?_).trans rfl
    refine (m2_ok (a := D.int xs.length) (b := D.int 4) hl rfl).trans ?_
    show R.ok (D.bl (decide ((4 : Int) < (xs.length : Int)))) = _
    rw [decide_eq_false (by omega)]
  refine fnS_rt ?_
  unfold b_lots
  refine (mSeq_nx ((mIf_ff ht).trans rfl)).trans (mRetN_ok ?_)
  refine mComp_ok (ds := (sizes ((sortS xs).map D.str)).map D.tup) ?_ ?_
  · refine (m1_ok (a := D.lst ((sizes ((sortS xs).map D.str)).map D.tup)) ?_).trans rfl
    unfold mCall
    have e : (mCons (m1 sortD (mComp [2] (m1 itemsD (mOwn 0)) (gN 2) mYes (m1 strD (mOwn 2)))) mNil) [Slot.val (given b (xs.map D.str)), .no, .no] = .ok [.lst ((sortS xs).map D.str)] := by
      refine mCons_ok (d := D.lst ((sortS xs).map D.str)) (ds := []) ?_ rfl
      refine (m1_ok (a := D.lst (xs.map D.str)) ?_).trans ?_
      · refine mComp_ok (ds := xs.map D.str) ?_ (compL_map (f := D.str) (h := D.str) fun x hx => rfl)
        cases b <;> rfl
      · show (match strsD (xs.map D.str) with | some xs => if xs.length < 64 then R.ok (D.lst ((sortS xs).map D.str)) else R.stuck | none => R.stuck) = _
        rw [strsD_map]
        exact if_pos (by omega)
    rw [e, R.bind_ok, subsets_ok _ (by rw [List.length_map, sortS_length]; omega)]
    rfl
  · exact compL_filter (f := D.tup) (h := D.tup) (p := fun r => !r.isEmpty) (fun r _ => rfl) fun r _ _ => rfl
end HL

namespace HL
open PySem PySem.Spec PyProof.Rows L2
/-! ### sorted names, their lots -/
def nm (c : Nat) : D := .str (tx [c])
theorem nm_map (ls : List Nat) : ls.map nm = (ls.map fun c => tx [c]).map D.str := by rw [List.map_map]; rfl
theorem ltCps_one (a b : Nat) : ltCps [a] [b] = decide (a < b) := by
  simp [ltCps]
theorem leS_tx (a b : Nat) : leS (tx [a]) (tx [b]) = decide (a ≤ b) := by
  unfold leS
  rw [tx_list, tx_list, ltCps_one]
  by_cases h : b < a
  · rw [decide_eq_true h, decide_eq_false (by omega)]
    rfl
  · rw [decide_eq_false h, decide_eq_true (by omega)]
    rfl
def insN (x : Nat) : List Nat → List Nat
  | [] => [x]
  | y :: ys => if x ≤ y then x :: y :: ys else y :: insN x ys
def sortN : List Nat → List Nat
  | [] => []
  | x :: xs => insN x (sortN xs)
theorem insS_tx (x : Nat) : ∀ ys : List Nat, insS (tx [x]) (ys.map fun c => tx [c]) = (insN x ys).map fun c => tx [c]
  | [] => rfl
  | y :: ys => by
    simp only [List.map_cons, insS, insN, leS_tx, decide_eq_true_eq]
    by_cases h : x ≤ y
    · rw [if_pos h, if_pos h]
      rfl
    · rw [if_neg h, if_neg h, insS_tx x ys]
      rfl
theorem sortS_tx : ∀ xs : List Nat, sortS (xs.map fun c => tx [c]) = (sortN xs).map fun c => tx [c]
  | [] => rfl
  | x :: xs => by
    simp only [List.map_cons, sortS, sortN]
    rw [sortS_tx xs, insS_tx]
theorem insN_perm {x : Nat} : ∀ {ys : List Nat}, (insN x ys).Perm (x :: ys)
  | [] => List.Perm.refl _
  | y :: ys => by
    simp only [insN]
    split
    · exact List.Perm.refl _
    · exact ((insN_perm (x := x) (ys := ys)).cons y).trans (List.Perm.swap x y ys)
theorem sortN_perm : ∀ {xs : List Nat}, (sortN xs).Perm xs
  | [] => List.Perm.refl _
  | x :: xs => insN_perm.trans ((sortN_perm (xs := xs)).cons x)
theorem insN_sorted {x : Nat} : ∀ {ys : List Nat}, ys.Pairwise (· ≤ ·) → (insN x ys).Pairwise (· ≤ ·)
  | [], _ => by simp [insN]
  | y :: ys, h => by
    simp only [insN]
    rw [List.pairwise_cons] at h
    split
    · rename_i hxy
      refine List.pairwise_cons.mpr ⟨fun z hz => ?_, List.pairwise_cons.mpr h⟩
      rcases List.mem_cons.mp hz with rfl | hz
      · exact hxy
      · exact Nat.le_trans hxy (h.1 z hz)
    · rename_i hxy
      refine List.pairwise_cons.mpr ⟨fun z hz => ?_, insN_sorted h.2⟩
      rcases List.mem_cons.mp (insN_perm.mem_iff.mp hz) with rfl | hz
      · omega
      · exact h.1 z hz
theorem sortN_sorted : ∀ {xs : List Nat}, (sortN xs).Pairwise (· ≤ ·)
  | [] => List.Pairwise.nil
  | x :: xs => insN_sorted sortN_sorted
theorem sortN_lt {xs : List Nat} (h : xs.Nodup) : (sortN xs).Pairwise (· < ·) := by
  have h1 := sortN_sorted (xs := xs)
  have h2 : (sortN xs).Nodup := sortN_perm.nodup_iff.mpr h
  refine (h1.and h2).imp fun ⟨a, b⟩ => ?_
  exact Nat.lt_of_le_of_ne a b
theorem subsR_map {α β : Type} (f : α → β) : ∀ xs : List α, subsR (xs.map f) = (subsR xs).map (·.map f)
  | [] => rfl
  | x :: xs => by
    simp only [List.map_cons, subsR, subsR_map f xs, List.map_append, List.map_map]
    rfl
theorem sizes_map {α β : Type} (f : α → β) (xs : List α) : sizes (xs.map f) = (sizes xs).map (·.map f) := by
  unfold sizes
  rw [List.length_map, subsR_map, List.map_flatMap]
  congr 1
  funext s
  rw [List.filter_map]
  congr 1
  refine List.filter_congr fun r _ => ?_
  simp
def lotsN (S : List Nat) : List (List Nat) := (sizes S).filter fun r => !r.isEmpty
theorem lotsOf_nm (ls : List Nat) : lotsOf (ls.map fun c => tx [c]) = (lotsN (sortN ls)).map (·.map nm) := by
  unfold lotsOf lotsN
  rw [sortS_tx, ← nm_map, sizes_map, List.filter_map]
  congr 1
  refine List.filter_congr fun r _ => ?_
  simp
theorem subsR_sub {α : Type} : ∀ {xs r : List α}, r ∈ subsR xs → r.Sublist xs
  | [], r, h => by
    simp only [subsR, List.mem_cons, List.not_mem_nil, or_false] at h
    rw [h]
    exact List.Sublist.refl _
  | x :: xs, r, h => by
    simp only [subsR, List.mem_append, List.mem_map] at h
    rcases h with ⟨q, hq, rfl⟩ | h
    · exact (subsR_sub hq).cons₂ x
    · exact (subsR_sub h).cons x
theorem lotsN_sub {S r : List Nat} (h : r ∈ lotsN S) : r.Sublist S ∧ r ≠ [] := by
  unfold lotsN sizes at h
  obtain ⟨h1, h2⟩ := List.mem_filter.mp h
  obtain ⟨s, _, h3⟩ := List.mem_flatMap.mp h1
  exact ⟨subsR_sub (List.mem_filter.mp h3).1, by rintro rfl; simp at h2⟩
/-- shorter, or as long and ahead in the order -/
def lotLt (r s : List Nat) : Prop := r.length < s.length ∨ (r.length = s.length ∧ r < s)
def chainL : List (List Nat) → Prop
  | [] => True
  | [_] => True
  | x :: y :: r => lotLt x y ∧ chainL (y :: r)
theorem ch : ∀ {l : List (List Nat)}, chainL l → ∀ k : Nat, ∀ r s, l[k]? = some r → l[k + 1]? = some s → lotLt r s
  | [], _, k, r, s, h, _ => by simp at h
  | [x], _, k, r, s, _, h => by simp at h
  | x :: y :: l, hc, 0, r, s, h1, h2 => by
    simp at h1 h2
    subst h1 h2
    exact hc.1
  | x :: y :: l, hc, k + 1, r, s, h1, h2 => ch (l := y :: l) hc.2 k r s (by simpa using h1) (by simpa using h2)
theorem lots_chain {S : List Nat} (h : S.Pairwise (· < ·)) (hl : S.length ≤ 4) : (lotsN S).length = [0, 1, 3, 7, 15].getD S.length 0 ∧ ∀ k : Nat, ∀ r s, (lotsN S)[k]? = some r → (lotsN S)[k + 1]? = some s → lotLt r s := by
  match S, hl with
  | [], _ => exact ⟨rfl, ch (by rw [show lotsN [] = [] from rfl]; trivial)⟩
  | [a], _ => exact ⟨rfl, ch (by rw [show lotsN [a] = [[a]] from rfl]; trivial)⟩
  | [a, b], _ =>
    have : a < b := by simp at h; omega
    exact ⟨rfl, ch (by rw [show lotsN [a, b] = [[a], [b], [a, b]] from rfl]; simp only [chainL, lotLt]; (simp [List.cons_lt_cons_iff] <;> omega))⟩
  | [a, b, c], _ =>
    have : a < b ∧ b < c := by simp at h; omega
    exact ⟨rfl, ch (by rw [show lotsN [a, b, c] = [[a], [b], [c], [a, b], [a, c], [b, c], [a, b, c]] from rfl]; simp only [chainL, lotLt]; (simp [List.cons_lt_cons_iff] <;> omega))⟩
  | [a, b, c, d], _ =>
    have : a < b ∧ b < c ∧ c < d := by simp at h; omega
    exact ⟨rfl, ch (by rw [show lotsN [a, b, c, d] = [[a], [b], [c], [d], [a, b], [a, c], [a, d], [b, c], [b, d], [c, d], [a, b, c], [a, b, d], [a, c, d], [b, c, d], [a, b, c, d]] from rfl]; simp only [chainL, lotLt]; (simp [List.cons_lt_cons_iff] <;> omega))⟩
  | a :: b :: c :: d :: e :: r, hl => simp at hl
/-! ### names in the order, in a list -/
theorem inL_nm {c : Nat} : ∀ {ls : List Nat}, c ∈ ls → inL (nm c) (ls.map nm) = true
  | l :: ls, h => by
    simp only [List.map_cons, inL, Bool.or_eq_true]
    rcases List.mem_cons.mp h with rfl | h
    · exact .inl (deq_refl (nm c) (n := 50) rfl)
    · exact .inr (inL_nm h)
theorem simpL_nm {n : Nat} (ls : List Nat) : simpL? n (ls.map nm) = true := by rw [nm_map]; exact simpL_strs _
theorem in_nm {c : Nat} {ls : List Nat} (h : c ∈ ls) : inN false (nm c) (.lst (ls.map nm)) = .ok (.bl true) := by
  show (if sim (nm c) = true ∧ simpL? 50 (ls.map nm) = true then R.ok (inL (nm c) (ls.map nm)) else R.stuck).bind (fun b => R.ok (D.bl (if false = true then !b else b))) = _
  rw [if_pos ⟨rfl, simpL_nm ls⟩, inL_nm h]
  rfl
theorem lt_nm {a b : Nat} (h : a < b) : ltD (nm a) (nm b) = .ok (.bl true) := by
  show (if sim (nm a) = true ∧ sim (nm b) = true ∧ cmpOk (nm a) (nm b) = true then R.ok (D.bl (dltB (nm a) (nm b))) else R.stuck) = _
  rw [if_pos ⟨rfl, rfl, rfl⟩]
  show R.ok (D.bl (decide ((tx [a]).cps.toList < (tx [b]).cps.toList))) = _
  rw [tx_list, tx_list, decide_eq_true]
  exact List.Lex.rel h
end HL

namespace HL
open PySem PySem.Spec PyProof.Rows L2
section
variable {X : Cx} {cl : Cl} {W : WX} {pos apos cpos : Pos} {a b c e o i : Expr} {ma mb mc : HEnv → R D}
/-! ### a < b < c -/
def mChain (f g : D → D → R D) (ma mb mc : HEnv → R D) : HEnv → R D := fun env => (ma env).bind fun x => (mb env).bind fun y => (f x y).bind fun r => (truB r).bind fun k => if k = true then (mc env).bind fun z => g y z else .ok (.bl false)
theorem PostG.bind_ok {α γ δ : Type} {rel : Rel γ δ} {r : R α} {f : α → R γ} {a : α} {F H : Hp} {σ : L2.St} {Q : δ → Hp → Prop} (h : PostG cl rel W (r.bind f) F σ H Q) (e : r = .ok a) : PostG cl rel W (f a) F σ H Q := by rw [e] at h; exact h
theorem read_chain {f g : D → D → R D} {r r' : R2} (hf : Op2 cl (relF cl) f r) (hg : Op2 cl (relF cl) g r') {σ : L2.St} {H : Hp} {Q : VK} (q : tF cl W (mChain f g ma mb mc) σ H Q) : tChain r r' (tB cl W ma) (tB cl W mb) (tB cl W mc) σ H Q := by
  obtain ⟨F0, H0, F, env, s, q⟩ := q
  refine ⟨F0, H0, F, env, s, ?_⟩
  unfold mChain at q
  cases em : ma env with
  | er x => rw [em] at q; exact q
  | stuck => rw [em] at q; exact q.elim
  | ok x =>
    replace q := PostG.bind_ok q em
    intro v F1 H1 k1 s1 r1
    refine ⟨F0, H0, F1, env, s.step k1 s1, ?_⟩
    replace q := PostG.step oldF q k1
    cases en : mb env with
    | er x => rw [en] at q; exact q
    | stuck => rw [en] at q; exact q.elim
    | ok y =>
      replace q := PostG.bind_ok q en
      intro u F2 H2 k2 s2 r2
      replace q := PostG.step oldF q k2
      refine hf W F2 H2 x y v u _ σ s2 (BRep.kp k2 r1) r2 ?_
      cases ef : f x y with
      | er z => rw [ef] at q; exact q
      | stuck => rw [ef] at q; exact q.elim
      | ok d =>
        replace q := PostG.bind_ok q ef
        intro w F3 H3 k3 s3 r3
        replace q := PostG.step oldF q k3
        cases d with
        | bl k =>
          refine ⟨k, RepIn.bl r3, ?_⟩
          cases k with
          | false =>
            rw [if_neg (by decide)]
            exact PostG.done (rel := relF cl) (d := .bl false) q s3 (by simp only [relF, Rep])
          | true =>
            rw [if_pos rfl]
            refine ⟨F0, H0, F3, env, ((s.step k1 s1).step k2 s2).step k3 s3, ?_⟩
            replace q : PostG cl (relF cl) W ((mc env).bind fun z => g y z) F3 σ H3 Q := q
            cases eo : mc env with
            | er z => rw [eo] at q; exact q
            | stuck => rw [eo] at q; exact q.elim
            | ok z =>
              replace q := PostG.bind_ok q eo
              intro t F4 H4 k4 s4 r4
              exact hg W F4 H4 y z u t _ σ s4 (BRep.kp k4 (BRep.kp k3 r2)) r4 (PostG.step oldF q k4)
        | _ => exact q.elim
theorem d_chain {op op' : CmpOp} {f g : D → D → R D} {r r' : R2} (ho : OpR X (compareOp op) r) (hf : Op2 cl (relF cl) f r) (ho' : OpR X (compareOp op') r') (hg : Op2 cl (relF cl) g r') (ha : PE X a (tB cl W ma)) (hb : PE X b (tB cl W mb)) (hc : PE X c (tB cl W mc))
    (hm : lastMarks [op, op'] [b, c] = false := by with_unfolding_all rfl) : PE X (.Compare a [op, op'] [b, c] pos) (tF cl W (mChain f g ma mb mc)) := pe_weak (pe_chain ho ho' ha hb hc hm) fun σ H Q q => read_chain hf hg q
theorem dt_chain {op op' : CmpOp} {f g : D → D → R D} {r r' : R2} (ho : OpR X (compareOp op) r) (hf : Op2 cl (relF cl) f r) (ho' : OpR X (compareOp op') r') (hg : Op2 cl (relF cl) g r') (ha : PE X a (tB cl W ma)) (hb : PE X b (tB cl W mb)) (hc : PE X c (tB cl W mc))
    (hm : lastMarks [op, op'] [b, c] = false := by with_unfolding_all rfl) : PT X (.Compare a [op, op'] [b, c] pos) (tT cl W (m1 truB (mChain f g ma mb mc))) := by
  refine pt_weak (pt_chain ho ho' ha hb hc hm) fun σ H Q q => ?_
  refine read_chain hf hg ?_
  refine read1 (rel := relF cl) (r := fun x H1 Q => ∃ c, x = V.bl c ∧ Q c H1) oldT (fun Hs F H d v Q σ s r p => ?_) q
  cases d with
  | bl b => exact ⟨b, RepIn.bl r, PostG.done p s rfl⟩
  | _ => exact p.elim

/-! ### methods of a text -/
def StrR (cl : Cl) (f : D → R D) (r : V → List V → Hp → VK → Prop) : Prop := ∀ (W : WX) (F H : Hp) (y : Str) (Q : VK) (σ : L2.St), Sub F H → PostG cl (relF cl) W (f (.str y)) F σ H Q → r (.str y) [] H Q
def onStr (f : Str → R D) : D → R D
  | .str x => f x
  | _ => .stuck
theorem d_str0 {id : String} {name : Str} {r : V → List V → Hp → VK → Prop} {f : Str → R D} (slot : PySem.Slot "str" name id) (hty : typeOf (.builtin id) = pure (.type "method_descriptor")) (hm : MtR X id r) (hf : StrR cl (onStr f) r) (ho : PE X o (tB cl W ma))
    (h1 : attributeBase o name X.env (eval o X.env) = eval o X.env := by rfl) (h3 : (apos.endLine == cpos.line) = true := by rfl) : PE X (.Call (.Attribute o name apos) [] [] cpos) (tF cl W (m1 (onStr f) ma)) := by
  refine pe_weak (pe_bm0 PySem.F.plainAttrs_str slot hty hm ho h1 h3) fun σ H Q q => ?_
  refine read1 (rel := relB cl) (r := fun x H1 Q => tyV X.K "str" x H1 ∧ r x [] H1 Q) oldF (fun Hs F H d v Q σ s rr p => ?_) q
  cases d with
  | str y =>
    obtain rfl := BRep.str rr
    exact ⟨rfl, hf W F H y Q σ s p⟩
  | _ => exact p.elim
def isalphaS (x : Str) : R D := .ok (.bl (Txt.isalpha x))
def islowerS (x : Str) : R D := .ok (.bl (Txt.islower x))
def isdigitS (x : Str) : R D := .ok (.bl (Txt.isdigit x))
def lowerS (x : Str) : R D := if x.length ≤ 5592405 then .ok (.str (Txt.lower x)) else .stuck
theorem isalpha_s : StrR cl (onStr isalphaS) (fun x xs H Q => ∃ a, x = .str a ∧ xs = [] ∧ True ∧ Q (.bl (Txt.isalpha a)) H) := fun W F H y Q σ s p => ⟨y, rfl, rfl, trivial, PostG.done p s (by simp only [relF, Rep])⟩
theorem islower_s : StrR cl (onStr islowerS) (fun x xs H Q => ∃ a, x = .str a ∧ xs = [] ∧ True ∧ Q (.bl (Txt.islower a)) H) := fun W F H y Q σ s p => ⟨y, rfl, rfl, trivial, PostG.done p s (by simp only [relF, Rep])⟩
theorem isdigit_s : StrR cl (onStr isdigitS) (fun x xs H Q => ∃ a, x = .str a ∧ xs = [] ∧ True ∧ Q (.bl (Txt.isdigit a)) H) := fun W F H y Q σ s p => ⟨y, rfl, rfl, trivial, PostG.done p s (by simp only [relF, Rep])⟩
theorem lower_s : StrR cl (onStr lowerS) (fun x xs H Q => ∃ a, x = .str a ∧ xs = [] ∧ a.length ≤ 5592405 ∧ Q (.str (Txt.lower a)) H) := fun W F H y Q σ s p => by
  replace p : PostG cl (relF cl) W (if y.length ≤ 5592405 then R.ok (D.str (Txt.lower y)) else R.stuck) F σ H Q := p
  split at p
  · rename_i h
    exact ⟨y, rfl, rfl, h, PostG.done p s (by simp only [relF, Rep])⟩
  · exact p.elim

/-! ### xs[i] = e, of one's own -/
def putL (i : Nat) (ds : List D) (v k : D) (env : HEnv) : SO := match k with
  | .int j => match ixN ds.length j with
    | some n => .nx (env.set i (.own (.lst (ds.set n v))))
    | none => .stuck
  | _ => .stuck
def mPutL (i : Nat) (mk mv : HEnv → R D) : HEnv → SO := fun env => match env[i]? with
  | some (.own (.lst ds)) => sB mv (fun v env => sB mk (fun k env => putL i ds v k env) env) env
  | _ => .stuck
theorem RepL.set {F : Hp} : ∀ {ds : List D} {vs : List V} {n : Nat} {d : D} {v : V}, RepL cl F ds vs → Rep cl F d v → RepL cl F (ds.set n d) (vs.set n v)
  | [], vs, n, d, v, h, r => by simp only [RepL] at h; subst h; simp only [List.set_nil, RepL]
  | c :: ds, vs, 0, d, v, h, r => by
    simp only [RepL] at h
    obtain ⟨u, s, rfl, a, b⟩ := h
    simp only [List.set_cons_zero, RepL]
    exact ⟨v, s, rfl, r, b⟩
  | c :: ds, vs, n + 1, d, v, h, r => by
    simp only [RepL] at h
    obtain ⟨u, s, rfl, a, b⟩ := h
    simp only [List.set_cons_succ, RepL]
    exact ⟨u, s.set n v, rfl, a, RepL.set b r⟩
theorem ds_putL {k : Nat} {tp : Pos} (he : PE X e (tF cl W mb)) (ho : PE X o (tVar k)) (hi : PE X i (tF cl W ma)) (hs : swapsWithSole [.Subscript o i tp] e pos.line X.env = pure false := by rfl) (hw : swappedStores [.Subscript o i tp] e X.env = pure none := by rfl)
    (h1 : (assignEach [.Subscript o i tp] X.env).map (·.2) = [assign (.Subscript o i tp) X.env] := by rfl) (h2 : ∀ v, assign (.Subscript o i tp) X.env v = (do
      let ov ← holding [v] (eval o X.env)
      let iv ← holding [v, ov] (eval i X.env)
      standAt tp
      holding [v, ov, iv] (setItem ov iv v)
      release [v, ov, iv] []) := by intro _; rfl) : PS X (.Assign [.Subscript o i tp] e pos) (tS cl W (mPutL k ma mb)) := by
  refine ps_weak (ps_asg he (pg_sub ho hi set_list h2) hs hw h1) fun Dn σ H q => ?_
  obtain ⟨F0, H0, F, env, s, q⟩ := q
  refine ⟨F0, H0, F, env, s, ?_⟩
  unfold mPutL at q
  split at q
  case h_2 => exact q.elim
  rename_i ds ei
  unfold sB at q
  cases em : mb env with
  | er x =>
    rw [em] at q
    exact fun cls dd F' H' k' s' r => q cls dd σ F' H' k'.ext (s.step k' s') r
  | stuck => rw [em] at q; exact q.elim
  | ok d =>
    rw [em] at q
    simp only at q
    intro v F1 H1 k1 s1 r1
    replace q := PostS.ext q k1.ext
    have st1 := s.step k1 s1
    obtain ⟨p, hsi, hf, h0, u, hu, ⟨vs, rfl, rl, z⟩, mu⟩ := st1.own k _ (oL_own ei)
    refine ⟨.ref p, hsi, ?_⟩
    refine ⟨F0, H0, F1, env, st1, ?_⟩
    cases en : ma env with
    | er x =>
      rw [en] at q
      exact fun cls dd F' H' k' s' r => q cls dd σ F' H' k'.ext (st1.step k' s') r
    | stuck => rw [en] at q; exact q.elim
    | ok kd =>
      rw [en] at q
      simp only at q
      intro w F2 H2 k2 s2 r2
      have st2 := st1.step k2 s2
      unfold putL at q
      split at q
      case h_2 => exact q.elim
      rename_i j
      split at q
      case h_2 => exact q.elim
      rename_i n hn
      refine ⟨p, vs, j, n, rfl, RepIn.int r2, k2.same _ _ hu, by rw [rl.len]; exact hn, ?_⟩
      have q2 := PostS.ext q k2.ext
      exact q2 σ F2 _ (Ext.refl F2) (st2.writeOwn ei hsi (k2.fr p _ hu hf) h0 ⟨_, rfl, (rl.ext k2.ext).set (r1.ext k2.ext), by rw [List.length_set]; exact z⟩ rfl)
end
end HL

namespace HL
open PySem PySem.Spec PyProof.Rows L2
/-! ### columns -/
def uniB (c : Nat) : Bool := (Unicode.isAlpha c == ((decide (65 ≤ c) && decide (c ≤ 90)) || (decide (97 ≤ c) && decide (c ≤ 122)))) && (Unicode.isLower c == (decide (97 ≤ c) && decide (c ≤ 122))) && (Unicode.isUpper c == (decide (65 ≤ c) && decide (c ≤ 90))) && !Unicode.isTitle c
theorem uni_all : ((List.range 127).filter (32 ≤ ·)).all uniB = true := by decide +kernel
theorem uni {c : Nat} (h1 : 32 ≤ c) (h2 : c < 127) : Unicode.isAlpha c = ((decide (65 ≤ c) && decide (c ≤ 90)) || (decide (97 ≤ c) && decide (c ≤ 122))) ∧ Unicode.isLower c = (decide (97 ≤ c) && decide (c ≤ 122)) ∧ Unicode.isUpper c = (decide (65 ≤ c) && decide (c ≤ 90)) ∧ Unicode.isTitle c = false := by
  have h := List.all_eq_true.mp uni_all c (List.mem_filter.mpr ⟨List.mem_range.mpr h2, by simpa using h1⟩)
  unfold uniB at h
  simp only [Bool.and_eq_true, beq_iff_eq, Bool.not_eq_true'] at h
  exact ⟨h.1.1.1, h.1.1.2, h.1.2, h.2⟩
def b_is_column  : HEnv → SO :=
  (mRet (mAndV (mChain (cmpI fun i j => decide (i ≤ j)) (cmpI fun i j => decide (i ≤ j)) (mC (.int 1)) (m1 lenD (mOwn 0)) (mC (.int 6))) (mAndV (m1 (onStr isalphaS) (mOwn 0)) (m1 (onStr islowerS) (mOwn 0)))))
def b_head_of (f_is_column : List D → R (Bool × D)) : HEnv → SO :=
  (mSeq (mIfS (m1 truB (m2 (cmpI fun i j => decide (j < i)) (m1 lenD (mOwn 0)) (mC (.int 24))))
  (mRaise "TooMany" "limit" (mC (.int 24)))
  mNext)
  (mSeq (mFor (m1 range1D (mCons (m1 lenD (mOwn 0)) mNil)) (gN 1)
  (mIfS (mOrT (mNotT (m1 truD (mCall f_is_column (mCons (m2 ixD (mOwn 0) (mOwn 1)) mNil)))) (m1 truB (m2 (inN false) (m2 ixD (mOwn 0) (mOwn 1)) (mSl slD (mOwn 0) mNoPart (mPart (mVar 1))))))
  (mRaise "BadHead" "column" (m2 ixD (mOwn 0) (mOwn 1)))
  mNext))
  (mRet (m1 tupleD (m1 sortD (mComp [2] (m1 itemsD (mOwn 0)) (gN 2) mYes (m1 strD (mOwn 2))))))))
/-- of plain signs only, not long -/
def Asc (x : Str) : Prop := (∀ c ∈ x.cps.toList, 32 ≤ c ∧ c < 127) ∧ x.length ≤ 1000
def low (c : Nat) : Bool := decide (97 ≤ c) && decide (c ≤ 122)
def isCol (x : Str) : Bool := (decide (1 ≤ x.length) && decide (x.length ≤ 6)) && x.cps.toList.all low
theorem isCol_unicode {x : Str} (h : Asc x) : (Txt.isalpha x && Txt.islower x) = (decide (0 < x.length) && x.cps.toList.all low) := by
  have hall : ∀ c ∈ x.cps.toList, (Unicode.isAlpha c && !(Unicode.isUpper c || Unicode.isTitle c)) = low c := fun c hc => by
    obtain ⟨h1, h2⟩ := h.1 c hc
    obtain ⟨a, b, d, e⟩ := uni h1 h2
    rw [a, d, e]
    unfold low
    rw [Bool.eq_iff_iff]
    simp
    omega
  have hlow : ∀ c ∈ x.cps.toList, Unicode.isLower c = low c := fun c hc => by
    obtain ⟨h1, h2⟩ := h.1 c hc
    exact (uni h1 h2).2.1
  have hlen : x.length = x.cps.toList.length := by
    show x.cps.size = _
    simp
  unfold Txt.isalpha Txt.islower
  rw [← Array.all_toList, ← Array.any_toList, ← Array.any_toList, hlen]
  generalize x.cps.toList = l at hall hlow ⊢
  rw [Bool.eq_iff_iff]
  simp only [Bool.and_eq_true, decide_eq_true_eq, List.all_eq_true, List.any_eq_true, Bool.not_eq_true', List.any_eq_false]
  constructor
  · rintro ⟨⟨h1, h2⟩, _, h4⟩
    refine ⟨h1, fun c hc => ?_⟩
    rw [← hall c hc, h2 c hc]
    have := h4 c hc
    simpa using this
  · rintro ⟨h1, h2⟩
    have h3 : ∀ c ∈ l, Unicode.isAlpha c = true ∧ (Unicode.isUpper c || Unicode.isTitle c) = false := fun c hc => by
      have := hall c hc
      rw [h2 c hc] at this
      simpa using this
    refine ⟨⟨h1, fun c hc => (h3 c hc).1⟩, ?_, fun c hc => by rw [(h3 c hc).2]; decide⟩
    cases l with
    | nil => simp at h1
    | cons c r => exact ⟨c, List.mem_cons_self, by rw [hlow c List.mem_cons_self]; exact h2 c List.mem_cons_self⟩
theorem mAndV_ok {a b : HEnv → R D} {env : HEnv} {x y : Bool} (h : a env = .ok (.bl x)) (k : x = true → b env = .ok (.bl y)) : mAndV a b env = .ok (.bl (x && y)) := by
  unfold mAndV
  rw [h, R.bind_ok]
  show (if x = true then b env else R.ok (D.bl false)) = _
  cases x with
  | true => rw [if_pos rfl, k rfl]; rfl
  | false => rw [if_neg (by decide)]; rfl
theorem mChain_ok {f g : D → D → R D} {ma mb mc : HEnv → R D} {env : HEnv} {a b c : D} {x y : Bool} (ha : ma env = .ok a) (hb : mb env = .ok b) (hc : mc env = .ok c) (hf : f a b = .ok (.bl x)) (hg : g b c = .ok (.bl y)) : mChain f g ma mb mc env = .ok (.bl (x && y)) := by
  unfold mChain
  rw [ha, R.bind_ok, hb, R.bind_ok, hf, R.bind_ok]
  show (if x = true then (mc env).bind fun z => g b z else R.ok (D.bl false)) = _
  cases x with
  | true => rw [if_pos rfl, hc, R.bind_ok, hg]; rfl
  | false => rw [if_neg (by decide)]; rfl
theorem is_column_ok {x : Str} (h : Asc x) : fnS 1 b_is_column [.str x] = .ok (false, .bl (isCol x)) := by
  refine fnS_rt (mRet_ok ?_)
  have hl : m1 lenD (mOwn 0) [Slot.val (.str x)] = .ok (.int x.length) := by
    show (if x.length ≤ sizeLine then _ else _) = _
    exact if_pos (le_line (by have := h.2; omega))
  have e1 : (mChain (cmpI fun i j => decide (i ≤ j)) (cmpI fun i j => decide (i ≤ j)) (mC (.int 1)) (m1 lenD (mOwn 0)) (mC (.int 6))) [Slot.val (.str x)] = .ok (.bl (decide (1 ≤ x.length) && decide (x.length ≤ 6))) := by
    refine mChain_ok (a := .int 1) (b := .int x.length) (c := .int 6) rfl hl rfl ?_ ?_
    · show R.ok (D.bl (decide ((1 : Int) ≤ (x.length : Int)))) = _
      congr 2
      rw [Bool.eq_iff_iff]
      simp only [decide_eq_true_eq]
      omega
    · show R.ok (D.bl (decide ((x.length : Int) ≤ 6))) = _
      congr 2
      rw [Bool.eq_iff_iff]
      simp only [decide_eq_true_eq]
      omega
  have e2 : (mAndV (m1 (onStr isalphaS) (mOwn 0)) (m1 (onStr islowerS) (mOwn 0))) [Slot.val (.str x)] = .ok (.bl (Txt.isalpha x && Txt.islower x)) := mAndV_ok rfl fun _ => rfl
  refine (mAndV_ok e1 fun _ => e2).trans ?_
  rw [isCol_unicode h]
  unfold isCol
  congr 2
  rw [Bool.eq_iff_iff]
  simp only [Bool.and_eq_true, decide_eq_true_eq]
  constructor
  · rintro ⟨⟨h1, h2⟩, h3, h4⟩
    exact ⟨⟨h1, h2⟩, h4⟩
  · rintro ⟨⟨h1, h2⟩, h3⟩
    exact ⟨⟨h1, h2⟩, by omega, h3⟩
/-! ### heads -/
theorem inL_strs (x : Str) : ∀ ys : List Str, inL (.str x) (ys.map D.str) = decide (x ∈ ys)
  | [] => by simp [inL]
  | y :: ys => by
    simp only [List.map_cons, inL, inL_strs x ys]
    show ((y == x) || decide (x ∈ ys)) = _
    rw [Bool.eq_iff_iff]
    simp only [Bool.or_eq_true, beq_iff_eq, decide_eq_true_eq, List.mem_cons]
    constructor
    · rintro (h | h)
      · exact .inl h.symm
      · exact .inr h
    · rintro (h | h)
      · exact .inl h.symm
      · exact .inr h
theorem in_given (b : Bool) (x : Str) (ys : List Str) : inN false (.str x) (given b (ys.map D.str)) = .ok (.bl (decide (x ∈ ys))) := by
  have h : ∀ ds : List D, ds = ys.map D.str → (if sim (.str x) = true ∧ simpL? 50 ds = true then R.ok (inL (.str x) ds) else R.stuck).bind (fun b => R.ok (D.bl (if false = true then !b else b))) = .ok (.bl (decide (x ∈ ys))) := fun ds e => by
    subst e
    rw [if_pos ⟨rfl, simpL_strs ys⟩, inL_strs]
    rfl
  cases b <;> exact h _ rfl
theorem cutL_to (ds : List D) (k : Nat) : cutL ds none (some (k : Int)) = ds.take k := by
  unfold cutL
  rw [HT.sIx_none, HT.sIx_nat, List.drop_zero, Nat.sub_zero]
  rcases Nat.le_total k ds.length with h | h
  · rw [Nat.min_eq_left h]
  · rw [Nat.min_eq_right h, List.take_length, List.take_of_length_le h]
theorem cut_given (b : Bool) (ys : List Str) (k : Nat) : slD (given b (ys.map D.str)) none (some (k : Int)) = .ok (given b ((ys.take k).map D.str)) := by
  cases b
  · show R.ok (D.lst (cutL (ys.map D.str) none (some (k : Int)))) = _
    rw [cutL_to, ← List.map_take]
    rfl
  · show R.ok (D.tup (cutL (ys.map D.str) none (some (k : Int)))) = _
    rw [cutL_to, ← List.map_take]
    rfl
theorem len_given (b : Bool) (ds : List D) : lenD (given b ds) = .ok (.int ds.length) := by cases b <;> rfl
theorem ix_given {b : Bool} {ds : List D} {j : Nat} {d : D} (h : ds[j]? = some d) : ixD (given b ds) (.int (j : Int)) = .ok d := by
  cases b
  · exact ix_lst h
  · exact ix_tup h
theorem items_given (b : Bool) (ds : List D) : itemsD (given b ds) = .ok ds := by cases b <;> rfl
/-- the first column that may not stand there -/
def badAt (xs : List Str) (k : Nat) : Bool := match xs[k]? with
  | some x => !isCol x || decide (x ∈ xs.take k)
  | none => false
def firstBad (xs : List Str) : Option Nat := (List.range xs.length).find? (badAt xs)
/-- a loop over 0 .. n-1 that ends at the first k with bad k -/
theorem forL_first {g : D → HEnv → R HEnv} {b : HEnv → SO} (P : HEnv → Prop) (bad : Nat → Bool) (O : Nat → SO → Prop) : ∀ {ks : List Nat} {env : HEnv}, P env →
    (∀ k ∈ ks, ∀ env, P env → ∃ e1, g (.int (k : Nat)) env = .ok e1 ∧ ((bad k = true ∧ O k (b e1) ∧ (∀ e, b e1 ≠ .nx e ∧ b e1 ≠ .ct e ∧ b e1 ≠ .bk e)) ∨ (bad k = false ∧ ∃ e, b e1 = .nx e ∧ P e))) →
    match ks.find? bad with
    | some k => O k (forL g b (ks.map fun i => D.int (i : Nat)) env)
    | none => ∃ e, forL g b (ks.map fun i => D.int (i : Nat)) env = .nx e ∧ P e
  | [], env, h0, _ => ⟨env, rfl, h0⟩
  | k :: ks, env, h0, hs => by
    obtain ⟨e1, h1, h2⟩ := hs k List.mem_cons_self env h0
    rcases h2 with ⟨hb, ho, hn⟩ | ⟨hb, e, h2, h3⟩
    · rw [List.find?_cons_of_pos hb]
      show O k (forL g b (D.int (k : Nat) :: _) env)
      unfold forL
      simp only [h1]
      cases eb : b e1 with
      | nx e => exact ((hn e).1 eb).elim
      | ct e => exact ((hn e).2.1 eb).elim
      | bk e => exact ((hn e).2.2 eb).elim
      | rt o r => rw [eb] at ho; exact ho
      | er x e => rw [eb] at ho; exact ho
      | stuck => rw [eb] at ho; exact ho
    · rw [List.find?_cons_of_neg (by rw [hb]; decide)]
      have ih := forL_first P bad O (g := g) (b := b) (ks := ks) (env := e) h3 fun k hk => hs k (List.mem_cons_of_mem _ hk)
      have ef : forL g b ((k :: ks).map fun i => D.int (i : Nat)) env = forL g b (ks.map fun i => D.int (i : Nat)) e := by
        show forL g b (D.int (k : Nat) :: _) env = _
        rw [forL]
        simp only [h1, h2]
      rw [ef]
      exact ih
def headE (xs : List Str) : R (Bool × D) := if 24 < xs.length then .er ⟨"TooMany", "limit", .int 24⟩ else match firstBad xs with
  | some k => .er ⟨"BadHead", "column", .str (xs.getD k ⟨#[]⟩)⟩
  | none => .ok (false, .tup ((sortS xs).map D.str))
theorem head_of_ok (b : Bool) (xs : List Str) (ha : ∀ x ∈ xs, Asc x) (hz : xs.length ≤ 1000000) : fnS 3 (b_head_of (fnS 1 b_is_column)) [given b (xs.map D.str)] = headE xs := by
  have hl : m1 lenD (mOwn 0) [Slot.val (given b (xs.map D.str)), .no, .no] = .ok (.int xs.length) := (m1_ok (a := given b (xs.map D.str)) rfl).trans (by rw [len_given, List.length_map])
  have ht : (m1 truB (m2 (cmpI fun i j => decide (j < i)) (m1 lenD (mOwn 0)) (mC (.int 24)))) [Slot.val (given b (xs.map D.str)), .no, .no] = .ok (decide (24 < xs.length)) := by
    refine (m1_ok (a := D.bl (decide (24 < xs.length))) ?_).trans rfl
    refine (m2_ok (a := D.int xs.length) (b := D.int 24) hl rfl).trans ?_
    show R.ok (D.bl (decide ((24 : Int) < (xs.length : Int)))) = _
    congr 2
    rw [Bool.eq_iff_iff]
    simp only [decide_eq_true_eq]
    omega
  unfold headE
  by_cases hb : 24 < xs.length
  · rw [if_pos hb]
    rw [decide_eq_true hb] at ht
    refine fnS_er (e := [Slot.val (given b (xs.map D.str)), .no, .no]) ?_
    unfold b_head_of
    refine mSeq_er ((mIf_tt ht).trans ?_)
    exact (sB_ok (a := D.int 24) rfl).trans (if_pos (by decide))
  · rw [if_neg hb]
    rw [decide_eq_false hb] at ht
    have key := forL_first (g := gN 1) (b := mIfS (mOrT (mNotT (m1 truD (mCall (fnS 1 b_is_column) (mCons (m2 ixD (mOwn 0) (mOwn 1)) mNil)))) (m1 truB (m2 (inN false) (m2 ixD (mOwn 0) (mOwn 1)) (mSl slD (mOwn 0) mNoPart (mPart (mVar 1)))))) (mRaise "BadHead" "column" (m2 ixD (mOwn 0) (mOwn 1))) mNext)
      (fun e => ∃ s1, e = [Slot.val (given b (xs.map D.str)), s1, .no]) (badAt xs) (fun k so => ∃ e, so = .er ⟨"BadHead", "column", .str (xs.getD k ⟨#[]⟩)⟩ e)
      (ks := List.range xs.length) (env := [Slot.val (given b (xs.map D.str)), .no, .no]) ⟨.no, rfl⟩ fun k hk env ⟨s1, he⟩ => by
        subst he
        have hk' : k < xs.length := List.mem_range.mp hk
        have ex : xs[k]? = some xs[k] := List.getElem?_eq_getElem hk'
        have hix : m2 ixD (mOwn 0) (mOwn 1) [Slot.val (given b (xs.map D.str)), .val (.int (k : Nat)), .no] = .ok (.str xs[k]) :=
          (m2_ok (a := given b (xs.map D.str)) (b := D.int (k : Nat)) rfl rfl).trans (ix_given (by rw [List.getElem?_map, ex]; rfl))
        have hasc := ha _ (List.getElem_mem hk')
        have hcol : (mNotT (m1 truD (mCall (fnS 1 b_is_column) (mCons (m2 ixD (mOwn 0) (mOwn 1)) mNil)))) [Slot.val (given b (xs.map D.str)), .val (.int (k : Nat)), .no] = .ok (!isCol xs[k]) :=
          m1_ok ((m1_ok (a := D.bl (isCol xs[k])) (mCall_ok (ds := [.str xs[k]]) (mCons_ok hix rfl) (is_column_ok hasc))).trans rfl)
        have hin : (m1 truB (m2 (inN false) (m2 ixD (mOwn 0) (mOwn 1)) (mSl slD (mOwn 0) mNoPart (mPart (mVar 1))))) [Slot.val (given b (xs.map D.str)), .val (.int (k : Nat)), .no] = .ok (decide (xs[k] ∈ xs.take k)) := by
          refine (m1_ok (a := D.bl (decide (xs[k] ∈ xs.take k))) ?_).trans rfl
          refine (m2_ok (a := D.str xs[k]) (b := given b ((xs.take k).map D.str)) hix ?_).trans (in_given b _ _)
          exact cut_given b xs k
        have htest : (mOrT (mNotT (m1 truD (mCall (fnS 1 b_is_column) (mCons (m2 ixD (mOwn 0) (mOwn 1)) mNil)))) (m1 truB (m2 (inN false) (m2 ixD (mOwn 0) (mOwn 1)) (mSl slD (mOwn 0) mNoPart (mPart (mVar 1)))))) [Slot.val (given b (xs.map D.str)), .val (.int (k : Nat)), .no] = .ok (badAt xs k) := by
          have eb : badAt xs k = (!isCol xs[k] || decide (xs[k] ∈ xs.take k)) := by
            unfold badAt
            rw [ex]
          rw [eb]
          unfold mOrT
          rw [hcol, R.bind_ok]
          generalize isCol xs[k] = c
          cases c with
          | true => exact hin
          | false => rfl
        refine ⟨_, rfl, ?_⟩
        cases hbad : badAt xs k with
        | true =>
          rw [hbad] at htest
          have er : mIfS (mOrT (mNotT (m1 truD (mCall (fnS 1 b_is_column) (mCons (m2 ixD (mOwn 0) (mOwn 1)) mNil)))) (m1 truB (m2 (inN false) (m2 ixD (mOwn 0) (mOwn 1)) (mSl slD (mOwn 0) mNoPart (mPart (mVar 1)))))) (mRaise "BadHead" "column" (m2 ixD (mOwn 0) (mOwn 1))) mNext [Slot.val (given b (xs.map D.str)), .val (.int (k : Nat)), .no] = .er ⟨"BadHead", "column", .str xs[k]⟩ [Slot.val (given b (xs.map D.str)), .val (.int (k : Nat)), .no] := by
            refine (mIf_tt htest).trans ((sB_ok (a := D.str xs[k]) hix).trans (if_pos ?_))
            exact decide_eq_true hasc.2
          have eg : xs.getD k ⟨#[]⟩ = xs[k] := by
            rw [List.getD_eq_getElem?_getD, ex]
            rfl
          refine .inl ⟨rfl, ⟨[Slot.val (given b (xs.map D.str)), .val (.int (k : Nat)), .no], by rw [eg]; exact er⟩, fun e => ⟨fun z => ?_, fun z => ?_, fun z => ?_⟩⟩
          · exact nomatch er.symm.trans z
          · exact nomatch er.symm.trans z
          · exact nomatch er.symm.trans z
        | false =>
          rw [hbad] at htest
          exact .inr ⟨rfl, _, (mIf_ff htest).trans rfl, _, rfl⟩
    have hsrc : (m1 range1D (mCons (m1 lenD (mOwn 0)) mNil)) [Slot.val (given b (xs.map D.str)), .no, .no] = .ok ((List.range xs.length).map fun i => D.int (i : Nat)) :=
      (m1_ok (a := [D.int xs.length]) (mCons_ok hl rfl)).trans (rangeD_ok (by omega))
    unfold firstBad
    cases hf : (List.range xs.length).find? (badAt xs) with
    | some k =>
      rw [hf] at key
      obtain ⟨e, he⟩ := key
      refine fnS_er (e := e) ?_
      unfold b_head_of
      refine (mSeq_nx ((mIf_ff ht).trans rfl)).trans (mSeq_er ((mFor_ok hsrc).trans he))
    | none =>
      rw [hf] at key
      obtain ⟨e, he, s1, rfl⟩ := key
      refine fnS_rt ?_
      unfold b_head_of
      refine (mSeq_nx ((mIf_ff ht).trans rfl)).trans ((mSeq_nx ((mFor_ok hsrc).trans he)).trans (mRet_ok ?_))
      refine (m1_ok (a := D.lst ((sortS xs).map D.str)) ?_).trans rfl
      refine (m1_ok (a := D.lst (xs.map D.str)) ?_).trans ?_
      · exact mComp_ok (ds := xs.map D.str) ((m1_ok (a := given b (xs.map D.str)) rfl).trans (items_given b _)) (compL_map (f := D.str) (h := D.str) fun x hx => rfl)
      · show (match strsD (xs.map D.str) with | some xs => if xs.length < 64 then R.ok (D.lst ((sortS xs).map D.str)) else R.stuck | none => R.stuck) = _
        rw [strsD_map]
        exact if_pos (by omega)
/-! ### reckoning with cells -/
theorem own_val {i : Nat} {env : HEnv} {d : D} (he : env[i]? = some (.val d)) : mOwn i env = .ok d := by unfold mOwn; rw [he]
theorem var_val {i : Nat} {env : HEnv} {d : D} (he : env[i]? = some (.val d)) : mVar i env = .ok d := by unfold mVar; rw [he]
theorem cell_at {i : Nat} {env : HEnv} {cs : List Int} (he : env[i]? = some (.val (.lst (cs.map D.int)))) (k : Nat) (h : k < cs.length) : m2 ixD (mOwn i) (mC (.int (k : Int))) env = .ok (.int cs[k]) :=
  (m2_ok (own_val he) (show mC (.int (k : Int)) env = .ok (.int (k : Int)) from rfl)).trans (ix_lst (by rw [List.getElem?_map, List.getElem?_eq_getElem h]; rfl))
theorem int_of {m : HEnv → R D} {env : HEnv} {a : Int} (h : m env = .ok (.int a)) : m1 intD m env = .ok (.int a) := m1_ok h
theorem mod_lit {m : HEnv → R D} {env : HEnv} {a b : Int} (h : m env = .ok (.int a)) (hb : 0 < b) : m2 modD m (mC (.int b)) env = .ok (.int (a % b)) :=
  (m2_ok h (show mC (.int b) env = .ok (.int b) from rfl)).trans (if_pos hb)
theorem div_lit {m : HEnv → R D} {env : HEnv} {a b : Int} (h : m env = .ok (.int a)) (hb : 0 < b) (hb2 : b < 1073741824) : m2 divD m (mC (.int b)) env = .ok (.int (a / b)) :=
  (m2_ok h (show mC (.int b) env = .ok (.int b) from rfl)).trans (if_pos ⟨hb, hb2⟩)
theorem mod_of {m k : HEnv → R D} {env : HEnv} {a b : Int} (h : m env = .ok (.int a)) (h2 : k env = .ok (.int b)) (hb : 0 < b) : m2 modD m k env = .ok (.int (a % b)) := (m2_ok h h2).trans (if_pos hb)
theorem part_of {m : HEnv → R D} {env : HEnv} {a : Int} (h : m env = .ok (.int a)) : mPart m env = .ok (some a) := m1_ok h
theorem sl_to {m l : HEnv → R D} {env : HEnv} {d e : D} {a : Int} (h : m env = .ok d) (k : l env = .ok (.int a)) (he : slD d none (some a) = .ok e) : mSl slD m mNoPart (mPart l) env = .ok e := by
  unfold mSl
  rw [h, R.bind_ok]
  show (mPart l env).bind _ = _
  rw [part_of k]
  exact he
theorem sl_from {m l : HEnv → R D} {env : HEnv} {d e : D} {a : Int} (h : m env = .ok d) (k : l env = .ok (.int a)) (he : slD d (some a) none = .ok e) : mSl slD m (mPart l) mNoPart env = .ok e := by
  unfold mSl
  rw [h, R.bind_ok, part_of k]
  exact he
theorem range_of {m : HEnv → R D} {env : HEnv} {n : Nat} (h : m env = .ok (.int (n : Int))) (hn : n ≤ 16777216) : m1 range1D (mCons m mNil) env = .ok ((List.range n).map fun i => D.int (i : Nat)) :=
  (m1_ok (mCons_ok h (show mNil env = .ok [] from rfl))).trans (rangeD_ok hn)
end HL

/-! Calls that are lent what is the caller's own. -/
namespace HL
open PySem PySem.Spec PyProof.Rows L2
inductive Ag where
  | v (d : D) | b (d : D)
def Ag.slot : Ag → Slot
  | .v d => .val d
  | .b d => .bor d
def RepA (cl : Cl) (F H : Hp) : List Ag → List V → Prop
  | [], vs => vs = []
  | .v d :: r, vs => ∃ v s, vs = v :: s ∧ Rep cl F d v ∧ RepA cl F H r s
  | .b d :: r, vs => ∃ p u s, vs = .ref p :: s ∧ (F p = none ∧ Rd H p u ∧ ObjD cl F d u ∧ mutD d = true) ∧ RepA cl F H r s
def relAg (cl : Cl) : Rel (List Ag) (List V) := fun _ F H as vs => RepA cl F H as vs
theorem RepA.kp {cl : Cl} {F H F' H' : Hp} (k : Kp F H F' H') : ∀ {as : List Ag} {vs : List V}, RepA cl F H as vs → RepA cl F' H' as vs
  | [], vs, h => by simp only [RepA] at h ⊢; exact h
  | .v d :: r, vs, h => by simp only [RepA] at h ⊢; obtain ⟨v, s, a, b, c⟩ := h; exact ⟨v, s, a, b.ext k.ext, RepA.kp k c⟩
  | .b d :: r, vs, h => by
    simp only [RepA] at h ⊢
    obtain ⟨p, u, s, a, ⟨b, c, d, e⟩, f⟩ := h
    obtain ⟨w, hw⟩ := rdAt c
    exact ⟨p, u, s, a, ⟨k.fr p w hw b, rdKp k.same c, d.ext k.ext, e⟩, RepA.kp k f⟩
theorem RepA.len {cl : Cl} {F H : Hp} : ∀ {as : List Ag} {vs : List V}, RepA cl F H as vs → vs.length = as.length
  | [], vs, h => by simp only [RepA] at h; rw [h]; rfl
  | .v d :: r, vs, h => by simp only [RepA] at h; obtain ⟨v, s, rfl, _, c⟩ := h; simp [RepA.len c]
  | .b d :: r, vs, h => by simp only [RepA] at h; obtain ⟨p, u, s, rfl, _, c⟩ := h; simp [RepA.len c]
def relG1 (cl : Cl) : Rel Ag V := fun _ F H a v => match a with
  | .v d => Rep cl F d v
  | .b d => ∃ p u, v = .ref p ∧ F p = none ∧ Rd H p u ∧ ObjD cl F d u ∧ mutD d = true
theorem RepA.get {cl : Cl} {F H : Hp} {as : List Ag} : ∀ {vs : List V} {i : Nat} {a : Ag}, RepA cl F H as vs → as[i]? = some a → ∃ v, vs[i]? = some v ∧ relG1 cl H F H a v := by
  induction as with
  | nil => intro vs i a h e; simp at e
  | cons x r ih =>
    intro vs i a h e
    cases x with
    | v d =>
      simp only [RepA] at h
      obtain ⟨v, s, rfl, b, c⟩ := h
      cases i with
      | zero => cases e; exact ⟨v, rfl, b⟩
      | succ i => simpa using ih (vs := s) (i := i) c (by simpa using e)
    | b d =>
      simp only [RepA] at h
      obtain ⟨p, u, s, rfl, b, c⟩ := h
      cases i with
      | zero => cases e; exact ⟨.ref p, rfl, p, u, rfl, b⟩
      | succ i => simpa using ih (vs := s) (i := i) c (by simpa using e)
theorem oldAg {cl : Cl} : Old (relAg cl) := fun _ _ _ _ _ _ _ h => h
theorem carAg {cl : Cl} : Carry (relAg cl) := fun _ _ _ _ _ _ _ _ k h => RepA.kp k h
abbrev tAg (cl : Cl) (W : WX) (m : HEnv → R (List Ag)) : TA := tG cl (relAg cl) W m
def gNil : HEnv → R (List Ag) := fun _ => .ok []
def gConsV (m : HEnv → R D) (ms : HEnv → R (List Ag)) : HEnv → R (List Ag) := m2 (fun d ds => .ok (.v d :: ds)) m ms
def mAg (i : Nat) : HEnv → R Ag := fun env => match env[i]? with
  | some (.own d) => .ok (.b d)
  | some (.lent d) => .ok (.b d)
  | some (.bor d) => .ok (.b d)
  | some (.val d) => .ok (.v d)
  | _ => .stuck
def gConsB (i : Nat) (ms : HEnv → R (List Ag)) : HEnv → R (List Ag) := m2 (fun a ds => .ok (a :: ds)) (mAg i) ms
section
variable {X : Cx} {cl : Cl} {W : WX} {e : Expr} {es : List Expr} {pos : Pos} {m : HEnv → R D} {ms : HEnv → R (List Ag)}
theorem dg_nil : PA X [] (tAg cl W gNil) := pa_weak pa_nil fun σ H Q ⟨F0, H0, F, env, s, h⟩ => PostG.done (rel := relAg cl) h s.sub (by simp only [relAg, RepA])
theorem dg_consV (h : PE X e (tF cl W m)) (hr : PA X es (tAg cl W ms)) (hs : starEach (e :: es) X.env = (false, eval e X.env) :: starEach es X.env := by rfl) : PA X (e :: es) (tAg cl W (gConsV m ms)) := by
  refine pa_weak (pa_cons h hr hs) fun σ H Q q => ?_
  refine read2 (rel := relF cl) (rel1 := relAg cl) (r := fun x xs H Q => Q (x :: xs) H) oldAg carF (fun Hs F H d v ds vs Q σ s r1 r2 p => ?_) q
  exact PostG.done p s (by simp only [relAg, RepA]; exact ⟨v, vs, rfl, r1, r2⟩)
theorem carG1 : Carry (relG1 cl) := fun Hs Hs' F H F' H' a v k h => by
  cases a with
  | v d => exact Rep.ext k.ext h
  | b d =>
    obtain ⟨p, u, a, b, c, e, f⟩ := h
    obtain ⟨w, hw⟩ := rdAt c
    exact ⟨p, u, a, k.fr p w hw b, rdKp k.same c, e.ext k.ext, f⟩
theorem d_ag {i : Nat} (h : PE X e (tVar i)) : PE X e (tG cl (relG1 cl) W (mAg i)) := by
  refine pe_weak h fun σ H Q ⟨F0, H0, F, env, s, q⟩ => ?_
  unfold mAg at q
  split at q
  · rename_i d e
    obtain ⟨p, a, b, c, u, hu, o, mu⟩ := s.own i d (oL_own e)
    exact ⟨_, a, PostG.done (rel := relG1 cl) q s.sub ⟨p, u, rfl, b, .inl hu, o, mu⟩⟩
  · rename_i d e
    obtain ⟨p, a, b, c, u, hu, o, mu⟩ := s.own i d (oL_lent e)
    exact ⟨_, a, PostG.done (rel := relG1 cl) q s.sub ⟨p, u, rfl, b, .inl hu, o, mu⟩⟩
  · rename_i d e
    obtain ⟨p, u, a, b, c, o, mu⟩ := s.bor i d e
    exact ⟨_, a, PostG.done (rel := relG1 cl) q s.sub ⟨p, u, rfl, b, rdKp s.kp.same c, o, mu⟩⟩
  · rename_i d e
    obtain ⟨v, a, b⟩ := s.val i d e
    exact ⟨v, a, PostG.done (rel := relG1 cl) (d := .v d) q s.sub b⟩
  · exact q.elim
theorem dg_consB {i : Nat} (h : PE X e (tVar i)) (hr : PA X es (tAg cl W ms)) (hs : starEach (e :: es) X.env = (false, eval e X.env) :: starEach es X.env := by rfl) : PA X (e :: es) (tAg cl W (gConsB i ms)) := by
  refine pa_weak (pa_cons (d_ag (cl := cl) (W := W) h) hr hs) fun σ H Q q => ?_
  refine read2 (rel := relG1 cl) (rel1 := relAg cl) (r := fun x xs H Q => Q (x :: xs) H) oldAg carG1 (fun Hs F H a v ds vs Q σ s r1 r2 p => ?_) q
  refine PostG.done p s ?_
  cases a with
  | v d => simp only [relAg, RepA]; exact ⟨v, vs, rfl, r1, r2⟩
  | b d =>
    obtain ⟨p', u, rfl, b, c, e, f⟩ := r1
    simp only [relAg, RepA]
    exact ⟨p', u, vs, rfl, ⟨b, c, e, f⟩, r2⟩
end
/-! ### the promise -/
def spA (cl : Cl) (n : Nat) (f : List Ag → R (Bool × D)) : Sp := fun vs H Q E => vs.length = n ∧ ∃ F as, Sub F H ∧ RepA cl F H as vs ∧ match f as with
  | .ok r => ∀ v F' H', Kp F H F' H' → Sub F' H' → RetR cl H F' H' r.1 r.2 v → Q v H'
  | .er e => ∀ cls dd F' H', Kp F H F' H' → Sub F' H' → ERep cl H' e cls dd → E cls dd H'
  | .stuck => False
def fnSA (n : Nat) (body : HEnv → SO) (as : List Ag) : R (Bool × D) := match body (as.map Ag.slot ++ List.replicate (n - as.length) Slot.no) with
  | .nx _ => .ok (false, .non)
  | .rt o d => .ok (o, d)
  | .er x _ => .er x
  | _ => .stuck
theorem fnSA_v (n : Nat) (body : HEnv → SO) (ds : List D) : fnSA n body (ds.map Ag.v) = fnS n body ds := by
  unfold fnSA fnS
  rw [List.map_map, List.length_map]
  rfl
section
variable {P : Program} {w : World} {K : PySem.W.Frag} {mg : Str → Option Value} {base : Heap} {cl : Cl}
theorem ag_own {as : List Ag} {n i : Nat} {d : D} (e : (as.map Ag.slot ++ List.replicate n Slot.no)[i]?.bind oL = some d) : False := by
  by_cases hi : i < as.length
  · rw [List.getElem?_append_left (by simp; exact hi), List.getElem?_map] at e
    cases q : as[i]? with
    | none => rw [q] at e; cases e
    | some c => rw [q] at e; cases c <;> cases e
  · rw [List.getElem?_append_right (by simp; omega), List.getElem?_replicate] at e
    split at e <;> cases e
theorem ag_at {as : List Ag} {n i : Nat} {s : Slot} (e : (as.map Ag.slot ++ List.replicate n Slot.no)[i]? = some s) (hs : s ≠ .no) : i < as.length ∧ ∃ a, as[i]? = some a ∧ s = a.slot := by
  by_cases hi : i < as.length
  · rw [List.getElem?_append_left (by simp; exact hi), List.getElem?_map] at e
    cases q : as[i]? with
    | none => rw [q] at e; cases e
    | some c => rw [q] at e; exact ⟨hi, c, rfl, (Option.some.inj e).symm⟩
  · rw [List.getElem?_append_right (by simp; omega), List.getElem?_replicate] at e
    split at e
    · exact (hs (Option.some.inj e).symm).elim
    · cases e
theorem fnA {x qual : Str} {st : Stmt} {f : Addr} {fd : FuncData} {N ps : List Str} {k : Nat} {body : HEnv → SO} (F : Fun K x qual st f fd) (S : FnScope N ps (defScope st)) (hn : ps.length ≤ N.length)
    (hb : ∀ (cdv : Value) (A : Around) (outer : List Env) (s : Shared) (H : Hp) (E : XK), Room k (A.deeper (envOfC qual (defScope st) s.heap.objs.size f cdv)) →
      PSs (cxOf (L2.CX P w) P w K mg base N qual (defScope st) f cdv A outer s H E) (defBody st) (tS cl (fun cls d _ H => E cls d H) body)) :
    FnOk P w K mg base (L2.CX P w) (k + 1) f fd ps (spA cl ps.length (fnSA N.length body)) := by
  refine F.okX S (fun vs H Q E h => h.1) fun cdv A outer s H vs Q E hr ⟨hl, F, as, hs, r, q⟩ => ⟨_, hb cdv A outer s H E hr, ?_⟩
  have dl : as.length = ps.length := by rw [← r.len]; exact hl
  refine ⟨(F, fun _ => none), H, F, as.map Ag.slot ++ List.replicate (N.length - as.length) Slot.no, ⟨?_, hs, Kp.refl F H, fun i d e => ?_, fun i d e => ?_, fun i d e => ?_, fun i d e => ?_, fun i j d e p h1 => ?_⟩, ?_⟩
  · show (L2.start N vs).length = _
    unfold L2.start
    simp only [List.length_append, List.length_map, List.length_replicate]
    rw [r.len]
  · obtain ⟨hi, a, ea, es⟩ := ag_at e (by simp)
    obtain ⟨v, hv, rv⟩ := r.get ea
    cases a with
    | v d' => cases es; exact ⟨v, start_get hv (by rw [hl]; exact hn), rv⟩
    | b d' => cases es
  · exact (ag_own e).elim
  · exact (ag_own (oL_lent e)).elim
  · obtain ⟨hi, a, ea, es⟩ := ag_at e (by simp)
    obtain ⟨v, hv, rv⟩ := r.get ea
    cases a with
    | v d' => cases es
    | b d' =>
      cases es
      obtain ⟨p, u, rfl, a, b, c, d⟩ := rv
      exact ⟨p, u, start_get hv (by rw [hl]; exact hn), a, b, c, d⟩
  · exact (ag_own h1).elim
  · unfold fnSA at q
    cases eb : body (as.map Ag.slot ++ List.replicate (N.length - as.length) Slot.no) with
    | nx e =>
      simp only [eb] at q
      exact fun σ F' H' _ s' => q .non F' H' s'.kp s'.sub (by unfold RetR; rw [if_neg (by decide)]; simp only [Rep])
    | rt o d =>
      simp only [eb] at q
      exact q
    | er y e =>
      simp only [eb] at q
      exact fun cls dd σ F' H' _ s' r' => q cls dd F' H' s'.kp s'.sub r'
    | bk e => simp only [eb] at q
    | ct e => simp only [eb] at q
    | stuck => simp only [eb] at q
/-- what is known of a def that may be lent things -/
structure DfA (P : Program) (w : World) (K : PySem.W.Frag) (mg : Str → Option Value) (base : Heap) (cl : Cl) (k : Nat) (x : Str) (n : Nat) (f : List Ag → R (Bool × D)) : Prop where
  ex : ∃ (fa : Addr) (fd : FuncData) (ps : List Str), FnOk P w K mg base (L2.CX P w) k fa fd ps (spA cl n f) ∧ mg x = some (.ref fa) ∧ PySem.W.keepIn K (.ref fa) = true ∧ Binds K fd ps []
end
inductive LnA : (HEnv → R (List Ag)) → Nat → Prop where
  | nil : LnA gNil 0
  | consV {m : HEnv → R D} {ms : HEnv → R (List Ag)} {n : Nat} (h : LnA ms n) : LnA (gConsV m ms) (n + 1)
  | consB {i : Nat} {ms : HEnv → R (List Ag)} {n : Nat} (h : LnA ms n) : LnA (gConsB i ms) (n + 1)
theorem LnA.len {ms : HEnv → R (List Ag)} {n : Nat} (h : LnA ms n) : ∀ {env : HEnv} {ds : List Ag}, ms env = .ok ds → ds.length = n := by
  have two : ∀ {α : Type} {g : α → Ag} {m : HEnv → R α} {ms : HEnv → R (List Ag)} {n : Nat} {env : HEnv} {ds : List Ag}, (∀ {env : HEnv} {ds : List Ag}, ms env = .ok ds → ds.length = n) → m2 (fun a ds => .ok (g a :: ds)) m ms env = .ok ds → ds.length = n + 1 := fun {α g m ms n env ds} ih e => by
    simp only [m2] at e
    cases e1 : m env with
    | ok a =>
      rw [e1] at e
      cases e2 : ms env with
      | ok b =>
        rw [e2] at e
        cases e
        simp [ih e2]
      | er x => rw [e2] at e; cases e
      | stuck => rw [e2] at e; cases e
    | er x => rw [e1] at e; cases e
    | stuck => rw [e1] at e; cases e
  induction h with
  | nil =>
    intro env ds e
    cases e
    rfl
  | consV h ih => intro env ds e; exact two (g := Ag.v) ih e
  | consB h ih => intro env ds e; exact two (g := id) ih e
def aCall (f : List Ag → R (Bool × D)) (ms : HEnv → R (List Ag)) : HEnv → R D := fun env => (ms env).bind fun ds => (f ds).bind fun r => .ok r.2
def aCallN (f : List Ag → R (Bool × D)) (ms : HEnv → R (List Ag)) : HEnv → R D := fun env => (ms env).bind fun ds => (f ds).bind fun r => if r.1 = true then .ok r.2 else .stuck
def aCallX (f : List Ag → R (Bool × D)) (ms : HEnv → R (List Ag)) : HEnv → R (Bool × D) := fun env => (ms env).bind f
section
variable {X : Cx} {cl : Cl} {W : WX} {pos : Pos} {k n : Nat} {f : List Ag → R (Bool × D)} {x : Str} {p : Pos} {e : Expr} {es : List Expr} {ms : HEnv → R (List Ag)}
theorem read_callA {α : Type} {rel : Rel α V} {gg : Bool × D → R α} (ho : Old rel) (hn : LnA ms n) (hr : ∀ (H1 F1 F' H' : Hp) (r : Bool × D) (d : α) (v : V), gg r = .ok d → Kp F1 H1 F' H' → Sub F' H' → RetR cl H1 F' H' r.1 r.2 v → ∃ F2, Kp F1 H1 F2 H' ∧ Sub F2 H' ∧ rel H1 F2 H' d v)
    (hne : ∀ r e, gg r ≠ .er e) {σ : L2.St} {H : Hp} {Q : VK} (q : tG cl rel W (fun env => (ms env).bind fun ds => (f ds).bind gg) σ H Q) : tCallS (spA cl n f) (WE W) (tAg cl W ms) σ H Q := by
  obtain ⟨F0, H0, F, env, s, q⟩ := q
  refine ⟨F0, H0, F, env, s, ?_⟩
  replace q : PostG cl rel W ((ms env).bind fun ds => (f ds).bind gg) F σ H Q := q
  cases em : ms env with
  | er y => rw [em] at q; exact q
  | stuck => rw [em] at q; exact q.elim
  | ok ds =>
    replace q := PostG.bind_ok q em
    intro vs F1 H1 k1 s1 r1
    refine ⟨by rw [RepA.len r1]; exact hn.len em, F1, ds, s1, r1, ?_⟩
    have q1 := PostG.step ho q k1
    cases ef : f ds with
    | er y => rw [ef] at q1; exact q1
    | stuck => rw [ef] at q1; exact q1.elim
    | ok r =>
      replace q1 := PostG.bind_ok q1 ef
      intro v F' H' k' s' rr
      cases eg : gg r with
      | er y => exact (hne _ _ eg).elim
      | stuck => rw [eg] at q1; exact q1.elim
      | ok d =>
        rw [eg] at q1
        obtain ⟨F2, k2, s2, r2⟩ := hr H1 F1 F' H' r d v eg k' s' rr
        exact q1 v F2 H' k2 s2 r2
theorem dA_call (F : DfA X.prog X.w X.K X.mg X.base cl k x n f) (hr : Room k X.A) (tk : Takes X W) (hg : Gl X x) (ha : PA X (e :: es) (tAg cl W ms)) (hn : LnA ms n := by repeat constructor)
    (hdb : (x == ("__debug__" : Str)) = false := by decide) (he : starEach (e :: es) X.env = (false, eval e X.env) :: starEach es X.env := by rfl) (hpl : (backTo pos (starEach es X.env)).any (·.1) = false := by rfl) :
    PE X (.Call (.Name x p) (e :: es) [] pos) (tF cl W (aCall f ms)) := by
  obtain ⟨fa, fd, ps, hF, hm, hk, hb⟩ := F.ex
  refine pe_weak (pe_callS hF hr hg hm hk hb (fun σ => passAt tk σ) ha hdb he hpl) fun σ H Q q => ?_
  refine read_callA (gg := fun r => .ok r.2) (rel := relF cl) oldF hn (fun H1 F1 F' H' r d v eg k' s' rr => ?_) (fun _ _ z => nomatch z) q
  cases eg
  exact ret_frz k' s' rr
theorem dAn_call (F : DfA X.prog X.w X.K X.mg X.base cl k x n f) (hr : Room k X.A) (tk : Takes X W) (hg : Gl X x) (ha : PA X (e :: es) (tAg cl W ms)) (hn : LnA ms n := by repeat constructor)
    (hdb : (x == ("__debug__" : Str)) = false := by decide) (he : starEach (e :: es) X.env = (false, eval e X.env) :: starEach es X.env := by rfl) (hpl : (backTo pos (starEach es X.env)).any (·.1) = false := by rfl) :
    PE X (.Call (.Name x p) (e :: es) [] pos) (tN cl W (aCallN f ms)) := by
  obtain ⟨fa, fd, ps, hF, hm, hk, hb⟩ := F.ex
  refine pe_weak (pe_callS hF hr hg hm hk hb (fun σ => passAt tk σ) ha hdb he hpl) fun σ H Q q => ?_
  refine read_callA (gg := fun r => if r.1 = true then .ok r.2 else .stuck) (rel := relN cl) oldN hn (fun H1 F1 F' H' r d v eg k' s' rr => ?_) (fun r e z => by split at z <;> cases z) q
  split at eg
  · rename_i h
    cases eg
    rw [h] at rr
    exact ⟨F', k', s', by simpa [RetR] using rr⟩
  · cases eg
theorem R.bind_self {α : Type} (r : R α) : r.bind .ok = r := by cases r <;> rfl
theorem dAx_call (F : DfA X.prog X.w X.K X.mg X.base cl k x n f) (hr : Room k X.A) (tk : Takes X W) (hg : Gl X x) (ha : PA X (e :: es) (tAg cl W ms)) (hn : LnA ms n := by repeat constructor)
    (hdb : (x == ("__debug__" : Str)) = false := by decide) (he : starEach (e :: es) X.env = (false, eval e X.env) :: starEach es X.env := by rfl) (hpl : (backTo pos (starEach es X.env)).any (·.1) = false := by rfl) :
    PE X (.Call (.Name x p) (e :: es) [] pos) (tX cl W (aCallX f ms)) := by
  obtain ⟨fa, fd, ps, hF, hm, hk, hb⟩ := F.ex
  refine pe_weak (pe_callS hF hr hg hm hk hb (fun σ => passAt tk σ) ha hdb he hpl) fun σ H Q q => ?_
  refine read_callA (gg := .ok) (rel := relX cl) oldX hn (fun H1 F1 F' H' r d v eg k' s' rr => ?_) (fun _ _ z => nomatch z) ?_
  · cases eg
    exact ⟨F', k', s', rr⟩
  · obtain ⟨F0, H0, F, env, s, q⟩ := q
    refine ⟨F0, H0, F, env, s, ?_⟩
    have e : (fun ds => (f ds).bind R.ok) = f := funext fun ds => R.bind_self _
    show PostG cl (relX cl) W ((ms env).bind fun ds => (f ds).bind R.ok) F σ H Q
    rw [e]
    exact q
end
end HL

/-! Dicts: {}, d[k] = v, clear, list(d). -/
namespace HL
open PySem PySem.Spec PyProof.Rows L2
/-! ### a key is put -/
def putD (k v : D) (ks : List (D × D)) : List (D × D) := if (lookD k ks).isSome = true then ks.map (fun kv => if deq kv.1 k = true then (kv.1, v) else kv) else ks ++ [(k, v)]
section
variable {cl : Cl}
theorem RepK.map {F : Hp} {k : D} {q : Key} {d : D} {v : V} (hk : keyD k = some q) (r : Rep cl F d v) : ∀ {ks : List (D × D)} {qs : List (Key × V)}, RepK cl F ks qs → RepK cl F (ks.map fun kv => if deq kv.1 k = true then (kv.1, d) else kv) (qs.map fun kv => if kv.1 = q then (kv.1, v) else kv)
  | [], qs, h => by
    simp only [RepK] at h
    subst h
    simp only [List.map_nil, RepK]
  | (l, e) :: s, qs, h => by
    simp only [RepK] at h
    obtain ⟨p, w, t, rfl, h1, h2, h3⟩ := h
    simp only [List.map_cons]
    rw [keyD_deq h1 hk]
    by_cases e : p = q
    · subst e
      simp only [if_true, decide_true, RepK]
      exact ⟨p, v, _, rfl, h1, r, RepK.map hk r h3⟩
    · simp only [e, if_false, decide_false, Bool.false_eq_true, RepK]
      exact ⟨p, w, _, rfl, h1, h2, RepK.map hk r h3⟩
theorem RepK.snoc {F : Hp} {k : D} {q : Key} {d : D} {v : V} (hk : keyD k = some q) (r : Rep cl F d v) : ∀ {ks : List (D × D)} {qs : List (Key × V)}, RepK cl F ks qs → RepK cl F (ks ++ [(k, d)]) (qs ++ [(q, v)])
  | [], qs, h => by
    simp only [RepK] at h
    subst h
    simp only [List.nil_append, RepK]
    exact ⟨q, v, [], rfl, hk, r, rfl⟩
  | (l, e) :: s, qs, h => by
    simp only [RepK] at h
    obtain ⟨p, w, t, rfl, h1, h2, h3⟩ := h
    simp only [List.cons_append, RepK]
    exact ⟨p, w, _, rfl, h1, h2, RepK.snoc hk r h3⟩
theorem RepK.put {F : Hp} {k : D} {q : Key} {d : D} {v : V} {ks : List (D × D)} {qs : List (Key × V)} (hk : keyD k = some q) (r : Rep cl F d v) (h : RepK cl F ks qs) : RepK cl F (putD k d ks) (putK qs q v) := by
  unfold putD putK
  have e : (qs.any fun kv => decide (kv.1 = q)) = (lookD k ks).isSome := by
    rw [valV_any]
    rcases lookK hk h with ⟨a, b⟩ | ⟨_, _, a, b, _⟩ <;> rw [a, b] <;> rfl
  rw [e]
  split
  · exact RepK.map hk r h
  · exact RepK.snoc hk r h
def putDI (i : Nat) (ks : List (D × D)) (v k : D) (env : HEnv) : SO := if (keyD k).isSome = true ∧ ks.length < sizeLine then .nx (env.set i (.own (.dic false (putD k v ks)))) else .stuck
def mPutD (i : Nat) (mk mv : HEnv → R D) : HEnv → SO := fun env => match env[i]? with
  | some (.own (.dic false ks)) => sB mv (fun v env => sB mk (fun k env => putDI i ks v k env) env) env
  | _ => .stuck
section
variable {X : Cx} {W : WX} {pos : Pos} {o i e : Expr} {ma mb : HEnv → R D}
theorem dn_dict0 : PE X (.Dict [] [] pos) (tN cl W (fun _ => .ok (.dic false []))) :=
  pe_weak pe_dnewK fun σ H Q ⟨F0, H0, F, env, s, q⟩ p hp => PostG.new q s.sub hp ⟨[], rfl, by simp only [RepK]⟩
theorem ds_putD {k : Nat} {tp : Pos} (hu : X.A.units + 1 < cLine) (he : PE X e (tF cl W mb)) (ho : PE X o (tVar k)) (hi : PE X i (tF cl W ma)) (hs : swapsWith e (some (.Subscript o i tp)) pos.line X.env = pure false := by rfl) :
    PS X (.Assign [.Subscript o i tp] e pos) (tS cl W (mPutD k ma mb)) := by
  refine ps_weak (ps_dput hu ho hi he hs) fun Dn σ H q => ?_
  obtain ⟨F0, H0, F, env, s, q⟩ := q
  refine ⟨F0, H0, F, env, s, ?_⟩
  unfold mPutD at q
  split at q
  case h_2 => exact q.elim
  rename_i ks ei
  unfold sB at q
  cases em : mb env with
  | er x =>
    rw [em] at q
    exact fun cls dd F' H' k' s' r => q cls dd σ F' H' k'.ext (s.step k' s') r
  | stuck => rw [em] at q; exact q.elim
  | ok d =>
    rw [em] at q
    simp only at q
    intro v F1 H1 k1 s1 r1
    replace q := PostS.ext q k1.ext
    have st1 := s.step k1 s1
    obtain ⟨p, hsi, hf, h0, u, hu, ⟨qs, rfl, rl⟩, mu⟩ := st1.own k _ (oL_own ei)
    refine ⟨.ref p, hsi, ?_⟩
    refine ⟨F0, H0, F1, env, st1, ?_⟩
    cases en : ma env with
    | er x =>
      rw [en] at q
      exact fun cls dd F' H' k' s' r => q cls dd σ F' H' k'.ext (st1.step k' s') r
    | stuck => rw [en] at q; exact q.elim
    | ok kd =>
      rw [en] at q
      simp only at q
      intro w F2 H2 k2 s2 r2
      have st2 := st1.step k2 s2
      unfold putDI at q
      split at q
      case isFalse => exact q.elim
      rename_i hc
      obtain ⟨q', hq⟩ := Option.isSome_iff_exists.mp hc.1
      have rw' : w = kV q' := keyD_rep hq (r2.atom (F' := F2) (by cases kd <;> simp [keyD] at hq <;> rfl))
      have hp2 := k2.same _ _ hu
      refine ⟨p, _, rfl, .inl ⟨qs, q', hp2, rw', by rw [rl.len]; exact hc.2, rfl⟩, ?_⟩
      have q2 := PostS.ext q k2.ext
      exact q2 σ F2 _ (Ext.refl F2) (st2.writeOwn ei hsi (k2.fr p _ hu hf) h0 ⟨_, rfl, (rl.ext k2.ext).put hq (r1.ext k2.ext)⟩ rfl)
/-! ### clear -/
theorem mt_clearD : MtR X "dict.clear" (fun x xs H Q => ∃ a kvs, x = .ref a ∧ xs = [] ∧ H a = some (.dK kvs) ∧ Q .non (upd H a (.dK []))) := by
  intro pins s σ H x xs v us Q I rx rv ⟨a, kvs, e1, e2, hH, q⟩
  subst e1 e2
  cases rx
  have hus := rv.zero
  subst hus
  exact d_clear I hH fun s' I' => ⟨.non, _, I', rfl, q⟩
def clearDD : D → R D
  | .dic false _ => .ok (.dic false [])
  | _ => .stuck
theorem ds_clearD {o : Expr} {apos cpos : Pos} {i : Nat} (ho : PE X o (tVar i)) (h1 : attributeBase o "clear" X.env (eval o X.env) = eval o X.env := by rfl) (h3 : (apos.endLine == cpos.line) = true := by rfl)
    (hs : swapsWith (.Call (.Attribute o "clear" apos) [] [] cpos) none pos.line X.env = pure false := by rfl) : PS X (.Expr (.Call (.Attribute o "clear" apos) [] [] cpos) pos) (tS cl W (mOwn0 i clearDD)) := by
  refine ds_own0 (T := "dict") PySem.F.plainAttrs_dict PySem.F.slot_dict_clear PySem.F.type_dict_clear mt_clearD (fun F H p c c' u Q s hu ob ef q => ?_) (fun c c' ef => ?_) ho h1 h3 hs
  · unfold clearDD at ef
    split at ef
    · cases ef
      obtain ⟨qs, rfl, rl⟩ := ob
      exact ⟨p, qs, rfl, rfl, hu, q _ ⟨[], rfl, by simp only [RepK]⟩ rfl⟩
    · cases ef
  · unfold clearDD at ef
    split at ef
    · rfl
    · cases ef
/-! ### list(d) -/
theorem keysV {F : Hp} : ∀ {ks : List (D × D)} {qs : List (Key × V)}, RepK cl F ks qs → RepL cl F (ks.map (·.1)) (qs.map fun kv => kV kv.1)
  | [], qs, h => by
    simp only [RepK] at h
    subst h
    simp only [List.map_nil, RepL]
  | (l, e) :: s, qs, h => by
    simp only [RepK] at h
    obtain ⟨p, w, t, rfl, h1, h2, h3⟩ := h
    simp only [List.map_cons, RepL]
    refine ⟨_, _, rfl, ?_, keysV h3⟩
    cases l <;> simp only [keyD] at h1 <;> first | cases h1 | skip
    · simp only [Rep]; rfl
    · simp only [Rep]; rfl
end
end
end HL

/-! list(d); a dict locked over an expression; its keys walked. -/
namespace HL
open PySem PySem.Spec PyProof.Rows L2
theorem vals_of_get : ∀ {ys : List V} {us : List Value}, ys.length = us.length → (∀ (i : Nat) (y : V) (u : Value), ys[i]? = some y → us[i]? = some u → RelV y u) → Vals ys us
  | [], [], _, _ => .nil
  | [], _ :: _, h, _ => by cases h
  | _ :: _, [], h, _ => by cases h
  | y :: ys, u :: us, h, g => .cons (g 0 y u rfl rfl) (vals_of_get (by simpa using h) fun i a b e1 e2 => g (i + 1) a b (by simpa using e1) (by simpa using e2))
section
variable {cl : Cl}
theorem call_listK {X : Cx} (hcalm : X.calm = true) : CallR X (.type "list") (fun xs H Q => ∃ a kvs, xs = [.ref a] ∧ Rd H a (.dK kvs) ∧ ∀ l, H l = none → Q (.ref l) (upd H l (.lst (kvs.map fun kv => kV kv.1)))) := by
  intro pins s σ H xs us Q I r ⟨a, kvs, e1, rd, q⟩
  subst e1
  obtain ⟨u, rfl, rx⟩ := vals1 r
  cases rx
  obtain ⟨z, hs, vs, kv, o, es, ep, ho, hx, hdt, r3⟩ := rd.ok I.hok
  have l1 := r3.2.1.length
  have l2 : kvs.length = vs.length := Paired.length kv
  rw [Array.length_toList] at l1
  have hn : es.size ≤ sizeLine := by omega
  refine PySem.W.kdl_call (kdl_raw hs hx hdt) (I.ok.hd hcalm) ho hn fun h' tk acc' c' kp e2 it => ?_
  refine ⟨.ref s.heap.objs.size, _, I.laid (t' := tk) kp (Nat.le_refl _) (show ObjOk X.prog X.w _ h' _ (.lst (kvs.map fun kv => kV kv.1)) from ⟨by rw [List.length_map]; exact z, acc'.toList, c', ?_, by simpa using e2⟩), rfl, q _ (I.hok.fresh (Nat.le_refl _))⟩
  refine vals_of_get (by have := it.1; simp only [List.length_map, Array.length_toList]; omega) fun i y u h1 h2 => ?_
  rw [List.getElem?_map] at h1
  cases hk : kvs[i]? with
  | none => rw [hk] at h1; cases h1
  | some kv' =>
    rw [hk] at h1
    cases h1
    obtain ⟨k, v⟩ := kv'
    obtain ⟨w', hw, _⟩ := kv_get kv hk
    obtain ⟨en, hen, eu⟩ := it.2 i u (by simpa using h2)
    subst eu
    have hz : i < vs.length := (List.getElem?_eq_some_iff.mp hw).1
    have hk2 := (Pairs.get? r3.2.1 (by simpa using hen) hw).1
    exact relV_key hk2
/-! ### list(d) -/
def listD2 (d : D) : R D := match d with
  | .dic false ks => .ok (.lst (ks.map (·.1)))
  | d => listD d
def rListK : List V → Hp → VK → Prop := fun xs H Q => ∃ a kvs, xs = [V.ref a] ∧ Rd H a (.dK kvs) ∧ kvs.length ≤ sizeLine ∧ ∀ l, H l = none → Q (.ref l) (upd H l (.lst (kvs.map fun kv => kV kv.1)))
theorem call_listA {X : Cx} (hcalm : X.calm = true) : CallR X (.type "list") (fun xs H Q => rListOf X.K xs H Q ∨ ∃ a kvs, xs = [.ref a] ∧ Rd H a (.dK kvs) ∧ ∀ l, H l = none → Q (.ref l) (upd H l (.lst (kvs.map fun kv => kV kv.1)))) := CallR.or call_list_of (call_listK hcalm)
/-! ### one's own is lent out -/
def borS : Slot → Slot
  | .own d => .bor d
  | .lent d => .bor d
  | s => s
theorem borS_val {s : Slot} {d : D} (h : borS s = .val d) : s = .val d := by
  cases s <;> first | exact h | cases h
theorem borS_oL {s : Slot} : oL (borS s) = none := by
  cases s <;> rfl
theorem borS_at {env : HEnv} {j : Nat} {w : Slot} (h : (env.map borS)[j]? = some w) : ∃ s, env[j]? = some s ∧ borS s = w := by
  rw [List.getElem?_map] at h
  cases e : env[j]? with
  | none => rw [e] at h; cases h
  | some s => rw [e] at h; exact ⟨s, rfl, Option.some.inj h⟩
theorem borS_none {env : HEnv} {j : Nat} {d : D} (h : (env.map borS)[j]?.bind oL = some d) : False := by
  cases e : (env.map borS)[j]? with
  | none => rw [e] at h; cases h
  | some w =>
    rw [e] at h
    obtain ⟨s, _, rfl⟩ := borS_at e
    rw [show (some (borS s)).bind oL = oL (borS s) from rfl, borS_oL] at h
    cases h
theorem HSt.borrow {F0 : Bs} {H0 F H H1 : Hp} {env : HEnv} {σ : L2.St} (s : HSt cl F0 H0 F env σ H) (hs : Sub F H1) (hr : ∀ p u d, Rd H p u → ObjD cl F d u → Rd H1 p u) : HSt cl (F, fun _ => none) H1 F (env.map borS) σ H1 := by
  refine ⟨by rw [List.length_map]; exact s.len, hs, Kp.refl F H1, fun j d h => ?_, fun j d h => (borS_none h).elim, fun j d h => ?_, fun j d h => ?_, fun j k d e p h1 => (borS_none h1).elim⟩
  · obtain ⟨w, e, h2⟩ := borS_at h
    rw [borS_val h2] at e
    exact s.val j d e
  · exact (borS_none (oL_lent h)).elim
  · obtain ⟨w, e, h2⟩ := borS_at h
    cases w with
    | own c =>
      cases h2
      obtain ⟨p, a, b, c, u, hu, o, m⟩ := s.own j d (oL_own e)
      exact ⟨p, u, a, b, hr p u d (.inl hu) o, o, m⟩
    | lent c =>
      cases h2
      obtain ⟨p, a, b, c, u, hu, o, m⟩ := s.own j d (oL_lent e)
      exact ⟨p, u, a, b, hr p u d (.inl hu) o, o, m⟩
    | bor c =>
      cases h2
      obtain ⟨p, u, a, b, hu, o, m⟩ := s.bor j d e
      exact ⟨p, u, a, b, hr p u d (rdKp s.kp.same hu) o, o, m⟩
    | _ => cases h2
theorem PostG.nr' {α β : Type} {rel : Rel α β} {W : WX} {r : R α} {F H : Hp} {σ : L2.St} {Q : β → Hp → Prop} (h : PostG cl rel W r.nr F σ H Q) : PostG cl rel W r F σ H Q := by
  cases r with
  | ok a => exact h
  | er e => exact h.elim
  | stuck => exact h
def isDK : HO → Prop
  | .dK _ => True
  | .dT _ => True
  | _ => False
theorem lock_read {F0 : Bs} {H0 F H : Hp} {env : HEnv} {σ : L2.St} {W : WX} {m : HEnv → R D} {p : Addr} {u : HO} {od : Obj} {Q : VK} (s : HSt cl F0 H0 F env σ H) (hp : H p = some u) (hk : isDK u) (q : PostG cl (relN cl) W (m (env.map borS)).nr F σ H Q) :
    tN cl W m σ (upd H p (.frz od u)) (fun v H' => H' p = some (.frz od u) ∧ Q v (upd H' p u)) := by
  have nf : ∀ o w, u ≠ .frz o w := fun o w e => by subst e; exact hk
  have nx : fixO u = false := by cases u <;> first | rfl | exact hk.elim
  have one : ∀ w, Rd H p w → w = u := fun w h => by
    rcases h with h | ⟨o, h⟩
    · rw [hp] at h; exact (Option.some.inj h).symm
    · rw [hp] at h; exact (nf o w (Option.some.inj h)).elim
  have rd1 : ∀ b w, Rd H b w → Rd (upd H p (.frz od u)) b w := fun b w h => by
    by_cases e : b = p
    · subst e
      rw [one w h]
      exact .inr ⟨od, upd_same⟩
    · rcases h with h | ⟨o, h⟩
      · exact .inl (by rw [upd_ne e]; exact h)
      · exact .inr ⟨o, by rw [upd_ne e]; exact h⟩
  have sb : Sub F (upd H p (.frz od u)) := fun b w e => by
    refine ⟨rd1 b w (s.sub.rd e), fun fx => ?_⟩
    by_cases eb : b = p
    · subst eb
      rw [one w (s.sub.rd e), nx] at fx
      cases fx
    · rw [upd_ne eb]
      exact s.sub.fix e fx
  refine ⟨(F, fun _ => none), _, F, env.map borS, s.borrow sb fun b w d h _ => rd1 b w h, ?_⟩
  show PostG cl (relN cl) W (m (env.map borS)) F σ (upd H p (.frz od u)) (fun v H' => H' p = some (.frz od u) ∧ Q v (upd H' p u))
  cases em : m (env.map borS) with
  | stuck => rw [em] at q; exact q.elim
  | er x => rw [em] at q; exact q.elim
  | ok d =>
    rw [em] at q
    intro v F' H' k s' r
    have hp' : H' p = some (.frz od u) := k.same _ _ upd_same
    refine ⟨hp', ?_⟩
    have fp : ∀ w, F' p = some w → w = u := fun w e => by
      cases ef : F p with
      | none =>
        rw [k.fr p _ upd_same ef] at e
        cases e
      | some z =>
        have := one z (s.sub.rd ef)
        subst this
        have := k.ext p _ ef
        rw [this] at e
        exact (Option.some.inj e).symm
    have sm : Same H (upd H' p u) := fun b w e => by
      by_cases eb : b = p
      · subst eb
        rw [upd_same, ← hp]
        exact e
      · rw [upd_ne eb]
        exact k.same b w (by rw [upd_ne eb]; exact e)
    have s2 : Sub F' (upd H' p u) := fun b w e => by
      by_cases eb : b = p
      · subst eb
        rw [fp w e]
        exact ⟨.inl upd_same, fun z => by rw [nx] at z; cases z⟩
      · obtain ⟨a, b'⟩ := s' b w e
        refine ⟨?_, fun fx => by rw [upd_ne eb]; exact b' fx⟩
        rcases a with a | ⟨o, a⟩
        · exact .inl (by rw [upd_ne eb]; exact a)
        · exact .inr ⟨o, by rw [upd_ne eb]; exact a⟩
    refine q v F' _ ⟨k.ext, sm, fun b w e n => ?_⟩ s2 ?_
    · by_cases eb : b = p
      · subst eb
        exact k.fr b _ upd_same n
      · exact k.fr b w (by rw [upd_ne eb]; exact e) n
    · obtain ⟨l, a, b, c, w, hw, o⟩ := r
      have el : l ≠ p := fun z => by subst z; rw [upd_same] at b; cases b
      rw [upd_ne el] at b
      exact ⟨l, a, b, c, w, by rw [upd_ne el]; exact hw, o⟩
end
end HL

/-! Comprehensions over a dict's keys, the dict locked; list(d). -/
namespace HL
open PySem PySem.Spec PyProof.Rows L2
def slotD : Slot → Option D
  | .own d => some d
  | .lent d => some d
  | .bor d => some d
  | .val d => some d
  | .no => none
def keysL : D → R (List D)
  | .dic false ks => if ks.length ≤ sizeLine then .ok (ks.map (·.1)) else .stuck
  | _ => .stuck
def listDK : D → R D
  | .dic false ks => if ks.length ≤ sizeLine then .ok (.lst (ks.map (·.1))) else .stuck
  | d => listD d
section
variable {cl : Cl}
theorem listK_1 {K : PySem.W.Frag} : Un1 cl (relN cl) listDK (fun xs H Q => rListOf K xs H Q ∨ ∃ a kvs, xs = [.ref a] ∧ Rd H a (.dK kvs) ∧ ∀ l, H l = none → Q (.ref l) (upd H l (.lst (kvs.map fun kv => kV kv.1)))) := by
  intro W F H d v Q σ s r p
  unfold listDK at p
  split at p
  · split at p
    · rename_i hz
      obtain ⟨a, u, rfl, rd, qs, rfl, rk⟩ := r.obj s rfl
      exact .inr ⟨a, qs, rfl, rd, fun l hl => PostG.new p s hl ⟨_, rfl, keysV rk, by rw [List.length_map]; exact hz⟩⟩
    · exact p.elim
  · exact .inl (list_1 W F H _ v Q σ s r p)
theorem slot_at {F0 : Bs} {H0 F H : Hp} {env : HEnv} {σ : L2.St} (s : HSt cl F0 H0 F env σ H) {i : Nat} {d : D} (e : env[i]?.bind slotD = some d) (ha : atomD d = false) : ∃ p u, σ[i]? = some (some (.ref p)) ∧ Rd H p u ∧ ObjD cl F d u := by
  cases ei : env[i]? with
  | none => rw [ei] at e; cases e
  | some w =>
    rw [ei] at e
    cases w with
    | no => cases e
    | val c =>
      cases e
      obtain ⟨v, a, b⟩ := s.val i d ei
      obtain ⟨p, u, rfl, hu, o⟩ := b.obj ha
      exact ⟨p, u, a, s.sub.rd hu, o⟩
    | own c =>
      cases e
      obtain ⟨p, a, b, c, u, hu, o, m⟩ := s.own i d (oL_own ei)
      exact ⟨p, u, a, .inl hu, o⟩
    | lent c =>
      cases e
      obtain ⟨p, a, b, c, u, hu, o, m⟩ := s.own i d (oL_lent ei)
      exact ⟨p, u, a, .inl hu, o⟩
    | bor c =>
      cases e
      obtain ⟨p, u, a, b, hu, o, m⟩ := s.bor i d ei
      exact ⟨p, u, a, rdKp s.kp.same hu, o⟩
theorem mOwn_slot {i : Nat} {env : HEnv} {d : D} (h : mOwn i env = .ok d) : env[i]?.bind slotD = some d := by
  unfold mOwn at h
  split at h <;> first | (rename_i e; cases h; rw [e]; rfl) | cases h
theorem mOwn_er {i : Nat} {env : HEnv} {x : Er} : mOwn i env ≠ .er x := by
  unfold mOwn
  split <;> intro h <;> cases h
theorem itk_keys {F H : Hp} {p : Addr} {od : Obj} {qs : List (Key × V)} {ks : List (D × D)} (hH : H p = some (.frz od (.dK qs))) (rk : RepK cl F ks qs) (hz : ks.length ≤ sizeLine) : ItK cl (Itk p od qs) (ks.map (·.1)) F H where
  few := by rw [List.length_map]; exact hz
  stop := fun F1 H1 k s => ⟨k.same _ _ hH, by rw [List.length_map, rk.len]; exact Nat.le_refl _⟩
  go := fun i d F1 H1 e k s => ⟨k.same _ _ hH, by
    have := (List.getElem?_eq_some_iff.mp e).1
    rw [List.length_map] at this
    rw [rk.len]
    exact this⟩
  yld := fun i d F1 H1 x H2 e k s y => by
    obtain ⟨e1, q, v, e2, e3⟩ := y
    subst e1 e3
    obtain ⟨w, hw, rw'⟩ := (keysV rk).at e
    rw [List.getElem?_map, e2] at hw
    cases hw
    exact ⟨F1, Kp.refl _ _, s, rw'.ext k.ext⟩
theorem keys_locked {W : WX} {i : Nat} {σ : L2.St} {H : Hp} {p : Addr} {od : Obj} {qs : List (Key × V)} {R1 : It → Hp → Prop} (hσ : σ[i]? = some (some (.ref p))) (hH : H p = some (.frz od (.dK qs))) (q : tK cl W (m1 keysL (mOwn i)) σ H R1) : iKeys (tVar i) σ H R1 := by
  obtain ⟨F0, H0, F, env, s, q⟩ := q
  unfold m1 at q
  cases em : mOwn i env with
  | er x => exact (mOwn_er em).elim
  | stuck => rw [em] at q; exact q.elim
  | ok d =>
    rw [em] at q
    simp only [R.bind_ok] at q
    unfold keysL at q
    split at q
    case h_2 => exact q.elim
    rename_i ks
    split at q
    case isFalse => exact q.elim
    rename_i hz
    obtain ⟨p', u, a, rd, qs', rfl, rk⟩ := slot_at s (mOwn_slot em) rfl
    rw [hσ] at a
    cases a
    have eq : qs' = qs := by
      rcases rd with rd | ⟨o, rd⟩
      · rw [hH] at rd; cases rd
      · rw [hH] at rd; cases rd; rfl
    subst eq
    exact ⟨.ref p, hσ, p, od, rfl, .inl ⟨qs', hH, q (Itk p od qs') F H (Kp.refl F H) s.sub (itk_keys hH rk hz)⟩⟩
/-- the dict at slot i is locked meanwhile -/
def mLock (i : Nat) (m : HEnv → R D) : HEnv → R D := fun env => match env[i]?.bind slotD with
  | some (.dic false _) => (m (env.map borS)).nr
  | _ => .stuck
theorem lock_or {W : WX} {i : Nat} {m : HEnv → R D} {t : TE} {σ : L2.St} {H : Hp} {Q : VK}
    (ht : ∀ p od qs H' Q', σ[i]? = some (some (.ref p)) → H' p = some (.frz od (.dK qs)) → tN cl W m σ H' Q' → t σ H' Q') (q : tN cl W (mLock i m) σ H Q) : t σ H Q ∨ tLockE t σ H Q := by
  obtain ⟨F0, H0, F, env, s, q⟩ := q
  unfold mLock at q
  split at q
  case h_2 => exact q.elim
  rename_i ks e
  obtain ⟨p, u, hσ, rd, qs, rfl, rk⟩ := slot_at s e rfl
  rcases rd with rd | ⟨o, rd⟩
  · exact .inr ⟨p, _, rd, True.intro, fun od => ht p od qs _ _ hσ upd_same (lock_read s rd True.intro q)⟩
  · exact .inl (ht p o qs _ _ hσ rd ⟨(F, fun _ => none), H, F, env.map borS, s.borrow s.sub fun _ _ _ h _ => h, PostG.nr' q⟩)
theorem lockS_or {W : WX} {i : Nat} {m : HEnv → R D} {t : VK → L2.St → Hp → Prop} {t1 : TS} {Dn : Ends} {j : Nat} {σ : L2.St} {H : Hp} (he : ∀ Dn σ H, t1 Dn σ H = t (fun x H1 => gName j x σ H1 Dn.nx) σ H)
    (ht : ∀ p od qs H' Q', σ[i]? = some (some (.ref p)) → H' p = some (.frz od (.dK qs)) → tN cl W m σ H' Q' → t Q' σ H') (q : tN cl W (mLock i m) σ H (fun x H1 => gName j x σ H1 Dn.nx)) : t1 Dn σ H ∨ tLock t1 Dn σ H := by
  obtain ⟨F0, H0, F, env, s, q⟩ := q
  unfold mLock at q
  split at q
  case h_2 => exact q.elim
  rename_i ks e
  obtain ⟨p, u, hσ, rd, qs, rfl, rk⟩ := slot_at s e rfl
  rcases rd with rd | ⟨o, rd⟩
  · exact .inr ⟨p, _, rd, True.intro, fun od => by rw [he]; exact ht p od qs _ _ hσ upd_same (lock_read s rd True.intro q)⟩
  · exact .inl (by rw [he]; exact ht p o qs _ _ hσ rd ⟨(F, fun _ => none), H, F, env.map borS, s.borrow s.sub fun _ _ _ h _ => h, PostG.nr' q⟩)
end
section
variable {X : Cx} {cl : Cl} {W : WX} {pos : Pos}
theorem pe_or {e : Expr} {t t' : TE} (h : PE X e t) (h' : PE X e t') : PE X e (fun σ H Q => t σ H Q ∨ t' σ H Q) :=
  ⟨fun pins s σ H Q I q => q.elim (h.run pins s σ H Q I) (h'.run pins s σ H Q I)⟩
theorem ps_or {e : Stmt} {t t' : TS} (h : PS X e t) (h' : PS X e t') : PS X e (fun Dn σ H => t Dn σ H ∨ t' Dn σ H) :=
  ⟨fun pins s σ H Dn I q => q.elim (h.run pins s σ H Dn I) (h'.run pins s σ H Dn I)⟩
theorem dn_compK {elt tg iter : Expr} {ifs : List Expr} {scope : Scope} {own : List (Str × Nat)} {i : Nat} {is : List Nat} {g : D → HEnv → R HEnv} {t : HEnv → R Bool} {el : HEnv → R D} (hc : X.calm = true) (hN : X.N.Nodup) (hi : PE X iter (tVar i))
    (ok : BlkOk X.N X.env.scope scope own) (hin : ∀ i ∈ is, i ∈ own.map (·.2)) (hg : ∀ (s : Shared) (H : Hp) (C : Addr) (c : List (Str × Addr)) (fp : List Addr), PG (X.blk s H scope (compEnvC scope c C X.env) fp) tg (tTg cl is g))
    (ht : ∀ (s : Shared) (H : Hp) (C : Addr) (c : List (Str × Addr)) (fp : List Addr), PTs (X.blk s H scope (compEnvC scope c C X.env) fp) ifs (tT cl WNo t))
    (he : ∀ (s : Shared) (H : Hp) (C : Addr) (c : List (Str × Addr)) (fp : List Addr), PE (X.blk s H scope (compEnvC scope c C X.env) fp) elt (tF cl WNo el)) (hs : ∀ x, foldedSetIterable iter X.env x = pure x := by intro _; rfl) :
    PE X (.ListComp elt [⟨tg, iter, ifs, 0⟩] scope pos) (tN cl W (mLock i (mComp (own.map (·.2)) (m1 keysL (mOwn i)) g t el))) := by
  have h := pe_lc (pos := pos) hc hN (pi_keys (tg := tg) hi) ok hg ht he hs
  refine pe_weak (pe_or h (pe_lock h)) fun σ H Q q => ?_
  exact lock_or (fun p od qs H' Q' hσ hH q' => keys_locked hσ hH (read_comp hin q')) q
theorem dn_compK2 {elt tg iter tg1 iter1 : Expr} {ifs ifs1 : List Expr} {scope : Scope} {own : List (Str × Nat)} {i : Nat} {src1 : HEnv → R (List D)} {is is1 vs1 : List Nat} {g g1 : D → HEnv → R HEnv} {t t1 : HEnv → R Bool} {el : HEnv → R D} (hc : X.calm = true) (hN : X.N.Nodup) (hi : PE X iter (tVar i))
    (ok : BlkOk X.N X.env.scope scope own) (hin : ∀ i ∈ is, i ∈ own.map (·.2)) (hv : ∀ i ∈ vs1, i ∈ own.map (·.2)) (hin1 : ∀ i ∈ is1, i ∈ vs1) (hgv : GV g) (hg : ∀ (s : Shared) (H : Hp) (C : Addr) (c : List (Str × Addr)) (fp : List Addr), PG (X.blk s H scope (compEnvC scope c C X.env) fp) tg (tTg cl is g))
    (ht : ∀ (s : Shared) (H : Hp) (C : Addr) (c : List (Str × Addr)) (fp : List Addr), PTs (X.blk s H scope (compEnvC scope c C X.env) fp) ifs (tT cl WNo t))
    (hi1 : ∀ (s : Shared) (H : Hp) (C : Addr) (c : List (Str × Addr)) (fp : List Addr), PI (X.blk s H scope (compEnvC scope c C X.env) fp) tg1 iter1 (tI cl WNo src1))
    (hg1 : ∀ (s : Shared) (H : Hp) (C : Addr) (c : List (Str × Addr)) (fp : List Addr), PG (X.blk s H scope (compEnvC scope c C X.env) fp) tg1 (tTg cl is1 g1))
    (ht1 : ∀ (s : Shared) (H : Hp) (C : Addr) (c : List (Str × Addr)) (fp : List Addr), PTs (X.blk s H scope (compEnvC scope c C X.env) fp) ifs1 (tT cl WNo t1))
    (he : ∀ (s : Shared) (H : Hp) (C : Addr) (c : List (Str × Addr)) (fp : List Addr), PE (X.blk s H scope (compEnvC scope c C X.env) fp) elt (tF cl WNo el)) (hs : ∀ x, foldedSetIterable iter X.env x = pure x := by intro _; rfl) (hs1 : ∀ env x, foldedSetIterable iter1 env x = pure x := by intro _ _; rfl) :
    PE X (.ListComp elt [⟨tg, iter, ifs, 0⟩, ⟨tg1, iter1, ifs1, 0⟩] scope pos) (tN cl W (mLock i (mComp2 (own.map (·.2)) (m1 keysL (mOwn i)) g t src1 vs1 g1 t1 el))) := by
  have h := pe_lc2 (pos := pos) hc hN (pi_keys (tg := tg) hi) ok hv hg ht hi1 hg1 ht1 he hs hs1
  refine pe_weak (pe_or h (pe_lock h)) fun σ H Q q => ?_
  exact lock_or (fun p od qs H' Q' hσ hH q' => keys_locked hσ hH (read_comp2 hin hin1 hgv q')) q
end
end HL

/-! Dict comprehensions; y = [..] over a dict's keys. -/
namespace HL
open PySem PySem.Spec PyProof.Rows L2
def dcL (g : D → HEnv → R HEnv) (t : HEnv → R Bool) (kx vx : HEnv → R D) (env : HEnv) : List (D × D) → List D → R (List (D × D))
  | acc, [] => .ok acc
  | acc, d :: ds => match g d env with
    | .ok e => match t e with
      | .ok true => match kx e with
        | .ok k => match vx e with
          | .ok v => if (keyD k).isSome = true ∧ acc.length < sizeLine then dcL g t kx vx env (putD k v acc) ds else .stuck
          | _ => .stuck
        | _ => .stuck
      | .ok false => dcL g t kx vx env acc ds
      | _ => .stuck
    | _ => .stuck
def mDc (vs : List Nat) (src : HEnv → R (List D)) (g : D → HEnv → R HEnv) (t : HEnv → R Bool) (kx vx : HEnv → R D) : HEnv → R D := fun env => (src env).bind fun ds => match dcL g t kx vx (wipeE env vs) [] ds with
  | .ok ys => .ok (.dic false ys)
  | _ => .stuck
section
variable {X : Cx} {cl : Cl} {W : WX} {pos : Pos}
theorem read_dc {own : List (Str × Nat)} {src : HEnv → R (List D)} {is : List Nat} {g : D → HEnv → R HEnv} {t : HEnv → R Bool} {kx vx : HEnv → R D} (hi : ∀ i ∈ is, i ∈ own.map (·.2)) {σ : L2.St} {H : Hp} {Q : VK}
    (q : tN cl W (mDc (own.map (·.2)) src g t kx vx) σ H Q) : tDc (tK cl W src) (tTg cl is g) (tT cl WNo t) (tF cl WNo kx) (tF cl WNo vx) (own.map (·.2)) σ H Q := by
  unfold mDc at q
  refine bindG (k := fun ds env => match dcL g t kx vx (wipeE env (own.map (·.2))) [] ds with
    | .ok ys => .ok (.dic false ys)
    | _ => .stuck) oldN q fun ds J F0 H0 F1 env Hs H1 s it p A hA => ?_
  have sw := s.wiped (own.map (·.2))
  generalize wipeE env (own.map (·.2)) = envw at p sw
  cases ec : dcL g t kx vx envw [] ds with
  | er x => rw [ec] at p; exact p.elim
  | stuck => rw [ec] at p; exact p.elim
  | ok ys =>
    rw [ec] at p
    have wn : ∀ {j : Nat} {e : D}, envw[j]?.bind oL = some e → (wipe σ (own.map (·.2)))[j]? ≠ some (some (.ref A)) := fun {j e} h z => by
      obtain ⟨q, a, _, _, u, hu, _⟩ := sw.own j e h
      rw [a] at z
      cases z
      rw [hA] at hu
      cases hu
    have h0A : H0 A = none := s.kp.same.free hA
    refine ⟨fun i m H => m = ds.length - i ∧ i ≤ ds.length ∧ ∃ F2 acc vs, Kp F1 H1 F2 H ∧ HSt cl F0 H0 F2 envw (wipe σ (own.map (·.2))) H ∧ F2 A = none ∧ H A = some (.dK vs) ∧ RepK cl F2 acc vs ∧ dcL g t kx vx envw acc (ds.drop i) = .ok ys,
      ⟨ds.length, by simp, Nat.zero_le _, F1, [], [], kp_new hA, sw.other (sub_none s.sub hA) h0A (fun j e h => wn h), sub_none s.sub hA, upd_same, by simp only [RepK], by simpa using ec⟩, fun i m H2 ⟨em, hi2, F2, acc, vs, k2, s2, f2, e2, r2, c2⟩ => ?_⟩
    subst em
    by_cases hl : i < ds.length
    · refine .inr ⟨it.go i _ F2 H2 (List.getElem?_eq_getElem hl) k2 s2.sub, fun H' => i + 1 ≤ ds.length ∧ ∃ F2 acc vs, Kp F1 H1 F2 H' ∧ HSt cl F0 H0 F2 envw (wipe σ (own.map (·.2))) H' ∧ F2 A = none ∧ H' A = some (.dK vs) ∧ RepK cl F2 acc vs ∧ dcL g t kx vx envw acc (ds.drop (i + 1)) = .ok ys,
        fun H' ⟨h1, h2⟩ => ⟨ds.length - (i + 1), by omega, rfl, h1, h2⟩, fun x H' y => ?_⟩
      obtain ⟨F3, k3, s3, r3⟩ := it.yld i _ F2 H2 x H' (List.getElem?_eq_getElem hl) k2 s2.sub y
      refine ⟨F0, H0, F3, envw, _, s2.step k3 s3, r3, ?_⟩
      rw [List.drop_eq_getElem_cons hl] at c2
      simp only [dcL] at c2
      cases eg : g ds[i] envw with
      | er x => simp only [eg] at c2; cases c2
      | stuck => simp only [eg] at c2; cases c2
      | ok e1 =>
        simp only [eg] at c2 ⊢
        intro σ4 s4 l4 n4
        refine ⟨wipe_eq (by rw [l4, wipe_length]) hi n4, ?_⟩
        refine ⟨F0, H0, F3, e1, s4, ?_⟩
        cases et : t e1 with
        | er x => simp only [et] at c2; cases c2
        | stuck => simp only [et] at c2; cases c2
        | ok c =>
          simp only [et] at c2
          intro c' F5 H5 k5 s5 ec'
          obtain rfl : c' = c := ec'
          have k25 : Kp F2 H2 F5 H5 := k3.trans k5
          cases c' with
          | false =>
            rw [if_neg (by decide)]
            exact ⟨hl, F5, acc, vs, k2.trans k25, s2.step k25 s5, k25.fr A _ e2 f2, k25.same _ _ e2, r2.ext k25.ext, c2⟩
          | true =>
            rw [if_pos rfl]
            simp only at c2
            refine ⟨F0, H0, F5, e1, s4.step k5 s5, ?_⟩
            cases ek : kx e1 with
            | er x => simp only [ek] at c2; cases c2
            | stuck => simp only [ek] at c2; cases c2
            | ok kd =>
              simp only [ek] at c2
              intro w F6 H6 k6 s6 r6
              refine ⟨F0, H0, F6, e1, (s4.step k5 s5).step k6 s6, ?_⟩
              cases ee : vx e1 with
              | er x => simp only [ee] at c2; cases c2
              | stuck => simp only [ee] at c2; cases c2
              | ok yd =>
                simp only [ee] at c2
                split at c2
                case isFalse => cases c2
                rename_i hc
                obtain ⟨q', hq⟩ := Option.isSome_iff_exists.mp hc.1
                intro v F7 H7 k7 s7 r7
                have k27 : Kp F2 H2 F7 H7 := (k25.trans k6).trans k7
                have s27 : HSt cl F0 H0 F7 envw (wipe σ (own.map (·.2))) H7 := s2.step k27 s7
                have f7 : F7 A = none := k27.fr A _ e2 f2
                refine ⟨vs, q', keyD_rep hq r6, k27.same _ _ e2, by rw [r2.len]; exact hc.2, ?_⟩
                refine ⟨hl, F7, putD kd yd acc, putK vs q' v, ⟨(k2.trans k27).ext, fun b o e => ?_, (k2.trans k27).fr⟩, s27.other f7 h0A (fun j e h => wn h), f7, upd_same, (r2.ext k27.ext).put hq r7, c2⟩
                rw [upd_ne (ne_of_none e hA)]
                exact (k2.trans k27).same b o e
    · have e : i = ds.length := by omega
      subst e
      refine .inl ⟨it.stop F2 H2 k2 s2.sub, ?_⟩
      simp only [List.drop_length, dcL] at c2
      cases c2
      exact p _ F2 H2 k2 s2.sub ⟨A, rfl, hA, f2, _, e2, ⟨vs, rfl, r2⟩, rfl⟩
theorem dn_dc {kx vx tg iter : Expr} {ifs : List Expr} {scope : Scope} {own : List (Str × Nat)} {src : HEnv → R (List D)} {is : List Nat} {g : D → HEnv → R HEnv} {t : HEnv → R Bool} {mk mv : HEnv → R D} (hc : X.calm = true) (hN : X.N.Nodup) (hi : PI X tg iter (tK cl W src))
    (ok : BlkOk X.N X.env.scope scope own) (hin : ∀ i ∈ is, i ∈ own.map (·.2)) (hg : ∀ (s : Shared) (H : Hp) (C : Addr) (c : List (Str × Addr)) (fp : List Addr), PG (X.blk s H scope (compEnvC scope c C X.env) fp) tg (tTg cl is g))
    (ht : ∀ (s : Shared) (H : Hp) (C : Addr) (c : List (Str × Addr)) (fp : List Addr), PTs (X.blk s H scope (compEnvC scope c C X.env) fp) ifs (tT cl WNo t))
    (hk : ∀ (s : Shared) (H : Hp) (C : Addr) (c : List (Str × Addr)) (fp : List Addr), PE (X.blk s H scope (compEnvC scope c C X.env) fp) kx (tF cl WNo mk))
    (he : ∀ (s : Shared) (H : Hp) (C : Addr) (c : List (Str × Addr)) (fp : List Addr), PE (X.blk s H scope (compEnvC scope c C X.env) fp) vx (tF cl WNo mv)) (hs : ∀ x, foldedSetIterable iter X.env x = pure x := by intro _; rfl) :
    PE X (.DictComp kx vx [⟨tg, iter, ifs, 0⟩] scope pos) (tN cl W (mDc (own.map (·.2)) src g t mk mv)) := pe_weak (pe_dc hc hN hi ok hg ht hk he hs) fun σ H Q q => read_dc hin q
/-- y = [.. for k in d for ..], y not changed later -/
theorem ds_setLcK2F {i j : Nat} {y : Str} {py : Pos} {spos : Pos} {elt tg iter tg1 iter1 : Expr} {ifs ifs1 : List Expr} {scope : Scope} {own : List (Str × Nat)} {src1 : HEnv → R (List D)} {is is1 vs1 : List Nat} {g g1 : D → HEnv → R HEnv} {t t1 : HEnv → R Bool} {el : HEnv → R D} (hc : X.calm = true) (hN : X.N.Nodup)
    (hy : X.N[i]? = some y) (hyl : X.env.scope.names.lookup y = some .local) (hsw : swapsWith (.ListComp elt [⟨tg, iter, ifs, 0⟩, ⟨tg1, iter1, ifs1, 0⟩] scope pos) (some (.Name y py)) spos.line X.env = pure true) (hi : PE X iter (tVar j))
    (ok : BlkOk X.N X.env.scope scope own) (hin : ∀ i ∈ is, i ∈ own.map (·.2)) (hv : ∀ i ∈ vs1, i ∈ own.map (·.2)) (hin1 : ∀ i ∈ is1, i ∈ vs1) (hgv : GV g) (hg : ∀ (s : Shared) (H : Hp) (C : Addr) (c : List (Str × Addr)) (fp : List Addr), PG (X.blk s H scope (compEnvC scope c C X.env) fp) tg (tTg cl is g))
    (ht : ∀ (s : Shared) (H : Hp) (C : Addr) (c : List (Str × Addr)) (fp : List Addr), PTs (X.blk s H scope (compEnvC scope c C X.env) fp) ifs (tT cl WNo t))
    (hi1 : ∀ (s : Shared) (H : Hp) (C : Addr) (c : List (Str × Addr)) (fp : List Addr), PI (X.blk s H scope (compEnvC scope c C X.env) fp) tg1 iter1 (tI cl WNo src1))
    (hg1 : ∀ (s : Shared) (H : Hp) (C : Addr) (c : List (Str × Addr)) (fp : List Addr), PG (X.blk s H scope (compEnvC scope c C X.env) fp) tg1 (tTg cl is1 g1))
    (ht1 : ∀ (s : Shared) (H : Hp) (C : Addr) (c : List (Str × Addr)) (fp : List Addr), PTs (X.blk s H scope (compEnvC scope c C X.env) fp) ifs1 (tT cl WNo t1))
    (he : ∀ (s : Shared) (H : Hp) (C : Addr) (c : List (Str × Addr)) (fp : List Addr), PE (X.blk s H scope (compEnvC scope c C X.env) fp) elt (tF cl WNo el)) (hs : ∀ x, foldedSetIterable iter X.env x = pure x := by intro _; rfl) (hs1 : ∀ env x, foldedSetIterable iter1 env x = pure x := by intro _ _; rfl) :
    PS X (.Assign [.Name y py] (.ListComp elt [⟨tg, iter, ifs, 0⟩, ⟨tg1, iter1, ifs1, 0⟩] scope pos) spos) (tS cl W (mSet i (mLock j (mComp2 (own.map (·.2)) (m1 keysL (mOwn j)) g t src1 vs1 g1 t1 el)))) := by
  have h := ps_setLc2 hc hN hy hyl hsw (pi_keys (tg := tg) hi) ok hv hg ht hi1 hg1 ht1 he hs hs1
  refine ps_weak (ps_or h (ps_lock h)) fun Dn σ H q => ?_
  exact lockS_or (cl := cl) (W := W) (j := i) (t := fun Q σ H => tLc2 (iKeys (tVar j)) (tTg cl is g) (tT cl WNo t) (tI cl WNo src1) (tTg cl is1 g1) (tT cl WNo t1) (tF cl WNo el) (own.map (fun p : Str × Nat => p.2)) vs1 σ H Q) (fun _ _ _ => rfl) (fun p od qs H' Q' hσ hH q' => keys_locked hσ hH (read_comp2 hin hin1 hgv q')) (nf_read (read_set q))
end
end HL

/-! == and != of dicts. -/
namespace HLQ
open PySem PySem.W PySem.Calls PyProof.Rows PyProof.V PySem.Spec
section
variable {prog : Program} {w : World} {K : Type} [DecidableEq K] {knd : KeyKind prog w K} {A : Around} {E : Value → Shared → Prop} {s : Shared}
theorem rcP_ne_dicts {a b : Addr} {ka kb : List (K × Value)} {r : Bool} (ha : (a == sysModules) = false) (hb : (b == sysModules) = false)
    (da : s.heap.DictOf knd a ka) (db : s.heap.DictOf knd b kb) (hu : A.units < cLine) (hits : ka.length = kb.length → KeqHitsP prog w A.in1 s kb ka r) (E Q : Value → Shared → Prop) (h : Q (.bool (!(ka.length == kb.length && r))) s) : wpAny (model prog w) A (richCompare .NotEq (.ref a) (.ref b)) Q E s := by
  refine wpAny_richCompare_same_room (op := .NotEq) da.typeIs db.typeIs PySem.F.slot_dict_ne (wpAny_call_entry PySem.F.slot_dict_ne da.typeIs PySem.F.entry_dict_ne ?_ (PySem.F.args_dict_ne_2 _ _)) hu
  show wpAny _ _ (Builtin.Dict.dictSlotArgs "__ne__" ⟨[.ref a, .ref b], []⟩ >>= _) _ _ s
  refine wpAny_bind ?_
  unfold Builtin.Dict.dictSlotArgs
  refine wpAny_bind (wpAny_notOrdered_dict da.typeIs ?_)
  show wpAny _ _ (pure (Value.ref a, Value.ref b)) _ _ s
  refine wpAny_pure ?_
  refine wpAny_bind (wpAny_isInstance (T := "dict") db.typeIs PySem.F.sub_dict_dict ?_)
  simp only [Bool.not_true, Bool.false_eq_true, if_false]
  refine wpAny_bind (wpAny_pure (wpAny_bind (wpAny_pure ?_)))
  refine wpAny_bind (samePairsP ha hb da db hits ?_)
  refine wpAny_pure ⟨_, rfl, ?_, ?_⟩
  · exact fun x => nomatch x
  · cases hq : (ka.length == kb.length && r) <;> (rw [hq] at h; exact h)
end
end HLQ
namespace HL
open PySem PySem.Spec PyProof.Rows L2
def deqK (ka kb : List (D × D)) : Bool := ka.length == kb.length && ka.all fun kv => match lookD kv.1 kb with
  | some d => deq kv.2 d
  | none => false
def simK (ks : List (D × D)) : Bool := ks.all fun kv => simp? 50 kv.2
section
variable {cl : Cl} {X : Cx} {pins : List (Addr × Obj)} {σ : L2.St} {H F : Hp} {s : Shared}
theorem lookD_mem {k : D} : ∀ {ks : List (D × D)} {d : D}, lookD k ks = some d → ∃ kv ∈ ks, kv.2 = d
  | [], d, h => by simp [lookD] at h
  | (l, e) :: r, d, h => by
    simp only [lookD] at h
    split at h
    · cases h
      exact ⟨_, List.mem_cons_self, rfl⟩
    · obtain ⟨kv, a, b⟩ := lookD_mem h
      exact ⟨kv, List.mem_cons_of_mem _ a, b⟩
theorem hitsD (I : L2.Inv X pins σ H s) (hs : Sub F H) {A : Around} (hu : A.units + 50 < cLine) {kb : List (D × D)} {qb : List (Key × V)} {vb : List (Key × Value)} (rb : RepK cl F kb qb) (vbr : KV qb vb) (sb : simK kb = true) :
    ∀ {ka : List (D × D)} {qa : List (Key × V)} {va : List (Key × Value)}, RepK cl F ka qa → KV qa va → simK ka = true → PySem.W.KeqHitsP X.prog X.w A s vb va (ka.all fun kv => match lookD kv.1 kb with
      | some d => deq kv.2 d
      | none => false)
  | [], qa, va, h, r, _ => by
    simp only [RepK] at h
    subst h
    cases r
    exact .nil
  | (k, d) :: ka, qa, va, h, r, sa => by
    simp only [RepK] at h
    obtain ⟨q, v, t, rfl, h1, h2, h3⟩ := h
    cases r with
    | cons e1 e2 =>
      rename_i p ps
      obtain ⟨key, u⟩ := p
      obtain ⟨e3, e4⟩ := e1
      have e3' : q = key := e3
      subst e3'
      simp only [simK, List.all_cons, Bool.and_eq_true] at sa
      have ih := hitsD I hs hu rb vbr sb h3 e2 sa.2
      have rv := vbr.val q
      simp only [List.all_cons]
      rcases lookK h1 rb with ⟨a, b⟩ | ⟨d', v', a, b, c⟩
      · rw [b] at rv
        rw [a]
        simp only [Bool.false_and]
        exact .miss (by cases hv : valueAt vb q with
          | none => rfl
          | some z => rw [hv] at rv; cases rv)
      · rw [b] at rv
        rw [a]
        simp only
        obtain ⟨y, hy, ry⟩ := rv.some_of
        refine .hit hy ?_ ih
        obtain ⟨kv, km, rfl⟩ := lookD_mem a
        have sd : simp? 50 kv.2 = true := (List.all_eq_true.mp sb) kv km
        exact (eq_of_rc e4 h2 (fun z => by
          rw [z] at e4
          have : v = v' := RelV.inj e4 ry
          subst this
          rw [Rep.inj sa.1 sd h2 c]
          exact deq_refl _ sd) (rc_data I hs 50 A d kv.2 v v' _ _ sa.1 sd hu (.inl h2) (.inl c) e4 ry)).eqP
def rDicE (cl : Cl) (neg : Bool) : R2 := fun x y H Q => ∃ F ka kb, Sub F H ∧ BRep cl F H (.dic false ka) x ∧ BRep cl F H (.dic false kb) y ∧ simK ka = true ∧ simK kb = true ∧ Q (.bl (if neg = true then !deqK ka kb else deqK ka kb)) H
theorem op_eqK {X : Cx} (hu : X.A.units + 64 < cLine) : OpR X (compareOp .Eq) (rDicE cl false) := by
  intro pins s σ H x y v u Q I rx ry ⟨F, ka, kb, hs, r1, r2, z1, z2, q⟩
  obtain ⟨a, w1, rfl, rd1, qa, rfl, ra⟩ := r1.obj hs rfl
  obtain ⟨b, w2, rfl, rd2, qb, rfl, rb⟩ := r2.obj hs rfl
  cases rx
  cases ry
  obtain ⟨_, ya, va, kva, da⟩ := dk_rd I.hok rd1
  obtain ⟨_, yb, vb, kvb, db⟩ := dk_rd I.hok rd2
  refine PySem.W.rcP_dicts ya yb da db (by omega) (fun _ => hitsD I hs (A := X.A.in1) (by show X.A.units + 1 + 50 < cLine; omega) rb kvb z2 ra kva z1) _ _ ⟨.bl _, H, I, rfl, ?_⟩
  rw [show va.length = ka.length from by rw [← kva.length, ra.len], show vb.length = kb.length from by rw [← kvb.length, rb.len]]
  exact q
theorem op_neK {X : Cx} (hu : X.A.units + 64 < cLine) : OpR X (compareOp .NotEq) (rDicE cl true) := by
  intro pins s σ H x y v u Q I rx ry ⟨F, ka, kb, hs, r1, r2, z1, z2, q⟩
  obtain ⟨a, w1, rfl, rd1, qa, rfl, ra⟩ := r1.obj hs rfl
  obtain ⟨b, w2, rfl, rd2, qb, rfl, rb⟩ := r2.obj hs rfl
  cases rx
  cases ry
  obtain ⟨_, ya, va, kva, da⟩ := dk_rd I.hok rd1
  obtain ⟨_, yb, vb, kvb, db⟩ := dk_rd I.hok rd2
  refine HLQ.rcP_ne_dicts ya yb da db (by omega) (fun _ => hitsD I hs (A := X.A.in1) (by show X.A.units + 1 + 50 < cLine; omega) rb kvb z2 ra kva z1) _ _ ⟨.bl _, H, I, rfl, ?_⟩
  rw [show va.length = ka.length from by rw [← kva.length, ra.len], show vb.length = kb.length from by rw [← kvb.length, rb.len]]
  exact q
/-- == and !=, also of dicts -/
def eqDK : D → D → R D := fun d e => match d, e with
  | .dic false ka, .dic false kb => if simK ka = true ∧ simK kb = true then .ok (.bl (deqK ka kb)) else .stuck
  | d, e => eqD d e
def neDK : D → D → R D := fun d e => match d, e with
  | .dic false ka, .dic false kb => if simK ka = true ∧ simK kb = true then .ok (.bl (!deqK ka kb)) else .stuck
  | d, e => neD d e
theorem eqK_2 : Op2 cl (relF cl) eqDK (fun x y H Q => rSim cl false x y H Q ∨ rDicE cl false x y H Q) := by
  intro W F H d e v u Q σ s r1 r2 p
  unfold eqDK at p
  split at p
  · split at p
    · rename_i h
      exact .inr ⟨F, _, _, s, r1, r2, h.1, h.2, PostG.done p s (by simp only [relF, Rep]; rfl)⟩
    · exact p.elim
  · exact .inl (eq_2 W F H _ _ v u Q σ s r1 r2 p)
theorem neK_2 : Op2 cl (relF cl) neDK (fun x y H Q => rSim cl true x y H Q ∨ rDicE cl true x y H Q) := by
  intro W F H d e v u Q σ s r1 r2 p
  unfold neDK at p
  split at p
  · split at p
    · rename_i h
      exact .inr ⟨F, _, _, s, r1, r2, h.1, h.2, PostG.done p s (by simp only [relF, Rep]; rfl)⟩
    · exact p.elim
  · exact .inl (ne_2 W F H _ _ v u Q σ s r1 r2 p)
theorem op_eqSK {X : Cx} (hu : X.A.units + 64 < cLine) : OpR X (compareOp .Eq) (fun x y H Q => rSim cl false x y H Q ∨ rDicE cl false x y H Q) := (op_eqS hu).or (op_eqK hu)
theorem op_neSK {X : Cx} (hu : X.A.units + 64 < cLine) : OpR X (compareOp .NotEq) (fun x y H Q => rSim cl true x y H Q ∨ rDicE cl true x y H Q) := (op_neS hu).or (op_neK hu)
end
end HL

/-! list.insert, remove, index of data; xs[::-1]. -/
namespace HL
open PySem PySem.Spec PyProof.Rows L2
def firstD (d : D) : List D → Option Nat
  | [] => none
  | x :: r => if deq x d = true then some 0 else (firstD d r).map (· + 1)
theorem firstD_at {d : D} : ∀ {ds : List D} {j : Nat}, firstD d ds = some j → ∃ x, ds[j]? = some x ∧ deq x d = true ∧ ∀ (m : Nat) (y : D), m < j → ds[m]? = some y → deq y d = false
  | [], j, h => by cases h
  | x :: r, j, h => by
    simp only [firstD] at h
    split at h
    · rename_i e
      cases h
      exact ⟨x, rfl, e, fun m y hm => absurd hm (Nat.not_lt_zero _)⟩
    · rename_i e
      cases hr : firstD d r with
      | none => rw [hr] at h; cases h
      | some k =>
        rw [hr] at h
        cases h
        obtain ⟨z, a, b, c⟩ := firstD_at hr
        refine ⟨z, by simpa using a, b, fun m y hm hy => ?_⟩
        cases m with
        | zero => cases hy; simpa using e
        | succ m => exact c m y (by simpa using hm) (by simpa using hy)
section
variable {cl : Cl}
theorem items_e {X : Cx} {pins : List (Addr × Obj)} {σ : L2.St} {H F : Hp} {s : Shared} (I : L2.Inv X pins σ H s) (hs : Sub F H) {A : Around} (hu : A.units + 50 < cLine) {ds : List D} {vs : List V} {its : List Value} {d : D} {y : V} {uy : Value}
    (rl : RepL cl F ds vs) (rv : Vals vs its) (ry : BRep cl F H d y) (ru : RelV y uy) (z1 : simpL? 50 ds = true) (z2 : sim d = true) :
    ∃ e : Value → Bool, (∀ (m : Nat) (x : D) (u : Value), ds[m]? = some x → its[m]? = some u → e u = deq x d) ∧ ∀ u, u ∈ its → SeqAt.EqAt A s u uy (e u) := by
  classical
  have uni : ∀ (m k : Nat) (x x' : D) (u : Value), ds[m]? = some x → its[m]? = some u → ds[k]? = some x' → its[k]? = some u → x = x' := fun m k x x' u h1 h2 h3 h4 => by
    obtain ⟨v, e1, p1⟩ := rl.at h1
    obtain ⟨v', e2, p2⟩ := rl.at h3
    have q1 := vals_at rv e1 h2
    have q2 := vals_at rv e2 h4
    have : v = v' := RelV.inj q1 q2
    subst this
    exact Rep.inj (simpL_at z1 h1) (simpL_at z1 h3) p1 p2
  have key : ∀ (m : Nat) (x : D) (u : Value), ds[m]? = some x → its[m]? = some u → decide (∃ (k : Nat) (x' : D), ds[k]? = some x' ∧ its[k]? = some u ∧ deq x' d = true) = deq x d := fun m x u h1 h2 => by
    cases hx : deq x d with
    | true => exact decide_eq_true ⟨m, x, h1, h2, hx⟩
    | false =>
      refine decide_eq_false fun ⟨k, x', h3, h4, h5⟩ => ?_
      rw [uni m k x x' u h1 h2 h3 h4, h5] at hx
      cases hx
  refine ⟨fun u => decide (∃ (k : Nat) (x' : D), ds[k]? = some x' ∧ its[k]? = some u ∧ deq x' d = true), key, fun u hu' => ?_⟩
  obtain ⟨m, hm, rfl⟩ := List.mem_iff_getElem.mp hu'
  have hl : ds.length = its.length := by rw [← rl.len, rv.length]
  have h1 : ds[m]? = some (ds[m]'(by omega)) := List.getElem?_eq_getElem (by omega)
  have h2 : its[m]? = some its[m] := List.getElem?_eq_getElem hm
  simp only [key m _ _ h1 h2]
  obtain ⟨v, e1, p1⟩ := rl.at h1
  have q1 := vals_at rv e1 h2
  have f1 := simpL_at z1 h1
  refine eq_of_rc q1 p1 (fun z => ?_) (rc_data I hs 50 A _ d v y _ _ f1 z2 hu (.inl p1) ry q1 ru)
  rw [z] at q1
  have : v = y := RelV.inj q1 ru
  subst this
  rw [brep_inj f1 z2 (.inl p1) ry]
  exact deq_refl _ z2
def rRemD (cl : Cl) : V → List V → Hp → VK → Prop := fun x xs H Q => ∃ F a ds d vs y j, Sub F H ∧ x = V.ref a ∧ xs = [y] ∧ H a = some (.lst vs) ∧ RepL cl F ds vs ∧ BRep cl F H d y ∧ simpL? 50 ds = true ∧ sim d = true ∧ firstD d ds = some j ∧ Q .non (upd H a (.lst (vs.eraseIdx j)))
theorem mt_removeD {X : Cx} (hu : X.A.units + 65 < cLine) : MtR X "list.remove" (rRemD cl) := by
  intro pins s σ H x xs v us Q I rx rxs ⟨F, a, ds, d, vs, y, j, hs, e1, e2, hH, rl, ry, z1, z2, hj, q⟩
  subst e1 e2
  cases rx
  obtain ⟨uy, rfl, ru⟩ := rxs.one
  obtain ⟨z, its, n, r, hl, e⟩ := I.lstM hH
  obtain ⟨ef, k1, k2⟩ := items_e I hs (A := X.A.in1) (by show X.A.units + 1 + 50 < cLine; omega) rl r ry ru z1 z2
  obtain ⟨xj, g1, g2, g3⟩ := firstD_at hj
  have hjd : j < ds.length := (List.getElem?_eq_some_iff.mp g1).1
  have hdl : ds.length = its.length := by rw [← rl.len, hl]
  have hjl : j < its.toArray.size := by rw [List.size_toArray]; omega
  refine call_meets PySem.F.slot_list_remove ⟨_, e, rfl⟩ PySem.F.entry_list_remove (PySem.F.args_list_remove_2 _ _)
    (SeqAt.list_removeAt a its.toArray n none #[] uy ef j hjl ?_ ?_ (by rw [List.size_toArray]; omega)) ⟨e, fun u hu' => k2 u (by simpa using hu'), ?_⟩
  · rw [k1 j xj its.toArray[j] g1 (by simp), g2]
  · intro m hm hmj
    have hml : m < its.length := by simpa using hm
    rw [k1 m ds[m] its.toArray[m] (List.getElem?_eq_getElem (by omega)) (by simp)]
    exact g3 m _ hmj (List.getElem?_eq_getElem (by omega))
  · refine ⟨.non, _, I.lset (its' := its.eraseIdx j) (t' := s.toks) hH e ?_ (r.eraseIdx j) ?_, rfl, q⟩
    · show its.toArray.eraseIdxIfInBounds j = (its.eraseIdx j).toArray
      rw [List.eraseIdxIfInBounds_toArray]
    · have z2 := len_erase vs j
      omega
def remD : D → D → R D
  | .lst ds, d => if simpL? 50 ds = true ∧ sim d = true then match firstD d ds with
    | some j => .ok (.lst (ds.eraseIdx j))
    | none => .stuck
    else .stuck
  | _, _ => .stuck
theorem RepL.erase {F : Hp} : ∀ {ds : List D} {vs : List V} {n : Nat}, RepL cl F ds vs → RepL cl F (ds.eraseIdx n) (vs.eraseIdx n)
  | [], vs, n, h => by
    simp only [RepL] at h
    subst h
    simp only [List.eraseIdx_nil, RepL]
  | c :: ds, vs, 0, h => by
    simp only [RepL] at h
    obtain ⟨u, s, rfl, a, b⟩ := h
    exact b
  | c :: ds, vs, n + 1, h => by
    simp only [RepL] at h
    obtain ⟨u, s, rfl, a, b⟩ := h
    simp only [List.eraseIdx_cons_succ, RepL]
    exact ⟨u, _, rfl, a, RepL.erase b⟩
theorem rem_own : OwnR1 cl remD (rRemD cl) := by
  intro F H p c d c' u v Q hs hu ob r e q
  cases c with
  | lst ds =>
    simp only [remD] at e
    split at e
    · rename_i h
      split at e
      · rename_i j hj
        cases e
        obtain ⟨vs, rfl, rl, z⟩ := ob
        refine ⟨F, p, ds, d, vs, v, j, hs, rfl, rfl, hu, rl, r, h.1, h.2, hj, q _ ⟨_, rfl, rl.erase, ?_⟩ rfl⟩
        have := len_erase ds j
        omega
      · cases e
    · cases e
  | _ => cases e
/-! ### index -/
def rIdxD (cl : Cl) (K : PySem.W.Frag) : V → List V → Hp → VK → Prop := fun x xs H Q => ∃ F a ds d vs y j, Sub F H ∧ x = V.ref a ∧ xs = [y] ∧ SqL K H a vs ∧ RepL cl F ds vs ∧ BRep cl F H d y ∧ simpL? 50 ds = true ∧ sim d = true ∧ firstD d ds = some j ∧ Q (.int (j : Nat)) H
theorem mt_idxD {X : Cx} (hu : X.A.units + 65 < cLine) : MtR X "list.index" (rIdxD cl X.K) := by
  intro pins s σ H x xs v us Q I rx rxs ⟨F, a, ds, d, vs, y, j, hs, e1, e2, hH, rl, ry, z1, z2, hj, q⟩
  subst e1 e2
  cases rx
  obtain ⟨uy, rfl, ru⟩ := rxs.one
  obtain ⟨its, r, ⟨⟨cls, dd, data, sls⟩, n, ho, hc, hdn, hdt⟩, hlen⟩ := I.list hH
  simp only at hc hdt
  subst hc hdt
  obtain ⟨ef, k1, k2⟩ := items_e I hs (A := X.A.in1) (by show X.A.units + 1 + 50 < cLine; omega) rl r ry ru z1 z2
  obtain ⟨xj, g1, g2, g3⟩ := firstD_at hj
  have hjd : j < ds.length := (List.getElem?_eq_some_iff.mp g1).1
  have hdl : ds.length = its.length := by rw [← rl.len, r.length]
  have hjl : j < its.toArray.size := by rw [List.size_toArray]; omega
  have hsl := sizeLine_eq
  have hvl := rl.len
  refine call_meets PySem.F.slot_list_index ⟨_, ho, rfl⟩ PySem.F.entry_list_index (PySem.F.args_list_index_2 _ _)
    (SeqAt.list_indexAt a its.toArray n dd sls uy ef j hjl (by omega) ?_ ?_) ⟨ho, fun u hu' => k2 u (by simpa using hu'), ?_⟩
  · rw [k1 j xj its.toArray[j] g1 (by simp), g2]
  · intro m hm hmj
    have hml : m < its.length := by simpa using hm
    rw [k1 m ds[m] its.toArray[m] (List.getElem?_eq_getElem (by omega)) (by simp)]
    exact g3 m _ hmj (List.getElem?_eq_getElem (by omega))
  · exact ⟨.int (j : Nat), H, I.tok _, ⟨_, rfl⟩, q⟩
section
variable {X : Cx} {W : WX} {o e : Expr} {pos apos cpos : Pos} {m mo : HEnv → R D}
theorem ds_remove {i : Nat} (hu : X.A.units + 65 < cLine) (ho : PE X o (tVar i)) (he : PE X e (tB cl W m)) (hs : swapsWith (.Call (.Attribute o "remove" apos) [e] [] cpos) none pos.line X.env = pure false := by rfl)
    (h1 : attributeBase o "remove" X.env (eval o X.env) = eval o X.env := by rfl)
    (h2 : (((backTo cpos (starEach (e :: []) X.env)).all (!·.1)) && (backToKw cpos (keywordEach [] X.env)).all (·.1.isSome) && decide ((e :: ([] : List Expr)).length + ([] : List Keyword).length + (if ([] : List Keyword).isEmpty = true then 0 else 1) < 30)) = true := by rfl)
    (h3 : (apos.endLine == cpos.line) = true := by rfl) (h4 : starEach (e :: []) X.env = (false, eval e X.env) :: starEach [] X.env := by rfl) (h5 : (backTo cpos (starEach [] X.env)).any (·.1) = false := by rfl) :
    PS X (.Expr (.Call (.Attribute o "remove" apos) [e] [] cpos) pos) (tS cl W (mOwn1 i (tyL "list") remD m)) :=
  ds_own1 PySem.F.plainAttrs_list PySem.F.slot_list_remove PySem.F.type_list_remove (mt_removeD hu) rem_own ho he hs h1 h2 h3 h4 h5
def idxD : D → D → R D
  | .lst ds, d => if simpL? 50 ds = true ∧ sim d = true then match firstD d ds with
    | some j => .ok (.int (j : Nat))
    | none => .stuck
    else .stuck
  | _, _ => .stuck
def mIdx (mo m : HEnv → R D) : HEnv → R D := fun env => (mo env).bind fun c => match c with
  | .lst ds => (m env).bind fun d => idxD (.lst ds) d
  | _ => .stuck
theorem d_index (hu : X.A.units + 65 < cLine) (ho : PE X o (tB cl W mo)) (he : PE X e (tB cl W m))
    (h1 : attributeBase o "index" X.env (eval o X.env) = eval o X.env := by rfl)
    (h2 : (((backTo cpos (starEach (e :: []) X.env)).all (!·.1)) && (backToKw cpos (keywordEach [] X.env)).all (·.1.isSome) && decide ((e :: ([] : List Expr)).length + ([] : List Keyword).length + (if ([] : List Keyword).isEmpty = true then 0 else 1) < 30)) = true := by rfl)
    (h3 : (apos.endLine == cpos.line) = true := by rfl) (h4 : starEach (e :: []) X.env = (false, eval e X.env) :: starEach [] X.env := by rfl) (h5 : (backTo cpos (starEach [] X.env)).any (·.1) = false := by rfl) :
    PE X (.Call (.Attribute o "index" apos) [e] [] cpos) (tF cl W (mIdx mo m)) := by
  refine pe_weak (pe_bm PySem.F.plainAttrs_list PySem.F.slot_list_index PySem.F.type_list_index (mt_idxD (cl := cl) hu) ho (pa_cons he pa_nil h4) h1 h2 h3 h4 h5) fun σ H Q q => ?_
  refine bindG (k := fun c env => match c with
    | .lst ds => (m env).bind fun d => idxD (.lst ds) d
    | _ => .stuck) (rel := relB cl) oldF q fun c x F0 H0 F1 env Hs H1 s r1 p => ?_
  cases c with
  | lst ds =>
    obtain ⟨a, vs, rfl, rd, rl, z⟩ := BRep.lst' r1 s.sub
    refine ⟨.inl ⟨rfl, vs, .inl rd⟩, ?_⟩
    refine ⟨F0, H0, F1, env, s, ?_⟩
    simp only at p
    cases em : m env with
    | er x => rw [em] at p; exact p
    | stuck => rw [em] at p; exact p.elim
    | ok d =>
      rw [em] at p
      intro y F2 H2 k2 s2 r2
      replace p := PostG.step oldF p k2
      simp only [R.bind_ok, idxD] at p
      split at p
      case isFalse => exact p.elim
      rename_i h
      split at p
      case h_2 => exact p.elim
      rename_i j hj
      exact ⟨F2, a, ds, d, vs, y, j, s2, rfl, rfl, .inl (rdKp k2.same rd), rl.ext k2.ext, r2, h.1, h.2, hj, PostG.done p s2 (by simp only [relF, Rep])⟩
  | _ => exact p.elim
/-- xs[::-1] -/
def revL : D → R D
  | .lst ds => .ok (.lst ds.reverse)
  | _ => .stuck
theorem RepL.rev {F : Hp} {ds : List D} {vs : List V} (h : RepL cl F ds vs) : RepL cl F ds.reverse vs.reverse := by
  induction ds generalizing vs with
  | nil =>
    simp only [RepL] at h
    subst h
    simp only [List.reverse_nil, RepL]
  | cons d r ih =>
    simp only [RepL] at h
    obtain ⟨u, s, rfl, a, b⟩ := h
    rw [List.reverse_cons, List.reverse_cons]
    exact (ih b).app (by simp only [RepL]; exact ⟨u, [], rfl, a, rfl⟩)
theorem dn_revL {k : Nat} {p1 p2 p3 : Pos} (he : PE X e (tB cl W m)) : PE X (.Subscript e (.Slice none none (some (.UnaryOp .USub (.Constant (.int 1) k p1) p2)) p3) pos) (tN cl W (m1 revL m)) := by
  refine pe_weak (pe_revL he) fun σ H Q q => ?_
  refine read1 (rel := relB cl) (r := fun x H1 Q => ∃ a xs, x = .ref a ∧ SqL X.K H1 a xs ∧ ∀ p, H1 p = none → Q (.ref p) (upd H1 p (.lst xs.reverse))) oldN (fun Hs F H d v Q σ s r p => ?_) q
  cases d with
  | lst ds =>
    obtain ⟨a, vs, rfl, h1, l1, z1⟩ := BRep.lst' r s
    exact ⟨a, vs, rfl, .inl h1, fun q hq => PostG.new p s hq ⟨_, rfl, l1.rev, by rw [List.length_reverse]; exact z1⟩⟩
  | _ => exact p.elim
end
end
end HL

/-! list.insert; isinstance and truth of dicts. -/
namespace HL
open PySem PySem.Spec PyProof.Rows L2
def insD (i : Nat) (ds : List D) (k v : D) (env : HEnv) : SO := match k with
  | .int j => if ds.length < sizeLine ∧ 0 ≤ j ∧ j < 2 ^ 63 then .nx (env.set i (.own (.lst (ds.take j.toNat ++ [v] ++ ds.drop j.toNat)))) else .stuck
  | _ => .stuck
def mInsert (i : Nat) (mk mv : HEnv → R D) : HEnv → SO := fun env => match env[i]? with
  | some (.own (.lst ds)) => sB mk (fun k env => sB mv (fun v env => insD i ds k v env) env) env
  | _ => .stuck
section
variable {cl : Cl} {X : Cx} {W : WX} {o e1 e2 e : Expr} {pos apos cpos : Pos} {ma mb m : HEnv → R D}
theorem ds_insert {i : Nat} (ho : PE X o (tVar i)) (he : PE X e1 (tF cl W ma)) (he2 : PE X e2 (tF cl W mb)) (hs : swapsWith (.Call (.Attribute o "insert" apos) [e1, e2] [] cpos) none pos.line X.env = pure false := by rfl)
    (h1 : attributeBase o "insert" X.env (eval o X.env) = eval o X.env := by rfl)
    (h2 : (((backTo cpos (starEach (e1 :: [e2]) X.env)).all (!·.1)) && (backToKw cpos (keywordEach [] X.env)).all (·.1.isSome) && decide ((e1 :: ([e2] : List Expr)).length + ([] : List Keyword).length + (if ([] : List Keyword).isEmpty = true then 0 else 1) < 30)) = true := by rfl)
    (h3 : (apos.endLine == cpos.line) = true := by rfl) (h4 : starEach (e1 :: [e2]) X.env = (false, eval e1 X.env) :: starEach [e2] X.env := by rfl) (h6 : starEach (e2 :: []) X.env = (false, eval e2 X.env) :: starEach [] X.env := by rfl) (h5 : (backTo cpos (starEach [e2] X.env)).any (·.1) = false := by rfl) :
    PS X (.Expr (.Call (.Attribute o "insert" apos) [e1, e2] [] cpos) pos) (tS cl W (mInsert i ma mb)) := by
  refine ps_weak (ps_expr (pe_bm PySem.F.plainAttrs_list PySem.F.slot_list_insert PySem.F.type_list_insert mt_insert ho (pa_cons he (pa_cons he2 pa_nil h6) h4) h1 h2 h3 h4 h5) hs) fun Dn σ H q => ?_
  obtain ⟨F0, H0, F, env, s, q⟩ := q
  unfold mInsert at q
  split at q
  case h_2 => exact q.elim
  rename_i ds ei
  obtain ⟨p, hp, hf, h0, u, hu, ob, mu⟩ := s.own i _ (oL_own ei)
  refine ⟨.ref p, hp, tyV_own hu ob rfl, ?_⟩
  refine ⟨F0, H0, F, env, s, ?_⟩
  unfold sB at q
  cases em : ma env with
  | er x =>
    rw [em] at q
    exact fun cls dd F' H' k s' r => q cls dd σ F' H' k.ext (s.step k s') r
  | stuck => rw [em] at q; exact q.elim
  | ok kd =>
    rw [em] at q
    simp only at q
    intro w F1 H1 k1 s1 r1
    replace q := PostS.ext q k1.ext
    have st1 := s.step k1 s1
    refine ⟨F0, H0, F1, env, st1, ?_⟩
    cases en : mb env with
    | er x =>
      rw [en] at q
      exact fun cls dd F' H' k' s' r => q cls dd σ F' H' k'.ext (st1.step k' s') r
    | stuck => rw [en] at q; exact q.elim
    | ok d =>
      rw [en] at q
      simp only at q
      intro v F2 H2 k2 s2 r2
      replace q := PostS.ext q k2.ext
      unfold insD at q
      split at q
      case h_2 => exact q.elim
      rename_i j
      split at q
      case isFalse => exact q.elim
      rename_i hc
      have st2 := st1.step k2 s2
      have kk := k1.trans k2
      obtain ⟨vs, rfl, rl, z⟩ := ob
      have hH := kk.same _ _ hu
      have rl2 := rl.ext kk.ext
      refine ⟨p, vs, j, v, rfl, by rw [RepIn.int r1], hH, by rw [rl.len]; exact hc.1, hc.2.1, hc.2.2, ?_⟩
      refine q σ F2 _ (Ext.refl F2) (st2.writeOwn ei hp (kk.fr p _ hu hf) h0 ⟨_, rfl, ((RepL.takeD _ rl2).app (by simp only [RepL]; exact ⟨v, [], rfl, r2, rfl⟩)).app (RepL.dropD _ rl2), ?_⟩ rfl)
      simp only [List.length_append, List.length_take, List.length_drop, List.length_singleton]
      omega
/-! ### isinstance, truth -/
def tyDK : D → Option String
  | .dic false _ => some "dict"
  | d => tyD d
def isiDK (T : String) (d : D) : R D := match tyDK d with
  | some t => match kitB t T with
    | some b => .ok (.bl b)
    | none => .stuck
  | none => .stuck
theorem tyx_ofK {K : PySem.W.Frag} {F H : Hp} {d : D} {v : V} {t : String} (s : Sub F H) (r : BRep cl F H d v) (h : tyDK d = some t) : TyX K H v (.type t) := by
  unfold tyDK at h
  split at h
  · cases h
    obtain ⟨a, u, rfl, rd, qs, rfl, _⟩ := r.obj s rfl
    rcases rd with rd | ⟨o, rd⟩
    · exact .base (.dK rd)
    · exact .fDict rd
  · exact tyx_of s r h
theorem d_isiK {T : String} {tn : Str} {p p2 : Pos} (hg : Gl X "isinstance") (hm : X.mg "isinstance" = none) (hg2 : Gl X tn) (hm2 : X.mg tn = none) (hb : bootBuiltins tn = some (.type T)) (he : PE X e (tB cl W m))
    (hs1 : starEach [e, .Name tn p2] X.env = (false, eval e X.env) :: starEach [.Name tn p2] X.env := by rfl) (hs2 : starEach [.Name tn p2] X.env = (false, eval (.Name tn p2) X.env) :: starEach [] X.env := by rfl) (hpl : (backTo pos (starEach [.Name tn p2] X.env)).any (·.1) = false := by rfl)
    (hn : tn ≠ "__name__" := by decide) (hd : (tn == ("__debug__" : Str)) = false := by decide) :
    PE X (.Call (.Name "isinstance" p) [e, .Name tn p2] [] pos) (tF cl W (m1 (isiDK T) m)) := by
  refine pe_weak (pe_callB call_isi hg hm boot_isi' (pa_cons he (pa_cons (pe_bltn (v := .ty T) hg2 hm2 hb rfl hn hd) pa_nil hs2) hs1) (by decide) (by decide) hs1 hpl) fun σ H Q q => ?_
  refine read1 (rel := relB cl) (r := fun x H1 Q => rIsi X.K [x, .ty T] H1 Q) oldF (fun Hs F H d v Q σ s r p => ?_) q
  unfold isiDK at p
  split at p
  · rename_i t ht
    split at p
    · rename_i b hb'
      exact ⟨v, .ty T, _, _, b, rfl, .ty T, tyx_ofK s r ht, kit_ty hb', PostG.done p s (by simp only [relF, Rep])⟩
    · exact p.elim
  · exact p.elim
/-! ### a, b = x, y -/
def mPar (i j : Nat) (ms : HEnv → R (List D)) : HEnv → SO := sB ms fun ds env => match ds with
  | [d, e] => .nx ((env.set i (.val d)).set j (.val e))
  | _ => .stuck
theorem ds_par {i j : Nat} {x y : Str} {a b : Expr} {ms : HEnv → R (List D)} {px py pt : Pos} {kt k2 pt2} (hc : X.calm = true) (hN : X.N.Nodup) (hi : X.N[i]? = some x) (hj : X.N[j]? = some y) (hij : i ≠ j)
    (hx : X.env.scope.names.lookup x = some .local) (hy : X.env.scope.names.lookup y = some .local) (ha : PA X [a, b] (tA cl W ms))
    (hw : swappedStores [.Tuple [.Name x px, .Name y py] kt pt] (.Tuple [a, b] k2 pt2) X.env = pure (some [x, y]))
    (hs : swapsWithSole [.Tuple [.Name x px, .Name y py] kt pt] (.Tuple [a, b] k2 pt2) pos.line X.env = pure false := by rfl) :
    PS X (.Assign [.Tuple [.Name x px, .Name y py] kt pt] (.Tuple [a, b] k2 pt2) pos) (tS cl W (mPar i j ms)) := by
  refine ps_weak (ps_par hc hN hi hj hij hx hy ha hw hs) fun Dn σ H q => ?_
  refine stB q fun ds vs F0 H0 F env Hs H1 s0 F1 kp s r p => ?_
  split at p
  case h_2 => exact p.elim
  rename_i d e
  have r' : RepL cl F1 [d, e] vs := r
  simp only [RepL] at r'
  obtain ⟨v, t, rfl, rv, w, t', rfl, rw', rfl⟩ := r'
  exact ⟨v, w, rfl, HSt.get (W := W) ((s.set rv).set rw') p⟩
end
end HL

/-! Plain law: dicts whose keys are names of one letter. -/
namespace HL
open PySem L2
theorem tx_inj {a b : List Nat} (h : tx a = tx b) : a = b := by
  have := congrArg (fun s : Str => s.cps.toList) h
  simpa [tx] using this
theorem deq_nm (a b : Nat) : deq (nm a) (nm b) = decide (a = b) := by
  rw [keyD_deq (k := nm a) (l := nm b) (q := .inr (tx [a])) (r := .inr (tx [b])) rfl rfl]
  by_cases h : a = b
  · subst h; simp
  · have : ¬ (Sum.inr (tx [a]) : Key) = Sum.inr (tx [b]) := fun e => h (by
      have := tx_inj (Sum.inr.inj e)
      simpa using this)
    simp [h, this]
def dicN (v : Nat → D) (ls : List Nat) : List (D × D) := ls.map fun c => (nm c, v c)
theorem lookD_nm {v : Nat → D} {c : Nat} : ∀ {ls : List Nat}, lookD (nm c) (dicN v ls) = if c ∈ ls then some (v c) else none
  | [] => rfl
  | a :: r => by
    show (if deq (nm a) (nm c) = true then some (v a) else lookD (nm c) (dicN v r)) = _
    rw [deq_nm, lookD_nm]
    by_cases h : a = c
    · subst h; simp
    · have : ¬ c = a := fun e => h e.symm
      simp [h, this]
theorem putD_new {v : Nat → D} {c : Nat} {ls : List Nat} (h : c ∉ ls) : putD (nm c) (v c) (dicN v ls) = dicN v (ls ++ [c]) := by
  unfold putD
  rw [lookD_nm, if_neg h]
  simp [dicN]
theorem putD_old {v w : Nat → D} {c : Nat} {ls : List Nat} (h : c ∈ ls) (hw : ∀ a, a ≠ c → w a = v a) : putD (nm c) (w c) (dicN v ls) = dicN w ls := by
  unfold putD
  rw [lookD_nm, if_pos h]
  simp only [Option.isSome_some, if_true, dicN, List.map_map]
  refine List.map_congr_left fun a _ => ?_
  simp only [Function.comp]
  rw [deq_nm]
  by_cases e : a = c
  · subst e; simp
  · simp [e, hw a e]
/-- {nm c: v c for c in .. if p c} -/
theorem dcL_nm {i : Nat} {t : HEnv → R Bool} {kx vx : HEnv → R D} {env : HEnv} {v : Nat → D} {p : Nat → Bool} : ∀ {xs as : List Nat}, (∀ x ∈ xs, t (env.set i (.val (nm x))) = .ok (p x)) →
    (∀ x ∈ xs, p x = true → kx (env.set i (.val (nm x))) = .ok (nm x) ∧ vx (env.set i (.val (nm x))) = .ok (v x)) → (as ++ xs).Nodup → (as ++ xs).length ≤ 1000000 →
    dcL (gN i) t kx vx env (dicN v as) (xs.map nm) = .ok (dicN v (as ++ xs.filter p))
  | [], as, _, _, _, _ => by simp [dcL]
  | x :: r, as, h1, h2, hn, hz => by
    simp only [List.map_cons, dcL, gN]
    rw [h1 x List.mem_cons_self]
    have hn' : (as ++ r).Nodup := hn.sublist (List.Sublist.append_left (List.sublist_cons_self x r) as)
    have hz' : (as ++ r).length ≤ 1000000 := by simp only [List.length_append, List.length_cons] at hz ⊢; omega
    cases hp : p x with
    | false =>
      simp only
      rw [dcL_nm (fun y hy => h1 y (List.mem_cons_of_mem _ hy)) (fun y hy => h2 y (List.mem_cons_of_mem _ hy)) hn' hz']
      simp [hp]
    | true =>
      obtain ⟨k1, k2⟩ := h2 x List.mem_cons_self hp
      simp only [k1, k2]
      have hx : x ∉ as := fun hm => by
        have := (List.nodup_append.mp hn).2.2 x hm x List.mem_cons_self
        exact this rfl
      rw [if_pos ⟨rfl, by
        have : (dicN v as).length = as.length := by simp [dicN]
        rw [this]
        exact small_line (by simp only [List.length_append, List.length_cons] at hz; omega)⟩, putD_new hx]
      rw [dcL_nm (as := as ++ [x]) (fun y hy => h1 y (List.mem_cons_of_mem _ hy)) (fun y hy => h2 y (List.mem_cons_of_mem _ hy)) (by simpa using hn) (by simpa using hz)]
      simp [hp]
theorem deqK_self {v : Nat → D} {ls : List Nat} (hs : ∀ c ∈ ls, deq (v c) (v c) = true) : deqK (dicN v ls) (dicN v ls) = true := by
  unfold deqK
  rw [beq_self_eq_true, Bool.true_and, List.all_eq_true]
  intro kv hk
  obtain ⟨c, hc, rfl⟩ := List.mem_map.mp hk
  show (match lookD (nm c) (dicN v ls) with
    | some d => deq (v c) d
    | none => false) = true
  rw [lookD_nm, if_pos hc]
  exact hs c hc
end HL

/-! Plain law: heads_of. -/
namespace HL
open PySem L2
def b_heads_of (f_head_of : List D → R (Bool × D)) : HEnv → SO :=
  (mRetN (mDc [1] (m1 itemsD (mC (.str "ABCDEFGHIJKLMNOPQRSTUVWXYZ"))) (gN 1) (m1 truB (m2 (inN false) (mOwn 1) (mOwn 0))) (mVar 1) (mCall f_head_of (mCons (m2 ixD (mOwn 0) (mOwn 1)) mNil))))
theorem signs_tx (cs : List Nat) : signsD (tx cs) = cs.map nm := by
  unfold signsD
  rw [tx_list]
  rfl
theorem items_tx {cs : List Nat} (h : cs.length ≤ 1000000) : itemsD (.str (tx cs)) = .ok (cs.map nm) := by
  rw [← signs_tx]
  show (if (tx cs).length ≤ sizeLine then R.ok (signsD (tx cs)) else R.stuck) = _
  rw [if_pos (by rw [tx_len]; exact le_line h)]
theorem inD_dic (c : Nat) (ks : List (D × D)) : inD (nm c) (.dic false ks) = .ok (lookD (nm c) ks).isSome := rfl
theorem in_dicN (v : Nat → D) (c : Nat) (ls : List Nat) : inN false (nm c) (.dic false (dicN v ls)) = .ok (.bl (decide (c ∈ ls))) := by
  unfold inN
  rw [inD_dic, lookD_nm]
  by_cases h : c ∈ ls <;> simp [h]
theorem ixD_dic (c : Nat) (ks : List (D × D)) : ixD (.dic false ks) (nm c) = match lookD (nm c) ks with
    | some d => R.ok d
    | none => .stuck := rfl
theorem ix_dicN (v : Nat → D) {c : Nat} {ls : List Nat} (h : c ∈ ls) : ixD (.dic false (dicN v ls)) (nm c) = .ok (v c) := by
  rw [ixD_dic, lookD_nm, if_pos h]
/-- the names in ascending order -/
def rising (ls : List Nat) : List Nat := letters.filter fun c => decide (c ∈ ls)
theorem heads_of_ok {f : List D → R (Bool × D)} {v w : Nat → D} {ls : List Nat} {o : Nat → Bool} (a : Ag) (ha : a = .b (.dic false (dicN v ls)) ∨ a = .v (.dic false (dicN v ls))) (hf : ∀ c ∈ ls, f [v c] = .ok (o c, w c)) :
    fnSA 2 (b_heads_of f) [a] = .ok (true, .dic false (dicN w (rising ls))) := by
  have own0 : ∀ x : Slot, mOwn 0 [a.slot, x] = .ok (.dic false (dicN v ls)) := fun x => by rcases ha with rfl | rfl <;> rfl
  have hd : mDc [1] (m1 itemsD (mC (.str "ABCDEFGHIJKLMNOPQRSTUVWXYZ"))) (gN 1) (m1 truB (m2 (inN false) (mOwn 1) (mOwn 0))) (mVar 1) (mCall f (mCons (m2 ixD (mOwn 0) (mOwn 1)) mNil)) [a.slot, .no] = .ok (.dic false (dicN w (rising ls))) := by
    unfold mDc
    rw [m1_ok (show mC (.str "ABCDEFGHIJKLMNOPQRSTUVWXYZ") [a.slot, Slot.no] = .ok (.str (tx letters)) from congrArg (fun s => R.ok (D.str s)) abc), items_tx (by decide), R.bind_ok]
    have := dcL_nm (i := 1) (t := m1 truB (m2 (inN false) (mOwn 1) (mOwn 0))) (kx := mVar 1) (vx := mCall f (mCons (m2 ixD (mOwn 0) (mOwn 1)) mNil)) (env := [a.slot, .no]) (v := w) (p := fun c => decide (c ∈ ls)) (xs := letters) (as := [])
      (fun c _ => m1_ok (show m2 (inN false) (mOwn 1) (mOwn 0) [a.slot, .val (nm c)] = .ok (.bl (decide (c ∈ ls))) from (m2_ok (show mOwn 1 [a.slot, Slot.val (nm c)] = .ok (nm c) from rfl) (own0 _)).trans (in_dicN v c ls)))
      (fun c _ hc => ⟨rfl, mCall_ok (show mCons (m2 ixD (mOwn 0) (mOwn 1)) mNil [a.slot, Slot.val (nm c)] = .ok [v c] from mCons_ok ((m2_ok (own0 _) (show mOwn 1 [a.slot, Slot.val (nm c)] = .ok (nm c) from rfl)).trans (ix_dicN v (by simpa using hc))) rfl) (hf c (by simpa using hc))⟩)
      (by decide) (by decide)
    show (match dcL (gN 1) (m1 truB (m2 (inN false) (mOwn 1) (mOwn 0))) (mVar 1) (mCall f (mCons (m2 ixD (mOwn 0) (mOwn 1)) mNil)) [a.slot, .no] [] (letters.map nm) with
      | .ok ys => R.ok (D.dic false ys)
      | _ => .stuck) = _
    rw [show dcL (gN 1) (m1 truB (m2 (inN false) (mOwn 1) (mOwn 0))) (mVar 1) (mCall f (mCons (m2 ixD (mOwn 0) (mOwn 1)) mNil)) [a.slot, .no] [] (letters.map nm) = .ok (dicN w (rising ls)) from this]
  unfold fnSA
  rw [show b_heads_of f ([a].map Ag.slot ++ List.replicate (2 - [a].length) Slot.no) = .rt true (.dic false (dicN w (rising ls))) from mRetN_ok hd]
end HL

/-! Plain law: a valid head, in any order; lots in order, as plain rows. -/
namespace HL
open PySem L2
theorem take_mem {α : Type} [DecidableEq α] : ∀ {xs : List α} {k : Nat} {x : α}, xs.Nodup → xs[k]? = some x → x ∉ xs.take k
  | [], k, x, _, h => by simp at h
  | y :: r, 0, x, _, h => by simp
  | y :: r, k + 1, x, hn, h => by
    have h' : r[k]? = some x := by simpa using h
    simp only [List.take_succ_cons, List.mem_cons, not_or]
    have hn' := List.nodup_cons.mp hn
    exact ⟨fun e => hn'.1 (e ▸ List.mem_of_getElem? h'), take_mem hn'.2 h'⟩
theorem headE_col {xs ys : List Str} (hl : xs.length ≤ 24) (hc : ∀ x ∈ xs, isCol x = true) (hn : xs.Nodup) (hp : xs.Perm ys) (hs : ys.Pairwise fun a b => leS a b = true) : headE xs = .ok (false, .tup (ys.map D.str)) := by
  unfold headE
  rw [if_neg (by omega)]
  have : firstBad xs = none := by
    unfold firstBad
    rw [List.find?_eq_none]
    intro k hk
    have hk' := List.mem_range.mp hk
    unfold badAt
    rw [List.getElem?_eq_getElem hk']
    simp only
    rw [hc _ (List.getElem_mem hk')]
    have := take_mem hn (List.getElem?_eq_getElem hk')
    simp [this]
  rw [this]
  simp only
  rw [sorted_unique ((sortS_perm (xs := xs)).trans hp) sortS_sorted hs]
/-! ### rows of small lists of letters, in order -/
/-- fewer first, then as tuples -/
def klt (r s : List Nat) : Bool := decide (r.length < s.length) || (decide (r.length = s.length) && decide (r < s))
theorem klt_irrefl (r : List Nat) : klt r r = false := by
  unfold klt
  simp [List.lt_irrefl]
theorem klt_trans {r s t : List Nat} (h : klt r s = true) (k : klt s t = true) : klt r t = true := by
  simp only [klt, Bool.or_eq_true, decide_eq_true_eq, Bool.and_eq_true] at h k ⊢
  rcases h with h | ⟨h1, h2⟩
  · rcases k with k | ⟨k1, k2⟩
    · exact .inl (by omega)
    · exact .inl (by omega)
  · rcases k with k | ⟨k1, k2⟩
    · exact .inl (by omega)
    · exact .inr ⟨by omega, List.lt_trans h2 k2⟩
theorem klt_tri {r s : List Nat} (h : klt r s = false) (k : klt s r = false) : r = s := by
  simp only [klt, Bool.or_eq_false_iff, decide_eq_false_iff_not, Bool.and_eq_false_imp, decide_eq_true_eq] at h k
  have e : r.length = s.length := by omega
  exact List.le_antisymm (List.not_lt.mp (k.2 e.symm)) (List.not_lt.mp (h.2 e))
/-- two strictly ascending lists with the same members are equal -/
theorem chain_unique : ∀ {xs ys : List (List Nat)}, xs.Pairwise (fun a b => klt a b = true) → ys.Pairwise (fun a b => klt a b = true) → (∀ r, r ∈ xs ↔ r ∈ ys) → xs = ys
  | [], [], _, _, _ => rfl
  | [], y :: ys, _, _, h => by have := (h y).mpr List.mem_cons_self; simp at this
  | x :: xs, [], _, _, h => by have := (h x).mp List.mem_cons_self; simp at this
  | x :: xs, y :: ys, hx, hy, h => by
    have hx' := List.pairwise_cons.mp hx
    have hy' := List.pairwise_cons.mp hy
    have e : x = y := by
      rcases List.mem_cons.mp ((h x).mp List.mem_cons_self) with e | m
      · exact e
      · rcases List.mem_cons.mp ((h y).mpr List.mem_cons_self) with e2 | m2
        · exact e2.symm
        · have a := hy'.1 x m
          have b := hx'.1 y m2
          have := klt_trans a b
          rw [klt_irrefl] at this
          cases this
    subst e
    congr 1
    refine chain_unique hx'.2 hy'.2 fun r => ⟨fun m => ?_, fun m => ?_⟩
    · rcases List.mem_cons.mp ((h r).mp (List.mem_cons_of_mem _ m)) with e | m2
      · subst e
        have := hx'.1 r m
        rw [klt_irrefl] at this
        cases this
      · exact m2
    · rcases List.mem_cons.mp ((h r).mpr (List.mem_cons_of_mem _ m)) with e | m2
      · subst e
        have := hy'.1 r m
        rw [klt_irrefl] at this
        cases this
      · exact m2
end HL

/-! Plain law: (len(row), row) < (len(row), row), in_order. -/
namespace HL
open PySem L2
theorem deqL_nm : ∀ r s : List Nat, deqL (r.map nm) (s.map nm) = decide (r = s)
  | [], [] => rfl
  | [], b :: s => rfl
  | a :: r, [] => rfl
  | a :: r, b :: s => by
    simp only [List.map_cons, deqL, deq_nm, deqL_nm r s]
    rw [Bool.eq_iff_iff]
    simp
theorem dlt_nm (a b : Nat) : dlt (nm a) (nm b) = some (decide (a < b)) := by
  show some (decide ((tx [a]).cps.toList < (tx [b]).cps.toList)) = _
  rw [tx_list, tx_list]
  congr 1
  rw [Bool.eq_iff_iff]
  simp [List.cons_lt_cons_iff]
theorem dltL_nm : ∀ r s : List Nat, dltL (r.map nm) (s.map nm) = some (decide (r < s))
  | [], [] => by simp [dltL]
  | [], b :: s => by simp [dltL]
  | a :: r, [] => by simp [dltL]
  | a :: r, b :: s => by
    simp only [List.map_cons, dltL, deq_nm, dlt_nm, dltL_nm r s, decide_eq_true_eq]
    by_cases h : a = b
    · subst h
      rw [if_pos rfl]
      congr 1
      rw [Bool.eq_iff_iff]
      simp [List.cons_lt_cons_iff]
    · rw [if_neg h]
      congr 1
      rw [Bool.eq_iff_iff]
      simp [List.cons_lt_cons_iff, h]
theorem cmpOkL_nm : ∀ r s : List Nat, cmpOkL (r.map nm) (s.map nm) = true
  | [], _ => by simp [cmpOkL]
  | a :: r, [] => by simp [cmpOkL]
  | a :: r, b :: s => by
    simp only [List.map_cons, cmpOkL, cmpOkL_nm r s, Bool.and_true]
    rfl
theorem pair_klt (r s : List Nat) : ltD (.tup [.int r.length, .tup (r.map nm)]) (.tup [.int s.length, .tup (s.map nm)]) = .ok (.bl (klt r s)) := by
  have sm : ∀ r : List Nat, sim (.tup [.int r.length, .tup (r.map nm)]) = true := fun r => by
    refine sim_tup (simpL_of fun d hd => ?_)
    simp only [List.mem_cons, List.not_mem_nil, or_false] at hd
    rcases hd with rfl | rfl
    · rfl
    · show simp? (48 + 1) (.tup (r.map nm)) = true
      simp only [simp?]
      exact simpL_nm r
  have co : cmpOk (.tup [.int r.length, .tup (r.map nm)]) (.tup [.int s.length, .tup (s.map nm)]) = true := by
    simp only [cmpOk, cmpOkL, cmpOkL_nm, Bool.and_true]
  unfold ltD
  rw [if_pos ⟨sm r, sm s, co⟩]
  have : dltB (.tup [.int r.length, .tup (r.map nm)]) (.tup [.int s.length, .tup (s.map nm)]) = klt r s := by
    unfold dltB klt
    simp only [dlt, dltL, deq, deqL_nm, dltL_nm, beq_iff_eq, decide_eq_true_eq]
    by_cases h : r.length = s.length
    · have h' : (r.length : Int) = s.length := by omega
      simp only [h', h, if_true]
      by_cases e : r = s
      · subst e
        simp [List.lt_irrefl]
      · simp [e]
    · have h' : ¬ (r.length : Int) = s.length := by omega
      simp only [h', h, if_false]
      simp
  rw [this]
end HL

/-! Plain law: in_order. -/
namespace HL
open PySem L2
def tupN (r : List Nat) : D := .tup (r.map nm)
def bsT : HEnv → R Bool := m1 truB (m2 ltD (mOwn 3) (mOwn 4))
def bsB : HEnv → SO := mSeq (mSet 5 (m2 divD (m2 addD (mOwn 3) (mOwn 4)) (mC (.int 2))))
  (mIfS (m1 truB (m2 ltD (mTupE (mCons (m1 lenD (m2 ixD (mOwn 1) (mOwn 5))) (mCons (m2 ixD (mOwn 1) (mOwn 5)) mNil))) (mTupE (mCons (m1 lenD (mOwn 2)) (mCons (mVar 2) mNil)))))
  (mSet 3 (m2 addD (mOwn 5) (mC (.int 1))))
  (mSet 4 (mVar 5)))
def bsE (Z : D) (fd : List (List Nat)) (row : List Nat) (lo hi : Nat) (x : Slot) : HEnv := [.val Z, .own (.lst (fd.map tupN)), .val (tupN row), .val (.int (lo : Nat)), .val (.int (hi : Nat)), x]
theorem bs_turn {Z : D} {fd : List (List Nat)} {row r : List Nat} {lo hi : Nat} {x : Slot} (hm : fd[(lo + hi) / 2]? = some r) :
    bsB (bsE Z fd row lo hi x) = .nx (if klt r row = true then bsE Z fd row ((lo + hi) / 2 + 1) hi (.val (.int ((lo + hi) / 2 : Nat))) else bsE Z fd row lo ((lo + hi) / 2) (.val (.int ((lo + hi) / 2 : Nat)))) := by
  have e1 : m2 divD (m2 addD (mOwn 3) (mOwn 4)) (mC (.int 2)) (bsE Z fd row lo hi x) = .ok (.int ((lo + hi) / 2 : Nat)) := by
    rw [div_lit (a := (lo : Int) + hi) (m2_ok (a := D.int (lo : Nat)) (b := D.int (hi : Nat)) rfl rfl) (by decide) (by decide)]
    congr 2
  refine (mSeq_nx (mSet_ok e1)).trans ?_
  show mIfS _ _ _ (bsE Z fd row lo hi (.val (.int ((lo + hi) / 2 : Nat)))) = _
  have i1 : m2 ixD (mOwn 1) (mOwn 5) (bsE Z fd row lo hi (.val (.int ((lo + hi) / 2 : Nat)))) = .ok (tupN r) :=
    (m2_ok (a := D.lst (fd.map tupN)) (b := D.int ((lo + hi) / 2 : Nat)) rfl rfl).trans (ix_lst (by rw [List.getElem?_map, hm]; rfl))
  have lenT : ∀ r : List Nat, lenD (tupN r) = .ok (.int r.length) := fun r => by
    show R.ok (D.int ((r.map nm).length : Nat)) = _
    rw [List.length_map]
  have t : (m1 truB (m2 ltD (mTupE (mCons (m1 lenD (m2 ixD (mOwn 1) (mOwn 5))) (mCons (m2 ixD (mOwn 1) (mOwn 5)) mNil))) (mTupE (mCons (m1 lenD (mOwn 2)) (mCons (mVar 2) mNil))))) (bsE Z fd row lo hi (.val (.int ((lo + hi) / 2 : Nat)))) = .ok (klt r row) := by
    refine (m1_ok (a := D.bl (klt r row)) ((m2_ok (a := D.tup [.int r.length, tupN r]) (b := D.tup [.int row.length, tupN row]) ?_ ?_).trans (pair_klt r row))).trans rfl
    · exact (m1_ok (a := [D.int r.length, tupN r]) (mCons_ok ((m1_ok i1).trans (lenT r)) (mCons_ok i1 rfl))).trans rfl
    · exact (m1_ok (a := [D.int row.length, tupN row]) (mCons_ok ((m1_ok (a := tupN row) rfl).trans (lenT row)) (mCons_ok (d := tupN row) rfl rfl))).trans rfl
  cases hk : klt r row with
  | true =>
    rw [hk] at t
    exact (mIf_tt t).trans rfl
  | false =>
    rw [hk] at t
    exact (mIf_ff t).trans rfl
theorem bs_ok (Z : D) (fd : List (List Nat)) (row : List Nat) (hs : fd.Pairwise fun a b => klt a b = true) : ∀ (n lo hi : Nat) (x : Slot), lo ≤ hi → hi ≤ fd.length → hi - lo < n → (∀ i r, i < lo → fd[i]? = some r → klt r row = true) → (∀ i r, hi ≤ i → fd[i]? = some r → klt r row = false) →
    ∃ k x', k ≤ fd.length ∧ (∀ i r, i < k → fd[i]? = some r → klt r row = true) ∧ (∀ i r, k ≤ i → fd[i]? = some r → klt r row = false) ∧ whileL bsT bsB n (bsE Z fd row lo hi x) = .nx (bsE Z fd row k k x')
  | 0, lo, hi, x, _, _, hn, _, _ => by omega
  | n + 1, lo, hi, x, h1, h2, hn, k1, k2 => by
    have t : bsT (bsE Z fd row lo hi x) = .ok (decide ((lo : Int) < hi)) := (m1_ok (a := D.bl (decide ((lo : Int) < hi))) ((m2_ok (a := D.int (lo : Nat)) (b := D.int (hi : Nat)) rfl rfl).trans rfl)).trans rfl
    by_cases hl : lo < hi
    · have hm : (lo + hi) / 2 < fd.length := by omega
      have hg := List.getElem?_eq_getElem hm
      have tt : bsT (bsE Z fd row lo hi x) = .ok true := by rw [t]; simp [hl]
      simp only [whileL, tt, bs_turn hg]
      cases hk : klt fd[(lo + hi) / 2] row with
      | true =>
        simp only [if_true]
        refine bs_ok Z fd row hs n _ hi _ (by omega) h2 (by omega) (fun i r hi' hr => ?_) k2
        by_cases e : i = (lo + hi) / 2
        · subst e
          rw [hg] at hr
          cases hr
          exact hk
        · have hi2 := (List.getElem?_eq_some_iff.mp hr)
          obtain ⟨hi3, hr2⟩ := hi2
          have := List.pairwise_iff_getElem.mp hs i ((lo + hi) / 2) hi3 hm (by omega)
          rw [hr2] at this
          exact klt_trans this hk
      | false =>
        simp only [Bool.false_eq_true, if_false]
        refine bs_ok Z fd row hs n lo _ _ (by omega) (by omega) (by omega) k1 (fun i r hi' hr => ?_)
        by_cases e : i = (lo + hi) / 2
        · subst e
          rw [hg] at hr
          cases hr
          exact hk
        · obtain ⟨hi3, hr2⟩ := List.getElem?_eq_some_iff.mp hr
          have := List.pairwise_iff_getElem.mp hs ((lo + hi) / 2) i hm hi3 (by omega)
          rw [hr2] at this
          cases hq : klt r row with
          | false => rfl
          | true => rw [klt_trans this hq] at hk; cases hk
    · have e : lo = hi := by omega
      subst e
      have tt : bsT (bsE Z fd row lo lo x) = .ok false := by rw [t]; simp
      exact ⟨lo, x, h2, k1, k2, by simp only [whileL, tt]⟩
end HL

/-! Plain law: in_order. -/
namespace HL
open PySem L2
theorem sim_tupN (r : List Nat) : sim (tupN r) = true := sim_tup (simpL_nm r)
theorem deq_tupN (r s : List Nat) : deq (tupN r) (tupN s) = decide (r = s) := by
  show deq (.tup (r.map nm)) (.tup (s.map nm)) = _
  simp only [deq]
  exact deqL_nm r s
def insT : HEnv → R Bool := mOrT (m1 truB (m2 eqD (mOwn 3) (m1 lenD (mOwn 1)))) (m1 truB (m2 neD (m2 ixD (mOwn 1) (mOwn 3)) (mOwn 2)))
/-- found with the row in it -/
def putIn (fd : List (List Nat)) (row : List Nat) (k : Nat) : List (List Nat) := if fd[k]? = some row then fd else fd.take k ++ [row] ++ fd.drop k
theorem putIn_mem {fd : List (List Nat)} {row : List Nat} {k : Nat} (r : List Nat) : r ∈ putIn fd row k ↔ r ∈ fd ∨ r = row := by
  unfold putIn
  split
  · rename_i h
    have := List.mem_of_getElem? h
    exact ⟨.inl, fun h => h.elim id fun e => e ▸ this⟩
  · have e : fd = fd.take k ++ fd.drop k := (List.take_append_drop k fd).symm
    constructor
    · intro h
      simp only [List.mem_append, List.mem_singleton] at h
      rcases h with (h | h) | h
      · exact .inl (List.mem_of_mem_take h)
      · exact .inr h
      · exact .inl (List.mem_of_mem_drop h)
    · intro h
      simp only [List.mem_append, List.mem_singleton]
      rcases h with h | h
      · rw [e] at h
        rcases List.mem_append.mp h with h | h
        · exact .inl (.inl h)
        · exact .inr h
      · exact .inl (.inr h)
theorem putIn_len {fd : List (List Nat)} {row : List Nat} {k : Nat} : (putIn fd row k).length ≤ fd.length + 1 := by
  unfold putIn
  split
  · omega
  · simp only [List.length_append, List.length_take, List.length_drop, List.length_singleton]
    omega
theorem putIn_sorted {fd : List (List Nat)} {row : List Nat} {k : Nat} (hs : fd.Pairwise fun a b => klt a b = true) (h1 : ∀ i r, i < k → fd[i]? = some r → klt r row = true) (h2 : ∀ i r, k ≤ i → fd[i]? = some r → klt r row = false) : (putIn fd row k).Pairwise fun a b => klt a b = true := by
  unfold putIn
  split
  · exact hs
  · rename_i hk
    have e : fd = fd.take k ++ fd.drop k := (List.take_append_drop k fd).symm
    have hs' := hs
    rw [e] at hs'
    obtain ⟨p1, p2, p3⟩ := List.pairwise_append.mp hs'
    have lo : ∀ a ∈ fd.take k, klt a row = true := fun a ha => by
      obtain ⟨i, hi, rfl⟩ := List.mem_iff_getElem.mp ha
      rw [List.length_take] at hi
      exact h1 i _ (by omega) (by rw [List.getElem_take]; exact List.getElem?_eq_getElem (by omega))
    have hi : ∀ b ∈ fd.drop k, klt row b = true := fun b hb => by
      obtain ⟨i, hi, rfl⟩ := List.mem_iff_getElem.mp hb
      rw [List.length_drop] at hi
      rw [List.getElem_drop]
      have hg : fd[k + i]? = some fd[k + i] := List.getElem?_eq_getElem (by omega)
      have f := h2 (k + i) _ (by omega) hg
      cases hq : klt row fd[k + i] with
      | true => rfl
      | false =>
        exfalso
        have er := klt_tri f hq
        cases i with
        | zero =>
          rw [er] at hg
          exact hk hg
        | succ j =>
          have hk2 : k < fd.length := by omega
          have a := List.pairwise_iff_getElem.mp hs k (k + (j + 1)) hk2 (by omega) (by omega)
          rw [er] at a
          have b := h2 k _ (Nat.le_refl k) (List.getElem?_eq_getElem hk2)
          rw [a] at b
          cases b
    rw [List.append_assoc]
    refine List.pairwise_append.mpr ⟨p1, List.pairwise_append.mpr ⟨List.pairwise_singleton _ _, p2, fun a ha b hb => ?_⟩, fun a ha b hb => ?_⟩
    · rw [List.mem_singleton.mp ha]
      exact hi b hb
    · rcases List.mem_append.mp hb with hb | hb
      · rw [List.mem_singleton.mp hb]
        exact lo a ha
      · exact p3 a ha b hb
theorem ins_ok {Z : D} {fd : List (List Nat)} {row : List Nat} {k : Nat} {x : Slot} (hk : k ≤ fd.length) (hz : fd.length ≤ 900) :
    mIfS insT (mInsert 1 (mVar 3) (mVar 2)) mNext (bsE Z fd row k k x) = .nx (bsE Z (putIn fd row k) row k k x) := by
  have l1 : m1 lenD (mOwn 1) (bsE Z fd row k k x) = .ok (.int fd.length) := (m1_ok (a := D.lst (fd.map tupN)) rfl).trans (by
    show R.ok (D.int ((fd.map tupN).length : Nat)) = _
    rw [List.length_map])
  have t1 : m1 truB (m2 eqD (mOwn 3) (m1 lenD (mOwn 1))) (bsE Z fd row k k x) = .ok (decide ((k : Int) = fd.length)) := by
    refine (m1_ok (a := D.bl ((k : Int) == fd.length)) ((m2_ok (a := D.int (k : Nat)) (b := D.int fd.length) rfl l1).trans ?_)).trans ?_
    · show (if sim (.int (k : Nat)) = true ∧ sim (.int (fd.length : Nat)) = true then R.ok (D.bl (((k : Nat) : Int) == (fd.length : Nat))) else R.stuck) = _
      rw [if_pos ⟨rfl, rfl⟩]
    · show R.ok (((k : Nat) : Int) == (fd.length : Nat)) = _
      congr 1
  have insd : mInsert 1 (mVar 3) (mVar 2) (bsE Z fd row k k x) = .nx (bsE Z (fd.take k ++ [row] ++ fd.drop k) row k k x) := by
    show (if (fd.map tupN).length < sizeLine ∧ (0 : Int) ≤ (k : Nat) ∧ ((k : Nat) : Int) < 2 ^ 63 then SO.nx _ else .stuck) = _
    rw [if_pos ⟨by rw [List.length_map]; exact small_line (by omega), by omega, by omega⟩]
    simp only [bsE, List.set_cons_succ, List.set_cons_zero, List.map_append, List.map_take, List.map_drop, List.map_cons, List.map_nil, Int.toNat_natCast]
  by_cases e : k = fd.length
  · have tt : insT (bsE Z fd row k k x) = .ok true := by
      unfold insT mOrT
      rw [t1, R.bind_ok, if_pos (by simp [e])]
    refine (mIf_tt tt).trans (insd.trans ?_)
    unfold putIn
    rw [if_neg (by rw [e, List.getElem?_eq_none (Nat.le_refl _)]; simp)]
  · have hl : k < fd.length := by omega
    have hg := List.getElem?_eq_getElem hl
    have i1 : m2 ixD (mOwn 1) (mOwn 3) (bsE Z fd row k k x) = .ok (tupN fd[k]) := (m2_ok (a := D.lst (fd.map tupN)) (b := D.int (k : Nat)) rfl rfl).trans (ix_lst (by rw [List.getElem?_map, hg]; rfl))
    have t2 : m1 truB (m2 neD (m2 ixD (mOwn 1) (mOwn 3)) (mOwn 2)) (bsE Z fd row k k x) = .ok (!decide (fd[k] = row)) := by
      refine (m1_ok (a := D.bl (!decide (fd[k] = row))) ((m2_ok i1 (b := tupN row) rfl).trans ?_)).trans rfl
      unfold neD
      rw [if_pos ⟨sim_tupN _, sim_tupN _⟩, deq_tupN]
    have tt : insT (bsE Z fd row k k x) = .ok (!decide (fd[k] = row)) := by
      unfold insT mOrT
      rw [t1, R.bind_ok, if_neg (by simp; omega), t2]
    by_cases er : fd[k] = row
    · rw [decide_eq_true er] at tt
      refine (mIf_ff tt).trans ?_
      unfold putIn
      rw [if_pos (by rw [hg, er])]
      rfl
    · rw [decide_eq_false er] at tt
      refine (mIf_tt tt).trans (insd.trans ?_)
      unfold putIn
      rw [if_neg (by rw [hg]; simp [er])]
/-- in_order -/
def b_in_order  : HEnv → SO :=
  (mSeq (mSetN 1 (mLstE mNil))
  (mSeq (mFor (m1 itemsD (mVar 0)) (gN 2)
  (mSeq (mPar 3 4 (mCons (mC (.int 0)) (mCons (m1 lenD (mOwn 1)) mNil)))
  (mSeq (whileL bsT bsB 1000)
  (mIfS insT
  (mInsert 1 (mVar 3) (mVar 2))
  mNext))))
  (mRetOwn 1)))
def ioB : HEnv → SO := mSeq (mPar 3 4 (mCons (mC (.int 0)) (mCons (m1 lenD (mOwn 1)) mNil))) (mSeq (whileL bsT bsB 1000) (mIfS insT (mInsert 1 (mVar 3) (mVar 2)) mNext))
theorem io_turn {Z : D} {fd : List (List Nat)} {row : List Nat} {a b c d : Slot} (hs : fd.Pairwise fun a b => klt a b = true) (hz : fd.length ≤ 900) :
    ∃ k x, ((∀ i r, i < k → fd[i]? = some r → klt r row = true) ∧ ∀ i r, k ≤ i → fd[i]? = some r → klt r row = false) ∧ ioB [.val Z, .own (.lst (fd.map tupN)), .val (tupN row), b, c, d] = .nx (bsE Z (putIn fd row k) row k k x) := by
  have l1 : mCons (mC (.int 0)) (mCons (m1 lenD (mOwn 1)) mNil) [.val Z, .own (.lst (fd.map tupN)), .val (tupN row), b, c, d] = .ok [.int 0, .int fd.length] :=
    mCons_ok (d := .int 0) rfl (mCons_ok ((m1_ok (a := D.lst (fd.map tupN)) rfl).trans (by
      show R.ok (D.int ((fd.map tupN).length : Nat)) = _
      rw [List.length_map])) rfl)
  have p : mPar 3 4 (mCons (mC (.int 0)) (mCons (m1 lenD (mOwn 1)) mNil)) [.val Z, .own (.lst (fd.map tupN)), .val (tupN row), b, c, d] = .nx (bsE Z fd row 0 fd.length d) := (sB_ok l1).trans rfl
  obtain ⟨k, x, h1, h2, h3, h4⟩ := bs_ok Z fd row hs 1000 0 fd.length d (Nat.zero_le _) (Nat.le_refl _) (by omega) (fun i r hi => absurd hi (Nat.not_lt_zero _)) (fun i r hi hr => by rw [List.getElem?_eq_none hi] at hr; cases hr)
  exact ⟨k, x, ⟨h2, h3⟩, (mSeq_nx p).trans ((mSeq_nx h4).trans (ins_ok h1 hz))⟩
theorem io_all {Z : D} : ∀ {rows fd : List (List Nat)} {a b c d : Slot}, fd.Pairwise (fun a b => klt a b = true) → fd.length + rows.length ≤ 900 →
    ∃ (fd' : List (List Nat)) (a' b' c' d' : Slot), fd'.Pairwise (fun a b => klt a b = true) ∧ (∀ r, r ∈ fd' ↔ r ∈ fd ∨ r ∈ rows) ∧ forL (gN 2) ioB (rows.map tupN) [.val Z, .own (.lst (fd.map tupN)), a, b, c, d] = .nx [.val Z, .own (.lst (fd'.map tupN)), a', b', c', d']
  | [], fd, a, b, c, d, hs, _ => ⟨fd, a, b, c, d, hs, fun r => by simp, rfl⟩
  | row :: rows, fd, a, b, c, d, hs, hz => by
    simp only [List.length_cons] at hz
    obtain ⟨k, x, ⟨h1, h2⟩, h3⟩ := io_turn (Z := Z) (row := row) (a := a) (b := b) (c := c) (d := d) hs (by omega)
    have hl := putIn_len (fd := fd) (row := row) (k := k)
    obtain ⟨fd', a', b', c', d', g1, g2, g3⟩ := io_all (Z := Z) (rows := rows) (fd := putIn fd row k) (a := .val (tupN row)) (b := .val (.int (k : Nat))) (c := .val (.int (k : Nat))) (d := x) (putIn_sorted hs h1 h2) (by omega)
    refine ⟨fd', a', b', c', d', g1, fun r => by rw [g2, putIn_mem, List.mem_cons, or_assoc], ?_⟩
    simp only [List.map_cons, forL]
    rw [show gN 2 (tupN row) [.val Z, .own (.lst (fd.map tupN)), a, b, c, d] = .ok [.val Z, .own (.lst (fd.map tupN)), .val (tupN row), b, c, d] from rfl]
    simp only [h3]
    exact g3
theorem in_order_ok (rows : List (List Nat)) (hz : rows.length ≤ 900) : ∃ fd : List (List Nat), fd.Pairwise (fun a b => klt a b = true) ∧ (∀ r, r ∈ fd ↔ r ∈ rows) ∧ fnS 6 b_in_order [.lst (rows.map tupN)] = .ok (true, .lst (fd.map tupN)) := by
  obtain ⟨fd, a, b, c, d, h1, h2, h3⟩ := io_all (Z := .lst (rows.map tupN)) (rows := rows) (fd := []) (a := .no) (b := .no) (c := .no) (d := .no) .nil (by simpa using hz)
  refine ⟨fd, h1, fun r => by rw [h2]; simp, fnS_rt ?_⟩
  refine (mSeq_nx (mSetN_ok (d := .lst []) rfl)).trans ((mSeq_nx ((mFor_ok (ds := rows.map tupN) rfl).trans h3)).trans rfl)
end HL

/-! Plain law: _law_sorted. -/
namespace HL
open PySem L2
theorem forB_ind {i : Nat} {g : D → HEnv → R HEnv} {b : HEnv → SO} {ds : List D} (P : Nat → HEnv → Prop) (hP : ∀ j env, P j env → env[i]? = some (.lent (.lst ds))) (hs : ∀ j d, ds[j]? = some d → ∀ env, P j env → ∃ e1 e, g d env = .ok e1 ∧ b e1 = .nx e ∧ P (j + 1) e) :
    ∀ (n j : Nat) (env : HEnv), ds.length < n + j → P j env → j ≤ ds.length → ∃ e, forB i g b n j env = .nx e ∧ P ds.length e
  | 0, j, env, h, _, hj => by omega
  | n + 1, j, env, h, h0, hj => by
    unfold forB
    rw [hP j env h0]
    simp only
    by_cases hlt : j < ds.length
    · have hg := List.getElem?_eq_getElem hlt
      rw [hg]
      simp only
      obtain ⟨e1, e, h1, h2, h3⟩ := hs j _ hg env h0
      simp only [h1, h2]
      exact forB_ind P hP hs n (j + 1) e (by omega) h3 hlt
    · have : j = ds.length := by omega
      subst this
      rw [List.getElem?_eq_none (by omega)]
      exact ⟨env, rfl, h0⟩
theorem mForB_ind {i : Nat} {g : D → HEnv → R HEnv} {b : HEnv → SO} {ds : List D} {env : HEnv} (P : Nat → HEnv → Prop) (he : env[i]? = some (.own (.lst ds))) (h0 : P 0 (env.set i (.lent (.lst ds)))) (hP : ∀ j env, P j env → env[i]? = some (.lent (.lst ds))) (hs : ∀ j d, ds[j]? = some d → ∀ env, P j env → ∃ e1 e, g d env = .ok e1 ∧ b e1 = .nx e ∧ P (j + 1) e) :
    ∃ e, mForB i g b env = .nx (e.set i (.own (.lst ds))) ∧ P ds.length e := by
  obtain ⟨e, h1, h2⟩ := forB_ind P hP hs (ds.length + 1) 0 _ (by omega) h0 (Nat.zero_le _)
  refine ⟨e, ?_, h2⟩
  unfold mForB
  rw [he]
  simp only [h1, giveBack, hP _ e h2]
def minB : HEnv → SO := mIfS (m1 truB (m2 ltD (mTupE (mCons (m1 lenD (mOwn 5)) (mCons (mVar 5) mNil))) (mTupE (mCons (m1 lenD (mOwn 4)) (mCons (mVar 4) mNil))))) (mSet 4 (mVar 5)) mNext
theorem min_ok {Z : D} {rest found : List (List Nat)} {s3 s5 : Slot} {b0 : List Nat} (hb : b0 ∈ rest) :
    ∃ (best : List Nat) (s5' : Slot), best ∈ rest ∧ (∀ r, r ∈ rest → klt r best = false) ∧ mForB 1 (gN 5) minB [.val Z, .own (.lst (rest.map tupN)), .own (.lst (found.map tupN)), s3, .val (tupN b0), s5] = .nx [.val Z, .own (.lst (rest.map tupN)), .own (.lst (found.map tupN)), s3, .val (tupN best), s5'] := by
  have lenT : ∀ r : List Nat, lenD (tupN r) = .ok (.int r.length) := fun r => by
    show R.ok (D.int ((r.map nm).length : Nat)) = _
    rw [List.length_map]
  obtain ⟨e, h1, best, s5', he, hm, hl⟩ := mForB_ind (i := 1) (g := gN 5) (b := minB) (ds := rest.map tupN) (env := [.val Z, .own (.lst (rest.map tupN)), .own (.lst (found.map tupN)), s3, .val (tupN b0), s5])
    (fun j env => ∃ (best : List Nat) (s5' : Slot), env = [.val Z, .lent (.lst (rest.map tupN)), .own (.lst (found.map tupN)), s3, .val (tupN best), s5'] ∧ best ∈ rest ∧ ∀ i r, i < j → rest[i]? = some r → klt r best = false)
    rfl ⟨b0, s5, rfl, hb, fun i r hi => absurd hi (Nat.not_lt_zero _)⟩ (fun j env ⟨_, _, e, _⟩ => by rw [e]; rfl) (fun j d hd env ⟨best, s5', e, hm, hl⟩ => by
      subst e
      rw [List.getElem?_map] at hd
      cases hr : rest[j]? with
      | none => rw [hr] at hd; cases hd
      | some r =>
        rw [hr] at hd
        cases hd
        have t : (m1 truB (m2 ltD (mTupE (mCons (m1 lenD (mOwn 5)) (mCons (mVar 5) mNil))) (mTupE (mCons (m1 lenD (mOwn 4)) (mCons (mVar 4) mNil))))) [.val Z, .lent (.lst (rest.map tupN)), .own (.lst (found.map tupN)), s3, .val (tupN best), .val (tupN r)] = .ok (klt r best) := by
          refine (m1_ok (a := D.bl (klt r best)) ((m2_ok (a := D.tup [.int r.length, tupN r]) (b := D.tup [.int best.length, tupN best]) ?_ ?_).trans (pair_klt r best))).trans rfl
          · exact (m1_ok (a := [D.int r.length, tupN r]) (mCons_ok ((m1_ok (a := tupN r) rfl).trans (lenT r)) (mCons_ok (d := tupN r) rfl rfl))).trans rfl
          · exact (m1_ok (a := [D.int best.length, tupN best]) (mCons_ok ((m1_ok (a := tupN best) rfl).trans (lenT best)) (mCons_ok (d := tupN best) rfl rfl))).trans rfl
        cases hk : klt r best with
        | true =>
          rw [hk] at t
          refine ⟨_, _, rfl, (mIf_tt t).trans rfl, r, .val (tupN r), rfl, List.mem_of_getElem? hr, fun i p hi hp => ?_⟩
          by_cases e : i = j
          · subst e
            rw [hr] at hp
            cases hp
            exact klt_irrefl r
          · have f := hl i p (by omega) hp
            cases hq : klt p r with
            | false => rfl
            | true => rw [klt_trans hq hk] at f; cases f
        | false =>
          rw [hk] at t
          refine ⟨_, _, rfl, (mIf_ff t).trans rfl, best, .val (tupN r), rfl, hm, fun i p hi hp => ?_⟩
          by_cases e : i = j
          · subst e
            rw [hr] at hp
            cases hp
            exact hk
          · exact hl i p (by omega) hp)
  subst he
  refine ⟨best, s5', hm, fun r hr => ?_, h1⟩
  obtain ⟨i, hi, rfl⟩ := List.mem_iff_getElem.mp hr
  exact hl i _ (by rw [List.length_map]; exact hi) (List.getElem?_eq_getElem hi)
theorem first_erase {b : List Nat} : ∀ {rest : List (List Nat)}, b ∈ rest → ∃ j, firstD (tupN b) (rest.map tupN) = some j ∧ (rest.map tupN).eraseIdx j = (rest.erase b).map tupN
  | [], h => by simp at h
  | x :: r, h => by
    simp only [List.map_cons, firstD]
    rw [deq_tupN]
    by_cases e : x = b
    · subst e
      exact ⟨0, by simp, by simp⟩
    · have hb : b ∈ r := (List.mem_cons.mp h).elim (fun z => absurd z.symm e) id
      obtain ⟨j, h1, h2⟩ := first_erase hb
      refine ⟨j + 1, by simp [e, h1], ?_⟩
      rw [List.eraseIdx_cons_succ, h2, List.erase_cons_tail (by simpa using e)]
      rfl
theorem simpL_tupN (rest : List (List Nat)) : simpL? 50 (rest.map tupN) = true := simpL_of fun d hd => by
  obtain ⟨r, _, rfl⟩ := List.mem_map.mp hd
  exact sim_tupN r
theorem rem_tupN {b : List Nat} {rest : List (List Nat)} (h : b ∈ rest) : remD (.lst (rest.map tupN)) (tupN b) = .ok (.lst ((rest.erase b).map tupN)) := by
  obtain ⟨j, h1, h2⟩ := first_erase h
  simp only [remD]
  rw [if_pos ⟨simpL_tupN rest, sim_tupN b⟩, h1]
  simp only [h2]
end HL

/-! Plain law: _law_sorted. -/
namespace HL
open PySem L2
def srtB : HEnv → SO := mSeq (mSet 4 (m2 ixD (mOwn 1) (mC (.int 0)))) (mSeq (mForB 1 (gN 5) minB) (mSeq (mOwn1 1 (tyL "list") remD (mOwn 4)) (mOwn1 2 (tyL "list") appD (mVar 4))))
def b_sorted  : HEnv → SO :=
  (mSeq (mSetN 1 (m1 listD (mOwn 0)))
  (mSeq (mSetN 2 (mLstE mNil))
  (mSeq (mFor (m1 range1D (mCons (m1 lenD (mOwn 0)) mNil)) (gN 3) srtB)
  (mRetOwn 2))))
theorem srt_turn {Z : D} {rest found : List (List Nat)} {s3 s4 s5 : Slot} (h0 : rest ≠ []) (hf : found.length ≤ 900) :
    ∃ (best : List Nat) (s5' : Slot), best ∈ rest ∧ (∀ r, r ∈ rest → klt r best = false) ∧ srtB [.val Z, .own (.lst (rest.map tupN)), .own (.lst (found.map tupN)), s3, s4, s5] = .nx [.val Z, .own (.lst ((rest.erase best).map tupN)), .own (.lst ((found ++ [best]).map tupN)), s3, .val (tupN best), s5'] := by
  obtain ⟨x, r, rfl⟩ := List.exists_cons_of_ne_nil h0
  obtain ⟨best, s5', hm, hl, h1⟩ := min_ok (Z := Z) (rest := x :: r) (found := found) (s3 := s3) (s5 := s5) (b0 := x) List.mem_cons_self
  refine ⟨best, s5', hm, hl, ?_⟩
  refine (mSeq_nx (mSet_ok (d := tupN x) ((m2_ok (a := D.lst (tupN x :: r.map tupN)) (b := D.int ((0 : Nat) : Int)) rfl rfl).trans (ix_lst (j := 0) rfl)))).trans ((mSeq_nx h1).trans ?_)
  have a1 : mOwn1 1 (tyL "list") remD (mOwn 4) [.val Z, .own (.lst ((x :: r).map tupN)), .own (.lst (found.map tupN)), s3, .val (tupN best), s5'] = .nx [.val Z, .own (.lst (((x :: r).erase best).map tupN)), .own (.lst (found.map tupN)), s3, .val (tupN best), s5'] := by
    show (match remD (.lst ((x :: r).map tupN)) (tupN best) with
      | .ok c' => SO.nx (List.set [.val Z, .own (.lst ((x :: r).map tupN)), .own (.lst (found.map tupN)), s3, .val (tupN best), s5'] 1 (.own c'))
      | _ => .stuck) = _
    rw [rem_tupN hm]
    rfl
  refine (mSeq_nx a1).trans ?_
  refine (append_ok (i := 2) (ds := found.map tupN) (d := tupN best) rfl rfl (by rw [List.length_map]; exact small_line (by omega))).trans ?_
  simp only [List.set_cons_succ, List.set_cons_zero, List.map_append, List.map_cons, List.map_nil]
theorem srt_all {Z : D} : ∀ {ks : List Nat} {rest found : List (List Nat)} {s3 s4 s5 : Slot}, ks.length = rest.length → rest.Nodup → found.Pairwise (fun a b => klt a b = true) → (∀ a ∈ found, ∀ b ∈ rest, klt a b = true) → found.length + rest.length ≤ 900 →
    ∃ (found' : List (List Nat)) (s1 s3' s4' s5' : Slot), found'.Pairwise (fun a b => klt a b = true) ∧ (∀ r, r ∈ found' ↔ r ∈ found ∨ r ∈ rest) ∧ forL (gN 3) srtB (ks.map fun k => D.int (k : Nat)) [.val Z, .own (.lst (rest.map tupN)), .own (.lst (found.map tupN)), s3, s4, s5] = .nx [.val Z, s1, .own (.lst (found'.map tupN)), s3', s4', s5']
  | [], rest, found, s3, s4, s5, hk, hn, hp, hx, hz => by
    have : rest = [] := List.eq_nil_of_length_eq_zero hk.symm
    subst this
    exact ⟨found, _, s3, s4, s5, hp, fun r => by simp, rfl⟩
  | k :: ks, rest, found, s3, s4, s5, hk, hn, hp, hx, hz => by
    have h0 : rest ≠ [] := fun e => by subst e; cases hk
    obtain ⟨best, s5', hm, hl, h1⟩ := srt_turn (Z := Z) (rest := rest) (found := found) (s3 := .val (.int (k : Nat))) (s4 := s4) (s5 := s5) h0 (by omega)
    have hlen : (rest.erase best).length + 1 = rest.length := by
      rw [List.length_erase_of_mem hm]
      have := List.length_pos_of_mem hm
      omega
    have lt : ∀ r, r ∈ rest.erase best → klt best r = true := fun r hr => by
      obtain ⟨ne, mr⟩ := (List.Nodup.mem_erase_iff hn).mp hr
      cases hq : klt best r with
      | true => rfl
      | false => exact absurd (klt_tri (hl r mr) hq) ne
    obtain ⟨found', s1, a, b, c, g1, g2, g3⟩ := srt_all (Z := Z) (ks := ks) (rest := rest.erase best) (found := found ++ [best]) (s3 := .val (.int (k : Nat))) (s4 := .val (tupN best)) (s5 := s5') (by simp only [List.length_cons] at hk; omega) (hn.erase best)
      (List.pairwise_append.mpr ⟨hp, List.pairwise_singleton _ _, fun x hx' y hy => by rw [List.mem_singleton.mp hy]; exact hx x hx' best hm⟩)
      (fun x hx' y hy => by
        rcases List.mem_append.mp hx' with hx' | hx'
        · exact hx x hx' y (List.mem_of_mem_erase hy)
        · rw [List.mem_singleton.mp hx']; exact lt y hy) (by simp only [List.length_append, List.length_singleton]; omega)
    refine ⟨found', s1, a, b, c, g1, fun r => ?_, ?_⟩
    · rw [g2, List.mem_append, List.mem_singleton, List.Nodup.mem_erase_iff hn]
      constructor
      · rintro ((h | h) | ⟨_, h⟩)
        · exact .inl h
        · exact .inr (h ▸ hm)
        · exact .inr h
      · rintro (h | h)
        · exact .inl (.inl h)
        · by_cases e : r = best
          · exact .inl (.inr e)
          · exact .inr ⟨e, h⟩
    · simp only [List.map_cons, forL]
      rw [show gN 3 (.int (k : Nat)) [.val Z, .own (.lst (rest.map tupN)), .own (.lst (found.map tupN)), s3, s4, s5] = .ok [.val Z, .own (.lst (rest.map tupN)), .own (.lst (found.map tupN)), .val (.int (k : Nat)), s4, s5] from rfl]
      simp only [h1]
      exact g3
theorem sorted_ok (rows : List (List Nat)) (hn : rows.Nodup) (hz : rows.length ≤ 900) : ∃ fd : List (List Nat), fd.Pairwise (fun a b => klt a b = true) ∧ (∀ r, r ∈ fd ↔ r ∈ rows) ∧ fnS 6 b_sorted [.lst (rows.map tupN)] = .ok (true, .lst (fd.map tupN)) := by
  obtain ⟨fd, s1, a, b, c, h1, h2, h3⟩ := srt_all (Z := .lst (rows.map tupN)) (ks := List.range rows.length) (rest := rows) (found := []) (s3 := .no) (s4 := .no) (s5 := .no) (by simp) hn .nil (by simp) (by simpa using hz)
  refine ⟨fd, h1, fun r => by rw [h2]; simp, fnS_rt ?_⟩
  refine (mSeq_nx (mSetN_ok (d := .lst (rows.map tupN)) rfl)).trans ((mSeq_nx (mSetN_ok (d := .lst []) rfl)).trans ((mSeq_nx ((mFor_ok (ds := (List.range rows.length).map fun i => D.int (i : Nat)) (range_of ?_ (by omega))).trans h3)).trans rfl))
  refine (m1_ok (a := D.lst (rows.map tupN)) rfl).trans ?_
  show R.ok (D.int ((rows.map tupN).length : Nat)) = _
  rw [List.length_map]
end HL

/-! Plain law: rising names, flags, lots of masks. -/
namespace HL
open PySem L2
def b_rising  : HEnv → SO :=
  (mRetN (mComp [1] (m1 itemsD (mC (.str "ABCDEFGHIJKLMNOPQRSTUVWXYZ"))) (gN 1) (m1 truB (m2 (inN false) (mOwn 1) (mOwn 0))) (mVar 1)))
theorem in_nms (c : Nat) (ls : List Nat) : inN false (nm c) (.lst (ls.map nm)) = .ok (.bl (decide (c ∈ ls))) := by
  have h := in_given false (tx [c]) (ls.map fun c => tx [c])
  rw [← nm_map] at h
  refine h.trans ?_
  congr 2
  refine decide_eq_decide.mpr ⟨fun m => ?_, fun m => List.mem_map.mpr ⟨c, m, rfl⟩⟩
  obtain ⟨a, ha, e⟩ := List.mem_map.mp m
  have := tx_inj e
  simp only [List.cons.injEq, and_true] at this
  exact this ▸ ha
theorem rising_ok (ls : List Nat) : fnS 2 b_rising [.lst (ls.map nm)] = .ok (true, .lst ((rising ls).map nm)) := by
  refine fnS_rt (mRetN_ok (mComp_ok (ds := letters.map nm) ?_ ?_))
  · exact (m1_ok (show mC (.str "ABCDEFGHIJKLMNOPQRSTUVWXYZ") _ = .ok (.str (tx letters)) from congrArg (fun s => R.ok (D.str s)) abc)).trans (items_tx (by decide))
  · exact compL_filter (p := fun c => decide (c ∈ ls)) (h := nm) (fun c _ => (m1_ok (a := D.bl (decide (c ∈ ls))) ((m2_ok (a := nm c) (b := D.lst (ls.map nm)) rfl rfl).trans (in_nms c ls))).trans rfl) (fun c _ _ => rfl)
def pws : List Int := [1, 2, 4, 8, 16, 32]
def bit (mask : Int) (i : Nat) : Bool := decide (mask / pws.getD i 1 % 2 = 1)
theorem pws_at {i : Nat} (h : i < 6) : ixD (.lst (pws.map D.int)) (.int (i : Int)) = .ok (.int (pws.getD i 1)) := by
  refine ix_lst ?_
  match i, h with
  | 0, _ => rfl
  | 1, _ => rfl
  | 2, _ => rfl
  | 3, _ => rfl
  | 4, _ => rfl
  | 5, _ => rfl
theorem pws_pos (i : Nat) : 0 < pws.getD i 1 ∧ pws.getD i 1 ≤ 32 := by
  match i with
  | 0 => decide
  | 1 => decide
  | 2 => decide
  | 3 => decide
  | 4 => decide
  | 5 => decide
  | n + 6 => exact ⟨by simp [pws], by simp [pws]⟩
def pwD : HEnv → R D := mLstE (mCons (mC (.int 1)) (mCons (mC (.int 2)) (mCons (mC (.int 4)) (mCons (mC (.int 8)) (mCons (mC (.int 16)) (mCons (mC (.int 32)) mNil))))))
theorem pwD_ok (env : HEnv) : pwD env = .ok (.lst (pws.map D.int)) := rfl
theorem div_pws {mask : Int} (i : Nat) : divD (.int mask) (.int (pws.getD i 1)) = .ok (.int (mask / pws.getD i 1)) := by
  obtain ⟨h1, h2⟩ := pws_pos i
  exact if_pos ⟨h1, by omega⟩
def b_flags  : HEnv → SO :=
  (mRetN (mComp [2] (m1 itemsD (mOwn 0)) (gN 2) mYes (m2 eqD (m2 modD (m1 intD (m2 divD (mOwn 2) (m2 ixD pwD (mOwn 1)))) (mC (.int 2))) (mC (.int 1)))))
theorem flags_ok (masks : List Int) {at_ : Nat} (h : at_ < 6) : fnS 3 b_flags [.lst (masks.map D.int), .int (at_ : Nat)] = .ok (true, .lst (masks.map fun m => D.bl (bit m at_))) := by
  refine fnS_rt (mRetN_ok (mComp_ok (ds := masks.map D.int) rfl (compL_map (h := fun m => D.bl (bit m at_)) fun m _ => ?_)))
  have e1 := (m2_ok (env := List.set (wipeE ([D.lst (masks.map D.int), D.int (at_ : Nat)].map Slot.val ++ List.replicate (3 - 2) Slot.no) [2]) 2 (.val (.int m))) (ma := mOwn 2) (mb := m2 ixD pwD (mOwn 1)) (f := divD) (a := D.int m) rfl ((m2_ok (a := D.lst (pws.map D.int)) (b := D.int (at_ : Nat)) rfl rfl).trans (pws_at h))).trans (div_pws at_)
  refine (m2_ok (mod_lit (int_of e1) (by decide)) (b := D.int 1) rfl).trans ?_
  show (if sim (.int (m / pws.getD at_ 1 % 2)) = true ∧ sim (.int 1) = true then R.ok (D.bl (m / pws.getD at_ 1 % 2 == 1)) else R.stuck) = _
  rw [if_pos ⟨rfl, rfl⟩]
  rfl
end HL

/-! Plain law: the lot of a mask. -/
namespace HL
open PySem L2
def b_lot  : HEnv → SO :=
  (mSeq (mSet 2 pwD)
  (mSeq (mSet 3 (mComp [4] (m1 range1D (mCons (m1 lenD (mOwn 0)) mNil)) (gN 4) mYes (m2 modD (m1 intD (m2 divD (mOwn 1) (m2 ixD (mOwn 2) (mOwn 4)))) (mC (.int 2)))))
  (mRet (m1 tupleD (mComp [4] (m1 range1D (mCons (m1 lenD (mOwn 0)) mNil)) (gN 4) (m1 truB (m2 eqD (m2 ixD (mOwn 3) (mOwn 4)) (mC (.int 1)))) (m2 ixD (mOwn 0) (mOwn 4)))))))
/-- the names at the places of the mask -/
def lotM (S : List Nat) (mask : Int) : List Nat := ((List.range S.length).filter (bit mask)).map fun i => S.getD i 0
theorem lot_ok (S : List Nat) (mask : Int) (h : S.length ≤ 6) : fnS 5 b_lot [.lst (S.map nm), .int mask] = .ok (false, tupN (lotM S mask)) := by
  have rg : ∀ a b c : Slot, m1 range1D (mCons (m1 lenD (mOwn 0)) mNil) [.val (.lst (S.map nm)), .val (.int mask), a, b, c] = .ok ((List.range S.length).map fun i => D.int (i : Nat)) := fun a b c => by
    refine range_of ((m1_ok (a := D.lst (S.map nm)) rfl).trans ?_) (by omega)
    show R.ok (D.int ((S.map nm).length : Nat)) = _
    rw [List.length_map]
  refine fnS_rt ((mSeq_nx (mSet_ok (pwD_ok _))).trans ?_)
  refine (mSeq_nx (mSet_ok (mComp_ok (rg _ _ _) (compL_map (h := fun i => D.int (mask / pws.getD i 1 % 2)) fun i hi => ?_)))).trans (mRet_ok ?_)
  · have hi' : i < 6 := by have := List.mem_range.mp hi; omega
    refine mod_lit (int_of ((m2_ok (a := D.int mask) (b := D.int (pws.getD i 1)) rfl ((m2_ok (a := D.lst (pws.map D.int)) (b := D.int (i : Nat)) rfl rfl).trans (pws_at hi'))).trans (div_pws i))) (by decide)
  · refine (m1_ok (mComp_ok (rg _ _ _) (compL_filter (p := bit mask) (h := fun i => nm (S.getD i 0)) (fun i hi => ?_) (fun i hi _ => ?_)))).trans ?_
    · have e1 : ixD (.lst ((List.range S.length).map fun i => D.int (mask / pws.getD i 1 % 2))) (.int (i : Nat)) = .ok (.int (mask / pws.getD i 1 % 2)) := ix_lst (by
        rw [List.getElem?_map, List.getElem?_range (List.mem_range.mp hi)]
        rfl)
      refine (m1_ok (a := D.bl (bit mask i)) ((m2_ok ((m2_ok (a := D.lst ((List.range S.length).map fun i => D.int (mask / pws.getD i 1 % 2))) (b := D.int (i : Nat)) rfl rfl).trans e1) (b := D.int 1) rfl).trans ?_)).trans rfl
      show (if sim (.int (mask / pws.getD i 1 % 2)) = true ∧ sim (.int 1) = true then R.ok (D.bl (mask / pws.getD i 1 % 2 == 1)) else R.stuck) = _
      rw [if_pos ⟨rfl, rfl⟩]
      rfl
    · refine (m2_ok (a := D.lst (S.map nm)) (b := D.int (i : Nat)) rfl rfl).trans (ix_lst ?_)
      have hl := List.mem_range.mp hi
      rw [List.getElem?_map, List.getElem?_eq_getElem hl, List.getD_eq_getElem?_getD, List.getElem?_eq_getElem hl]
      rfl
    · show R.ok (D.tup _) = _
      unfold tupN lotM
      rw [List.map_map]
      rfl
end HL

/-! Plain law: the columns that are made. -/
namespace HL
open PySem L2
def tails : List (List Nat) := [[], [122], [122, 122], [], [109], [], [122, 122], [97]]
def colN (a s t k : Nat) : List Nat := List.replicate a 107 ++ [97 + s + 3 * k] ++ tails.getD ((k + t) % 8) []
def colsN (a s t : Nat) : List Str := (List.range 8).map fun k => tx (colN a s t k)
def colsB (a s t : Nat) : Bool := decide ((colsN a s t).Pairwise fun x y => leS x y = true) && (colsN a s t).all isCol && decide (colsN a s t).Nodup
theorem cols_all : ((List.range 4).all fun a => (List.range 3).all fun s => (List.range 8).all fun t => colsB a s t) = true := by decide +kernel
def lowers : List Nat := (List.range 26).map (97 + ·)
theorem abc_low : (Str.ofString "abcdefghijklmnopqrstuvwxyz") = tx lowers := by decide +kernel
theorem kkk : (Str.ofString "kkk") = tx (List.replicate 3 107) := by decide +kernel
def tailsM : HEnv → R D := mLstE (mCons (mC (.str "")) (mCons (mC (.str "z")) (mCons (mC (.str "zz")) (mCons (mC (.str "")) (mCons (mC (.str "m")) (mCons (mC (.str "")) (mCons (mC (.str "zz")) (mCons (mC (.str "a")) mNil))))))))
theorem tailsM_eq : [Str.ofString "", Str.ofString "z", Str.ofString "zz", Str.ofString "", Str.ofString "m", Str.ofString "", Str.ofString "zz", Str.ofString "a"] = tails.map tx := by decide +kernel
theorem tailsM_ok (env : HEnv) : tailsM env = .ok (.lst (tails.map fun t => D.str (tx t))) := by
  show R.ok (D.lst ([Str.ofString "", Str.ofString "z", Str.ofString "zz", Str.ofString "", Str.ofString "m", Str.ofString "", Str.ofString "zz", Str.ofString "a"].map D.str)) = _
  rw [tailsM_eq, List.map_map]
  rfl
def b_make  : HEnv → SO :=
  (mSeq (mSet 2 (mC (.str "abcdefghijklmnopqrstuvwxyz")))
  (mSeq (mSet 3 tailsM)
  (mSeq (mSet 4 (mSl slD (mC (.str "kkk")) mNoPart (mPart (m2 modD (m1 intD (mOwn 0)) (mC (.int 4))))))
  (mSeq (mSet 5 (m2 modD (m1 intD (m2 divD (mOwn 0) (mC (.int 12)))) (mC (.int 3))))
  (mSeq (mSetN 6 (mLstE mNil))
  (mSeq (mFor (m1 range1D (mCons (mVar 1) mNil)) (gN 7)
  (mSeq (mSet 8 (m2 ixD (mOwn 2) (m2 addD (mOwn 5) (m2 mulD (mC (.int 3)) (mOwn 7)))))
  (mOwn1 6 (tyL "list") appD (m2 addD (m2 addD (mOwn 4) (mOwn 8)) (m2 ixD (mOwn 3) (m2 modD (m1 intD (m2 addD (mOwn 7) (m2 divD (mOwn 0) (mC (.int 36))))) (mC (.int 8))))))))
  (mRetOwn 6)))))))
theorem tails_len : ∀ k, k < 8 → (tails.getD k []).length ≤ 2 := by decide
theorem make_ok (d : Nat) (wide : Nat) (hw : wide ≤ 8) : fnS 9 b_make [.int (d : Nat), .int (wide : Nat)] = .ok (true, .lst ((List.range wide).map fun k => D.str (tx (colN (d % 4) (d / 12 % 3) (d / 36) k)))) := by
  have c2 : ∀ env : HEnv, mC (.str "abcdefghijklmnopqrstuvwxyz") env = .ok (.str (tx lowers)) := fun env => congrArg (fun s => R.ok (D.str s)) abc_low
  have e4 : ∀ a b c : Slot, ∀ r : HEnv, mSl slD (mC (.str "kkk")) mNoPart (mPart (m2 modD (m1 intD (mOwn 0)) (mC (.int 4)))) (.val (.int (d : Nat)) :: a :: b :: c :: r) = .ok (.str (tx (List.replicate (d % 4) 107))) := fun a b c r => by
    refine sl_to (d := .str (tx (List.replicate 3 107))) (congrArg (fun s => R.ok (D.str s)) kkk) (mod_lit (int_of (a := (d : Int)) rfl) (by decide)) ?_
    rw [show ((d : Int) % 4) = ((d % 4 : Nat) : Int) from by omega, cut_to (by decide), List.take_replicate]
    congr 4
    omega
  refine fnS_rt ((mSeq_nx (mSet_ok (c2 _))).trans ((mSeq_nx (mSet_ok (tailsM_ok _))).trans ((mSeq_nx (mSet_ok (e4 _ _ _ _))).trans ?_)))
  have e5 : ∀ r : HEnv, m2 modD (m1 intD (m2 divD (mOwn 0) (mC (.int 12)))) (mC (.int 3)) (.val (.int (d : Nat)) :: r) = .ok (.int (d / 12 % 3 : Nat)) := fun r => by
    rw [mod_lit (int_of (div_lit (a := (d : Int)) rfl (by decide) (by decide))) (by decide)]
    congr 2
  refine (mSeq_nx (mSet_ok (e5 _))).trans ((mSeq_nx (mSetN_ok (d := .lst []) rfl)).trans ?_)
  obtain ⟨e, h1, h2⟩ := forL_ind (g := gN 7) (b := mSeq (mSet 8 (m2 ixD (mOwn 2) (m2 addD (mOwn 5) (m2 mulD (mC (.int 3)) (mOwn 7))))) (mOwn1 6 (tyL "list") appD (m2 addD (m2 addD (mOwn 4) (mOwn 8)) (m2 ixD (mOwn 3) (m2 modD (m1 intD (m2 addD (mOwn 7) (m2 divD (mOwn 0) (mC (.int 36))))) (mC (.int 8)))))))
    (fun j env => ∃ a b : Slot, env = [.val (.int (d : Nat)), .val (.int (wide : Nat)), .val (.str (tx lowers)), .val (.lst (tails.map fun t => D.str (tx t))), .val (.str (tx (List.replicate (d % 4) 107))), .val (.int (d / 12 % 3 : Nat)), .own (.lst ((List.range j).map fun k => D.str (tx (colN (d % 4) (d / 12 % 3) (d / 36) k)))), a, b])
    (ds := (List.range wide).map fun i => D.int (i : Nat)) (j := 0)
    (env := [.val (.int (d : Nat)), .val (.int (wide : Nat)), .val (.str (tx lowers)), .val (.lst (tails.map fun t => D.str (tx t))), .val (.str (tx (List.replicate (d % 4) 107))), .val (.int (d / 12 % 3 : Nat)), .own (.lst []), .no, .no]) ⟨_, _, rfl⟩ (fun i x env hx ⟨a, b, e⟩ => by
      subst e
      rw [List.getElem?_map] at hx
      cases hr : (List.range wide)[i]? with
      | none => rw [hr] at hx; cases hx
      | some i' =>
        rw [hr] at hx
        cases hx
        obtain ⟨hi, hi2⟩ := List.getElem?_eq_some_iff.mp hr
        rw [List.getElem_range] at hi2
        subst hi2
        rw [List.length_range] at hi
        rw [Nat.zero_add]
        refine ⟨_, _, rfl, .inl ((mSeq_nx (mSet_ok (d := .str (tx [97 + d / 12 % 3 + 3 * i])) ?_)).trans (append_ok (d := D.str (tx (colN (d % 4) (d / 12 % 3) (d / 36) i))) rfl ?_ (by rw [List.length_map, List.length_range]; exact small_line (by omega)))), .val (.int (i : Nat)), .val (.str (tx [97 + d / 12 % 3 + 3 * i])), ?_⟩
        · refine (m2_ok (a := D.str (tx lowers)) (b := D.int ((d / 12 % 3 + 3 * i : Nat) : Int)) rfl ((m2_ok (a := D.int (d / 12 % 3 : Nat)) (b := D.int (3 * (i : Nat))) rfl ((m2_ok (a := D.int 3) (b := D.int (i : Nat)) rfl rfl).trans rfl)).trans ?_)).trans (ix_tx (by decide) ?_)
          · show R.ok (D.int (((d / 12 % 3 : Nat) : Int) + 3 * (i : Nat))) = _
            congr 2
          · have : d / 12 % 3 + 3 * i < 26 := by omega
            unfold lowers
            rw [List.getElem?_map, List.getElem?_range this]
            simp only [Option.map_some, Nat.add_assoc]
        · refine (m2_ok ((m2_ok (a := D.str (tx (List.replicate (d % 4) 107))) (b := D.str (tx [97 + d / 12 % 3 + 3 * i])) rfl rfl).trans (add_tx (by simp only [List.length_replicate, List.length_singleton]; omega))) ((m2_ok (a := D.lst (tails.map fun t => D.str (tx t))) (b := D.int (((i + d / 36) % 8 : Nat) : Int)) rfl ?_).trans (ix_lst (d := D.str (tx (tails.getD ((i + d / 36) % 8) []))) ?_))).trans (add_tx ?_)
          · rw [mod_lit (int_of (a := (i : Int) + (d : Int) / 36) ((m2_ok (a := D.int (i : Nat)) rfl (div_lit (a := (d : Int)) rfl (by decide) (by decide))).trans rfl)) (by decide)]
            congr 2
          · have h8 : (i + d / 36) % 8 < tails.length := Nat.mod_lt _ (by decide)
            rw [List.getElem?_map, List.getElem?_eq_getElem h8, List.getD_eq_getElem?_getD, List.getElem?_eq_getElem h8]
            rfl
          · have := tails_len ((i + d / 36) % 8) (Nat.mod_lt _ (by decide))
            simp only [List.length_append, List.length_replicate, List.length_singleton]
            omega
        · simp only [List.set_cons_succ, List.set_cons_zero, List.range_succ, List.map_append, List.map_cons, List.map_nil])
  obtain ⟨a, b, rfl⟩ := h2
  refine (mSeq_nx ((mFor_ok (range_of (n := wide) rfl (by omega))).trans h1)).trans ?_
  rw [List.length_map, List.length_range, Nat.zero_add]
  rfl
end HL

/-! Plain law: present. -/
namespace HL
open PySem L2
theorem keysL_dicN {v : Nat → D} {ls : List Nat} (h : ls.length ≤ 1000000) : keysL (.dic false (dicN v ls)) = .ok (ls.map nm) := by
  show (if (dicN v ls).length ≤ sizeLine then R.ok ((dicN v ls).map (·.1)) else R.stuck) = _
  have e : (dicN v ls).length = ls.length := by simp [dicN]
  rw [if_pos (by rw [e]; exact le_line h)]
  simp [dicN]
theorem mLock_ok {i : Nat} {m : HEnv → R D} {env : HEnv} {ks : List (D × D)} {d : D} (h : env[i]?.bind slotD = some (.dic false ks)) (k : m (env.map borS) = .ok d) : mLock i m env = .ok d := by
  unfold mLock
  rw [h]
  simp only [k, R.nr_ok]
end HL

/-! Plain law: present. -/
namespace HL
open PySem L2
theorem comp2L_dep {α β : Type} {i : Nat} {vs1 : List Nat} {i1 : Nat} {src1 : HEnv → R (List D)} {el : HEnv → R D} {env : HEnv} {f : α → D} {fi h : β → D} {ys : α → List β} : ∀ {xs : List α}, (∀ x ∈ xs, src1 (env.set i (.val (f x))) = .ok ((ys x).map fi)) →
    (∀ x ∈ xs, ∀ y ∈ ys x, el ((wipeE (env.set i (.val (f x))) vs1).set i1 (.val (fi y))) = .ok (h y)) →
    comp2L (gN i) mYes src1 vs1 (gN i1) mYes el env (xs.map f) = .ok ((xs.flatMap ys).map h)
  | [], _, _ => rfl
  | x :: xs, hs, he => by
    have e0 := hs x List.mem_cons_self
    have e1 := compL_map (i := i1) (el := el) (env := wipeE (env.set i (.val (f x))) vs1) (f := fi) (h := h) (xs := ys x) (he x List.mem_cons_self)
    have e2 := comp2L_dep (i := i) (vs1 := vs1) (i1 := i1) (src1 := src1) (el := el) (env := env) (f := f) (fi := fi) (h := h) (ys := ys) (xs := xs) (fun y hy => hs y (List.mem_cons_of_mem _ hy)) fun y hy => he y (List.mem_cons_of_mem _ hy)
    simp only [List.map_cons, comp2L, gN, mYes, e0, e1, e2, List.flatMap_cons, List.map_append]
def b_present (f_heads_of : List Ag → R (Bool × D)) (f_in_order : List D → R (Bool × D)) : HEnv → SO :=
  (mSeq (mSet 1 (aCall f_heads_of (gConsB 0 gNil)))
  (mSeq (mSet 2 (mLock 1 (mComp2 [3, 4] (m1 keysL (mOwn 1)) (gN 3) mYes (m1 itemsD (m2 ixD (mOwn 1) (mOwn 3))) [4] (gN 4) mYes (mVar 4))))
  (mRetX (mCallX f_in_order (mCons (mComp [4] (m1 itemsD (mOwn 2)) (gN 4) mYes (m1 tupleD (mLock 1 (mComp [5] (m1 keysL (mOwn 1)) (gN 5) (m1 truB (m2 (inN false) (mOwn 4) (m2 ixD (mOwn 1) (mOwn 5)))) (mVar 5))))) mNil)))))
/-- the rows that present puts in order -/
def lotsH (S : List Nat) (hs : Nat → List Str) : List (List Nat) := (S.flatMap hs).map fun col => S.filter fun c => decide (col ∈ hs c)
theorem present_ok {fh : List Ag → R (Bool × D)} {fo : List D → R (Bool × D)} {a : Ag} {dd : D} (ha : a = .b dd) {S : List Nat} {hs : Nat → List Str} (hS : S.length ≤ 26) (hh : ∀ c, (hs c).length ≤ 24) (hf : fh [.b dd] = .ok (true, .dic false (dicN (fun c => .tup ((hs c).map D.str)) S))) :
    fnSA 6 (b_present fh fo) [a] = fo [.lst ((lotsH S hs).map tupN)] := by
  subst ha
  have hlen : (S.flatMap hs).length ≤ 1000 := Nat.le_trans (flat_len (k := 24) fun x _ => hh x) (by omega)
  have e1 : ∀ r : HEnv, aCall fh (gConsB 0 gNil) (.bor dd :: r) = .ok (.dic false (dicN (fun c => .tup ((hs c).map D.str)) S)) := fun r => by
    show ((R.ok [Ag.b dd] : R (List Ag)).bind fun ds => (fh ds).bind fun r => .ok r.2) = _
    rw [R.bind_ok, hf]
    rfl
  have e2 : mLock 1 (mComp2 [3, 4] (m1 keysL (mOwn 1)) (gN 3) mYes (m1 itemsD (m2 ixD (mOwn 1) (mOwn 3))) [4] (gN 4) mYes (mVar 4)) [.bor dd, .val (.dic false (dicN (fun c => .tup ((hs c).map D.str)) S)), .no, .no, .no, .no] = .ok (.lst ((S.flatMap hs).map D.str)) := by
    refine mLock_ok (ks := dicN (fun c => .tup ((hs c).map D.str)) S) rfl (mComp2_ok (ds := S.map nm) ((m1_ok (a := D.dic false (dicN (fun c => .tup ((hs c).map D.str)) S)) rfl).trans (keysL_dicN (by omega))) (comp2L_dep (fi := D.str) (h := D.str) (ys := hs) (fun c hc => ?_) (fun c hc y hy => rfl)) (by rw [List.length_map]; omega))
    exact (m1_ok ((m2_ok (a := D.dic false (dicN (fun c => .tup ((hs c).map D.str)) S)) (b := nm c) rfl rfl).trans (ix_dicN _ hc))).trans rfl
  have e3 : mComp [4] (m1 itemsD (mOwn 2)) (gN 4) mYes (m1 tupleD (mLock 1 (mComp [5] (m1 keysL (mOwn 1)) (gN 5) (m1 truB (m2 (inN false) (mOwn 4) (m2 ixD (mOwn 1) (mOwn 5)))) (mVar 5)))) [.bor dd, .val (.dic false (dicN (fun c => .tup ((hs c).map D.str)) S)), .val (.lst ((S.flatMap hs).map D.str)), .no, .no, .no] = .ok (.lst ((lotsH S hs).map tupN)) := by
    unfold lotsH
    rw [List.map_map]
    refine mComp_ok (ds := (S.flatMap hs).map D.str) rfl (compL_map (f := D.str) fun col hcol => ?_)
    refine (m1_ok (mLock_ok (ks := dicN (fun c => .tup ((hs c).map D.str)) S) rfl (mComp_ok (ds := S.map nm) ((m1_ok (a := D.dic false (dicN (fun c => .tup ((hs c).map D.str)) S)) rfl).trans (keysL_dicN (by omega))) (compL_filter (p := fun c => decide (col ∈ hs c)) (h := nm) (fun c hc => ?_) (fun c hc _ => rfl))))).trans rfl
    refine (m1_ok (a := D.bl (decide (col ∈ hs c))) ((m2_ok (a := D.str col) (b := D.tup ((hs c).map D.str)) rfl ((m2_ok (a := D.dic false (dicN (fun c => .tup ((hs c).map D.str)) S)) (b := nm c) rfl rfl).trans (ix_dicN _ hc))).trans (in_given true col (hs c)))).trans rfl
  have body : b_present fh fo [.bor dd, .no, .no, .no, .no, .no] = (match fo [.lst ((lotsH S hs).map tupN)] with
      | .ok r => .rt r.1 r.2
      | .er x => .er x [.bor dd, .val (.dic false (dicN (fun c => .tup ((hs c).map D.str)) S)), .val (.lst ((S.flatMap hs).map D.str)), .no, .no, .no]
      | .stuck => .stuck) := by
    refine (mSeq_nx (mSet_ok (e1 _))).trans ((mSeq_nx (mSet_ok e2)).trans ?_)
    show sB (mCallX fo _) _ _ = _
    unfold sB
    simp only [List.set_cons_succ, List.set_cons_zero]
    rw [mCallX_ok (mCons_ok e3 rfl) rfl]
    cases fo [.lst ((lotsH S hs).map tupN)] <;> rfl
  unfold fnSA
  rw [show ([Ag.b dd].map Ag.slot ++ List.replicate (6 - [Ag.b dd].length) Slot.no) = [.bor dd, .no, .no, .no, .no, .no] from rfl, body]
  cases fo [.lst ((lotsH S hs).map tupN)] with
  | ok r => rfl
  | er x => rfl
  | stuck => rfl
end HL

/-! Plain law: _law_again. -/
namespace HL
open PySem L2
def b_again (f_heads_of : List Ag → R (Bool × D)) : HEnv → SO :=
  (mSeq (mSetX 2 (aCallX f_heads_of (gConsB 0 gNil)))
  (mSeq (mIfS (mOrT (mNotT (m1 truD (m1 (isiDK "dict") (mOwn 2)))) (m1 truB (m2 neD (m1 listDK (mOwn 2)) (mOwn 1))))
  (mRet (mC (.bl false)))
  mNext)
  (mSeq (mIfS (m1 truB (m2 neDK (mOwn 2) (mOwn 0)))
  (mRet (mC (.bl false)))
  mNext)
  (mSeq (mOwn0 2 clearDD)
  (mRet (m2 eqD (m1 listDK (mOwn 0)) (mOwn 1)))))))
theorem listDK_dicN {v : Nat → D} {ls : List Nat} (h : ls.length ≤ 1000000) : listDK (.dic false (dicN v ls)) = .ok (.lst (ls.map nm)) := by
  show (if (dicN v ls).length ≤ sizeLine then R.ok (D.lst ((dicN v ls).map (·.1))) else R.stuck) = _
  have e : (dicN v ls).length = ls.length := by simp [dicN]
  rw [if_pos (by rw [e]; exact le_line h)]
  simp [dicN]
theorem isi_dic {v : Nat → D} {ls : List Nat} : isiDK "dict" (.dic false (dicN v ls)) = .ok (.bl true) := by
  show (match kitB "dict" "dict" with
    | some b => R.ok (D.bl b)
    | none => .stuck) = _
  rw [show kitB "dict" "dict" = some true from by decide +kernel]
theorem simK_dicN {v : Nat → D} {ls : List Nat} (hs : ∀ c ∈ ls, simp? 50 (v c) = true) : simK (dicN v ls) = true := by
  unfold simK
  rw [List.all_eq_true]
  intro kv hk
  obtain ⟨c, hc, rfl⟩ := List.mem_map.mp hk
  exact hs c hc
theorem neDK_self {v : Nat → D} {ls : List Nat} (hs : ∀ c ∈ ls, simp? 50 (v c) = true) : neDK (.dic false (dicN v ls)) (.dic false (dicN v ls)) = .ok (.bl false) := by
  show (if simK (dicN v ls) = true ∧ simK (dicN v ls) = true then R.ok (D.bl (!deqK (dicN v ls) (dicN v ls))) else R.stuck) = _
  rw [if_pos ⟨simK_dicN hs, simK_dicN hs⟩, deqK_self fun c hc => deq_refl _ (hs c hc)]
  rfl
theorem orT_ff {t u : HEnv → R Bool} {env : HEnv} (h : t env = .ok false) (k : u env = .ok false) : mOrT t u env = .ok false := by
  unfold mOrT
  rw [h, R.bind_ok, if_neg (by decide), k]
theorem sim_nms (S : List Nat) : sim (.lst (S.map nm)) = true := sim_lst (simpL_nm S)
theorem again_ok {fh : List Ag → R (Bool × D)} {w : Nat → D} {S : List Nat} (hS : S.length ≤ 26) (hs : ∀ c ∈ S, simp? 50 (w c) = true) (hf : fh [.b (.dic false (dicN w S))] = .ok (true, .dic false (dicN w S))) :
    fnSA 3 (b_again fh) [.b (.dic false (dicN w S)), .v (.lst (S.map nm))] = .ok (false, .bl true) := by
  have e1 : aCallX fh (gConsB 0 gNil) [.bor (.dic false (dicN w S)), .val (.lst (S.map nm)), .no] = .ok (true, .dic false (dicN w S)) := by
    show ((R.ok [Ag.b (.dic false (dicN w S))] : R (List Ag)).bind fh) = _
    rw [R.bind_ok, hf]
  have body : b_again fh [.bor (.dic false (dicN w S)), .val (.lst (S.map nm)), .no] = .rt false (.bl true) := by
    refine (mSeq_nx ((sB_ok e1).trans rfl)).trans ?_
    have g2 : m1 listDK (mOwn 2) [.bor (.dic false (dicN w S)), .val (.lst (S.map nm)), .own (.dic false (dicN w S))] = .ok (.lst (S.map nm)) := (m1_ok (a := D.dic false (dicN w S)) rfl).trans (listDK_dicN (by omega))
    have t1 : mNotT (m1 truD (m1 (isiDK "dict") (mOwn 2))) [.bor (.dic false (dicN w S)), .val (.lst (S.map nm)), .own (.dic false (dicN w S))] = .ok false :=
      (m1_ok (a := true) ((m1_ok (a := D.bl true) ((m1_ok (a := D.dic false (dicN w S)) rfl).trans isi_dic)).trans rfl)).trans rfl
    have t2 : m1 truB (m2 neD (m1 listDK (mOwn 2)) (mOwn 1)) [.bor (.dic false (dicN w S)), .val (.lst (S.map nm)), .own (.dic false (dicN w S))] = .ok false :=
      (m1_ok (a := D.bl false) ((m2_ok g2 (b := D.lst (S.map nm)) rfl).trans (neD_self (sim_nms S)))).trans rfl
    have t3 : m1 truB (m2 neDK (mOwn 2) (mOwn 0)) [.bor (.dic false (dicN w S)), .val (.lst (S.map nm)), .own (.dic false (dicN w S))] = .ok false :=
      (m1_ok (a := D.bl false) ((m2_ok (a := D.dic false (dicN w S)) (b := D.dic false (dicN w S)) rfl rfl).trans (neDK_self hs))).trans rfl
    have t4 : m2 eqD (m1 listDK (mOwn 0)) (mOwn 1) [.bor (.dic false (dicN w S)), .val (.lst (S.map nm)), .own (.dic false [])] = .ok (.bl true) :=
      (m2_ok ((m1_ok (a := D.dic false (dicN w S)) rfl).trans (listDK_dicN (by omega))) (b := D.lst (S.map nm)) rfl).trans (eqD_self (sim_nms S))
    refine (mSeq_nx ((mIf_ff (orT_ff t1 t2)).trans rfl)).trans ((mSeq_nx ((mIf_ff t3).trans rfl)).trans ((mSeq_nx rfl).trans (mRet_ok t4)))
  unfold fnSA
  rw [show ([Ag.b (.dic false (dicN w S)), Ag.v (.lst (S.map nm))].map Ag.slot ++ List.replicate (3 - [Ag.b (.dic false (dicN w S)), Ag.v (.lst (S.map nm))].length) Slot.no) = [.bor (.dic false (dicN w S)), .val (.lst (S.map nm)), .no] from rfl, body]
end HL

/-! Plain law: heads out of masks. -/
namespace HL
open PySem L2
theorem range_getD (S : List Nat) : (List.range S.length).map (fun i => S.getD i 0) = S := by
  apply List.ext_getElem
  · simp
  · intro i h1 h2
    simp [List.getD_eq_getElem?_getD, List.getElem?_eq_getElem h2]
theorem filter_idx {S : List Nat} (hn : S.Nodup) (p : Nat → Bool) : S.filter (fun c => p (S.idxOf c)) = ((List.range S.length).filter p).map fun i => S.getD i 0 := by
  have h : ((List.range S.length).map (fun i => S.getD i 0)).filter (fun c => p (S.idxOf c)) = ((List.range S.length).filter p).map fun i => S.getD i 0 := by
    rw [List.filter_map]
    congr 1
    refine List.filter_congr fun i hi => ?_
    have hl := List.mem_range.mp hi
    simp only [Function.comp]
    have : S.getD i 0 = S[i] := by simp [List.getD_eq_getElem?_getD, List.getElem?_eq_getElem hl]
    rw [this, List.Nodup.idxOf_getElem hn]
  rw [range_getD] at h
  exact h
/-- the head of a name: the columns whose mask has the bit of its place -/
def hdC (S : List Nat) (ms : List (Str × Int)) (c : Nat) : List Str := (ms.filter fun m => bit m.2 (S.idxOf c)).map (·.1)
theorem hdC_sub (S : List Nat) (ms : List (Str × Int)) (c : Nat) : (hdC S ms c).Sublist (ms.map (·.1)) := (List.filter_sublist (l := ms)).map _
theorem fst_inj : ∀ {ms : List (Str × Int)} {m m' : Str × Int}, (ms.map (·.1)).Nodup → m' ∈ ms → m ∈ ms → m'.1 = m.1 → m' = m
  | [], _, _, _, h, _, _ => by simp at h
  | x :: r, m, m', hn, h0, k0, e => by
    simp only [List.map_cons, List.nodup_cons] at hn
    rcases List.mem_cons.mp h0 with rfl | h
    · rcases List.mem_cons.mp k0 with rfl | k
      · rfl
      · exact absurd (e ▸ List.mem_map.mpr ⟨m, k, rfl⟩) hn.1
    · rcases List.mem_cons.mp k0 with rfl | k
      · exact absurd (e ▸ List.mem_map_of_mem (f := (·.1)) ‹_ ∈ r›) hn.1
      · exact fst_inj hn.2 h k e
theorem mem_hdC {S : List Nat} {ms : List (Str × Int)} (hn : (ms.map (·.1)).Nodup) {m : Str × Int} (hm : m ∈ ms) (c : Nat) : m.1 ∈ hdC S ms c ↔ bit m.2 (S.idxOf c) = true := by
  unfold hdC
  rw [List.mem_map]
  constructor
  · rintro ⟨m', h1, h2⟩
    obtain ⟨h3, h4⟩ := List.mem_filter.mp h1
    have : m' = m := by
      exact fst_inj hn h3 hm h2
    exact this ▸ h4
  · exact fun h => ⟨m, List.mem_filter.mpr ⟨hm, h⟩, rfl⟩
/-- the lots of the columns are the lots of the masks that have a name -/
theorem mem_lotsH {S : List Nat} {ms : List (Str × Int)} (hS : S.Nodup) (hn : (ms.map (·.1)).Nodup) (r : List Nat) : r ∈ lotsH S (hdC S ms) ↔ r ≠ [] ∧ ∃ m ∈ ms, r = lotM S m.2 := by
  have row : ∀ m ∈ ms, (S.filter fun c => decide (m.1 ∈ hdC S ms c)) = lotM S m.2 := fun m hm => by
    unfold lotM
    rw [← filter_idx hS]
    refine List.filter_congr fun c _ => ?_
    cases hb : bit m.2 (S.idxOf c) with
    | true => exact decide_eq_true ((mem_hdC hn hm c).mpr hb)
    | false => exact decide_eq_false fun h => by rw [(mem_hdC hn hm c).mp h] at hb; cases hb
  unfold lotsH
  rw [List.mem_map]
  constructor
  · rintro ⟨col, h1, rfl⟩
    obtain ⟨c, hc, hcol⟩ := List.mem_flatMap.mp h1
    obtain ⟨m, hm, rfl⟩ := List.mem_map.mp hcol
    have hm' := (List.mem_filter.mp hm).1
    refine ⟨fun e => ?_, m, hm', row m hm'⟩
    have : c ∈ S.filter fun c => decide (m.1 ∈ hdC S ms c) := List.mem_filter.mpr ⟨hc, decide_eq_true hcol⟩
    rw [e] at this
    simp at this
  · rintro ⟨h1, m, hm, rfl⟩
    refine ⟨m.1, ?_, row m hm⟩
    obtain ⟨c, hc⟩ := List.exists_mem_of_ne_nil _ h1
    rw [← row m hm] at hc
    obtain ⟨h2, h3⟩ := List.mem_filter.mp hc
    exact List.mem_flatMap.mpr ⟨c, h2, of_decide_eq_true h3⟩
end HL

/-! Methods of a text with one argument. -/
namespace HL
open PySem PySem.Spec PyProof.Rows L2
section
variable {cl : Cl}
/-- x.m(e), x a text -/
def mStr1 (f : Str → D → R D) (mo m : HEnv → R D) : HEnv → R D := fun env => (mo env).bind fun c => match c with
  | .str y => (m env).bind fun d => f y d
  | _ => .stuck
def Str1 (cl : Cl) (rel : Rel D V) (f : Str → D → R D) (r : V → List V → Hp → VK → Prop) : Prop := ∀ (W : WX) (F H : Hp) (y : Str) (d : D) (v : V) (Q : VK) (σ : L2.St), Sub F H → BRep cl F H d v → PostG cl rel W (f y d) F σ H Q → r (.str y) [v] H Q
section
variable {X : Cx} {W : WX} {o e : Expr} {pos apos cpos : Pos} {m mo : HEnv → R D}
theorem str1_read {rel : Rel D V} (ho : Old rel) {f : Str → D → R D} {r : V → List V → Hp → VK → Prop} (hf : Str1 cl rel f r) {σ : L2.St} {H : Hp} {Q : VK} (q : tG cl rel W (mStr1 f mo m) σ H Q) :
    tB cl W mo σ H (fun x H1 => tyV X.K "str" x H1 ∧ tB cl W m σ H1 (fun y H2 => r x [y] H2 Q)) := by
  refine bindG (k := fun c env => match c with
    | .str y => (m env).bind fun d => f y d
    | _ => .stuck) (rel := relB cl) ho q fun c x F0 H0 F1 env Hs H1 s r1 p => ?_
  cases c with
  | str y =>
    obtain rfl := BRep.str r1
    refine ⟨rfl, F0, H0, F1, env, s, ?_⟩
    simp only at p
    cases em : m env with
    | er x => rw [em] at p; exact p
    | stuck => rw [em] at p; exact p.elim
    | ok d =>
      rw [em] at p
      intro y' F2 H2 k2 s2 r2
      exact hf W F2 H2 y d y' Q σ s2 r2 (PostG.step ho p k2)
  | _ => exact p.elim
theorem d_str1 {id : String} {name : Str} {r : V → List V → Hp → VK → Prop} {f : Str → D → R D} (slot : PySem.Slot "str" name id) (hty : typeOf (.builtin id) = pure (.type "method_descriptor")) (hm : MtR X id r) (hf : Str1 cl (relF cl) f r)
    (ho : PE X o (tB cl W mo)) (he : PE X e (tB cl W m)) (h1 : attributeBase o name X.env (eval o X.env) = eval o X.env := by rfl)
    (h2 : (((backTo cpos (starEach (e :: []) X.env)).all (!·.1)) && (backToKw cpos (keywordEach [] X.env)).all (·.1.isSome) && decide ((e :: ([] : List Expr)).length + ([] : List Keyword).length + (if ([] : List Keyword).isEmpty = true then 0 else 1) < 30)) = true := by rfl)
    (h3 : (apos.endLine == cpos.line) = true := by rfl) (h4 : starEach (e :: []) X.env = (false, eval e X.env) :: starEach [] X.env := by rfl) (h5 : (backTo cpos (starEach [] X.env)).any (·.1) = false := by rfl) :
    PE X (.Call (.Attribute o name apos) [e] [] cpos) (tF cl W (mStr1 f mo m)) :=
  pe_weak (pe_bm PySem.F.plainAttrs_str slot hty hm ho (pa_cons he pa_nil h4) h1 h2 h3 h4 h5) fun σ H Q q => str1_read oldF hf q
theorem dn_str1 {id : String} {name : Str} {r : V → List V → Hp → VK → Prop} {f : Str → D → R D} (slot : PySem.Slot "str" name id) (hty : typeOf (.builtin id) = pure (.type "method_descriptor")) (hm : MtR X id r) (hf : Str1 cl (relN cl) f r)
    (ho : PE X o (tB cl W mo)) (he : PE X e (tB cl W m)) (h1 : attributeBase o name X.env (eval o X.env) = eval o X.env := by rfl)
    (h2 : (((backTo cpos (starEach (e :: []) X.env)).all (!·.1)) && (backToKw cpos (keywordEach [] X.env)).all (·.1.isSome) && decide ((e :: ([] : List Expr)).length + ([] : List Keyword).length + (if ([] : List Keyword).isEmpty = true then 0 else 1) < 30)) = true := by rfl)
    (h3 : (apos.endLine == cpos.line) = true := by rfl) (h4 : starEach (e :: []) X.env = (false, eval e X.env) :: starEach [] X.env := by rfl) (h5 : (backTo cpos (starEach [] X.env)).any (·.1) = false := by rfl) :
    PE X (.Call (.Attribute o name apos) [e] [] cpos) (tN cl W (mStr1 f mo m)) :=
  pe_weak (pe_bm PySem.F.plainAttrs_str slot hty hm ho (pa_cons he pa_nil h4) h1 h2 h3 h4 h5) fun σ H Q q => str1_read oldN hf q
end
/-! ### join -/
def partsD : D → Option (List D)
  | .lst ds => some ds
  | .tup ds => some ds
  | _ => none
def joinS (a : Str) (d : D) : R D := match (partsD d).bind strsD with
  | some ys => if (ys.map (·.length)).sum + ys.length * a.length ≤ 16777216 then .ok (.str (Txt.join a ys)) else .stuck
  | none => .stuck
theorem parts_rep {F H : Hp} {d : D} {ds : List D} {v : V} (K : PySem.W.Frag) (s : Sub F H) (r : BRep cl F H d v) (h : partsD d = some ds) : ∃ p vs, v = .ref p ∧ (SqL K H p vs ∨ SqT K H p vs) ∧ RepL cl F ds vs ∧ ds.length ≤ sizeLine := by
  cases d with
  | lst xs =>
    cases h
    obtain ⟨a, vs, rfl, rd, rl, z⟩ := r.lst' s
    exact ⟨a, vs, rfl, .inl (.inl rd), rl, z⟩
  | tup xs =>
    cases h
    obtain ⟨a, vs, rfl, rd, rl, z⟩ := r.tup' s
    exact ⟨a, vs, rfl, .inr (.inl rd), rl, z⟩
  | _ => cases h
theorem join_s {K : PySem.W.Frag} : Str1 cl (relF cl) joinS (fun x xs H Q => ∃ a p, ∃ ys : List Str, x = .str a ∧ xs = [.ref p] ∧ (SqL K H p (ys.map V.str) ∨ SqT K H p (ys.map V.str)) ∧
    (ys.map (·.length)).sum + ys.length * a.length ≤ 16777216 ∧ Q (.str (Txt.join a ys)) H) := by
  intro W F H y d v Q σ s r p
  unfold joinS at p
  split at p
  case h_2 => exact p.elim
  rename_i ys hy
  split at p
  case isFalse => exact p.elim
  rename_i hz
  cases hd : partsD d with
  | none => rw [hd] at hy; cases hy
  | some ds =>
    rw [hd] at hy
    obtain ⟨a, vs, rfl, sq, rl, z⟩ := parts_rep K s r hd
    rw [strs_rep (show strsD ds = some ys from hy) rl] at sq
    exact ⟨y, a, ys, rfl, rfl, sq, hz, PostG.done p s (by simp only [relF, Rep])⟩
end
end HL

/-! Sets of texts: set(xs), sorted(set(xs)), len(set(xs)). -/
namespace HL
open PySem PySem.Spec PyProof.Rows L2
def tkey (e : Int × Value) : Str := match e.2 with
  | .str x _ => x
  | _ => ⟨#[]⟩
/-- an entry of a set of texts -/
def TxtE (P : Program) (w : World) (e : Int × Value) : Prop := ∃ x t, e = ((PySem.strKind P w).hash x, Value.str x t)
/-- the set at a: just the texts xs -/
structure TSet (P : Program) (w : World) (h : Heap) (a : Addr) (xs : List Str) (o : Obj) (es : Array (Int × Value)) (ep : Nat) (t : SetTable) : Prop where
  get : h.get? a = some o
  ex : o.ExactSet
  dat : o.data = .set es ep t
  txt : ∀ e ∈ es.toList, TxtE P w e
  keys : (es.toList.map tkey).Perm xs
  nd : xs.Nodup
  room : es.size < scanBound
  fits : t.fits es.size = true
  ris : Ris t.place.toList
  led : w.params.followText "set-order" = true ∨ t.led = true
def HasT (P : Program) (w : World) (h : Heap) (a : Addr) (xs : List Str) : Prop := ∃ o es ep t, TSet P w h a xs o es ep t
section
variable {P : Program} {w : World} {h h' : Heap} {a : Addr} {xs : List Str} {A : Around} {E : Value → Shared → Prop} {s : Shared}
theorem HasT.carry (R : HasT P w h a xs) (k : ∀ o, h.get? a = some o → h'.get? a = some o) : HasT P w h' a xs := by
  obtain ⟨o, es, ep, t, r⟩ := R
  exact ⟨o, es, ep, t, { r with get := k o r.get }⟩
theorem TSet.size {o : Obj} {es : Array (Int × Value)} {ep : Nat} {t : SetTable} (R : TSet P w h a xs o es ep t) : es.size = xs.length := by
  have := R.keys.length_eq
  rw [List.length_map, Array.length_toList] at this
  exact this
theorem txt_is {e : Int × Value} (g : TxtE P w e) (x : Str) : (PySem.strKind P w).is x e.2 = true ↔ tkey e = x := by
  obtain ⟨y, t, rfl⟩ := g
  show Value.isStrOf x (.str y t) = true ↔ y = x
  simp only [Value.isStrOf, beq_iff_eq]
theorem txt_elems {l : List (Int × Value)} (g : ∀ e ∈ l, TxtE P w e) : ElemsOf (PySem.strKind P w) l := fun e he => by
  have hg := g e he
  obtain ⟨y, t, rfl⟩ := id hg
  exact ⟨⟨y, (txt_is hg y).mpr rfl, rfl⟩, rfl⟩
def addT (x : Str) (xs : List Str) : List Str := if x ∈ xs then xs else x :: xs
theorem txt_laid {g : Bool → Sem Unit} (hg : ∀ (b : Bool) (s₁ : Shared) (Q' : Unit → Shared → Prop), Q' () s₁ → wpAny (model P w) A (g b) Q' E s₁)
    {o : Obj} {es fs : Array (Int × Value)} {ep : Nat} {t u : SetTable} (ho : s.heap.get? a = some o) (hex : o.ExactSet) (hd : o.data = .set es ep t)
    (T : ∀ e ∈ fs.toList, TxtE P w e) (hk : (fs.toList.map tkey).Perm xs) (nd : xs.Nodup) (room : fs.size < scanBound) (hf : u.fits fs.size = true) (hr : Ris u.place.toList) (hl : w.params.followText "set-order" = true ∨ u.led = true)
    {dm : Bool} {R : Option Bool → Shared → Prop} (hR : ∀ h', Heap.SameBut a s.heap h' → HasT P w h' a xs → R (some true) { s with heap := h' }) :
    wpAny (model P w) A (do
        storeSet a fs u
        if (!dm && u.tooFull) = true then do
            g (relayAll u fs (SetTable.grown fs.size)).2.2
            storeSet a (relayAll u fs (SetTable.grown fs.size)).1 (relayAll u fs (SetTable.grown fs.size)).2.1
            pure (some true)
          else pure (some true)) R E s := by
  have fitsL : fs.size ≤ sizeLine := fits_of_scanBound room
  refine wpAny_bind (wpAny_storeSet_of ho hd ?_ fitsL)
  have at1 := store_at (es' := fs) (t' := u) ho hd
  have sb := Heap.SameBut.update s.heap a (Obj.putSet fs u)
  split
  case isFalse => exact wpAny_pure (hR _ sb ⟨_, fs, _, u, at1, hex, rfl, T, hk, nd, room, hf, hr, hl⟩)
  have p3 := relayAll_perm u fs (SetTable.grown fs.size)
  have f3 := relayAll_fits u fs (SetTable.grown fs.size)
  have r3 := relayAll_ris u fs (SetTable.grown fs.size)
  have l3 := relayAll_led u fs (SetTable.grown fs.size)
  generalize relayAll u fs (SetTable.grown fs.size) = Z at p3 f3 r3 l3 ⊢
  obtain ⟨gs, v, gave⟩ := Z
  dsimp only at p3 f3 r3 l3 ⊢
  have hz : gs.size = fs.size := by rw [← Array.length_toList, ← Array.length_toList, p3.length_eq]
  have room3 : gs.size < scanBound := hz ▸ room
  have fits3 : gs.size ≤ sizeLine := fits_of_scanBound room3
  refine wpAny_bind (hg _ _ _ (wpAny_bind (wpAny_storeSet_of at1 rfl (wpAny_pure (hR _ (sb.trans (Heap.SameBut.update _ a _)) ⟨_, gs, _, v, store_at (es' := gs) (t' := v) at1 rfl, hex, rfl, ?_, ?_, nd, room3, f3, r3, ?_⟩)) fits3)))
  · exact fun e he => T e (p3.mem_iff.mp he)
  · exact (p3.map tkey).trans hk
  · exact hl.imp id fun z => l3.trans z
theorem txt_add {x : Str} {tk : Tok} {Q : Bool → Shared → Prop} (R : HasT P w s.heap a xs) (hroom : xs.length + 1 < scanBound)
    (hQ : ∀ b h', Heap.SameBut a s.heap h' → HasT P w h' a (addT x xs) → Q b { s with heap := h' }) :
    wpAny (model P w) A (setAddHashed a (.str x tk) ((PySem.strKind P w).hash x)) Q E s := by
  obtain ⟨o, es, ep, t, r⟩ := R
  have isx : (PySem.strKind P w).is x (.str x tk) = true := strKind_is P w x tk
  have scn : (Value.str x tk).scannable = true := rfl
  have els := txt_elems r.txt
  unfold setAddHashed setAddHashedIn
  refine wpAny_holding (wpAny_bind (wpAny_setState_of r.get r.dat r.fits ?_))
  dsimp only
  rw [byScan_of scn r.room els]
  simp only [↓reduceIte]
  unfold setAddByScan
  refine wpAny_bind (wpAny_bind (wpAny_rule ?_))
  refine wpAny_bind (wpAny_setScan_of isx r.get r.dat r.fits els ?_)
  have memK : ∀ y, y ∈ xs ↔ ∃ e ∈ es.toList, tkey e = y := fun y => by
    rw [← r.keys.mem_iff, List.mem_map]
  cases hfi : es.toList.findIdx? (fun e => (PySem.strKind P w).is x e.2) with
  | some j =>
    dsimp only
    obtain ⟨hj, pj, _⟩ := List.findIdx?_eq_some_iff_getElem.mp hfi
    have hin : x ∈ xs := (memK x).mpr ⟨es.toList[j], List.getElem_mem hj, (txt_is (r.txt _ (List.getElem_mem hj)) x).mp pj⟩
    refine wpAny_pure (wpAny_pure (hQ _ s.heap (Heap.SameBut.refl a s.heap) ?_))
    rw [addT, if_pos hin]
    exact ⟨o, es, ep, t, r⟩
  | none =>
    dsimp only
    have hout : x ∉ xs := fun z => by
      obtain ⟨e, he, q⟩ := (memK x).mp z
      have c := List.findIdx?_eq_none_iff.mp hfi e he
      rw [(txt_is (r.txt e he) x).mpr q] at c
      cases c
    have away : ∀ (b : Bool) {s₁ : Shared} {Q' : Unit → Shared → Prop}, Q' () s₁ → wpAny (model P w) A (match b with | true => rule "set.scan.the-table-gave-way" | false => pure ()) Q' E s₁ := fun b s₁ Q' q => by
      cases b
      · exact wpAny_pure q
      · exact wpAny_rule q
    have p1 := layNew_perm t es ((PySem.strKind P w).hash x) (.str x tk)
    have f1 := layNew_fits t es ((PySem.strKind P w).hash x) (.str x tk)
    have r1 := layNew_ris t es ((PySem.strKind P w).hash x) (.str x tk) r.ris
    have l1 := layNew_led t es ((PySem.strKind P w).hash x) (.str x tk)
    generalize layNew t es ((PySem.strKind P w).hash x) (.str x tk) = Z at p1 f1 r1 l1 ⊢
    obtain ⟨fs, u, dm, gave⟩ := Z
    dsimp only at p1 f1 r1 l1 ⊢
    rw [Array.toList_push] at p1
    replace p1 := p1.trans (List.perm_append_singleton _ _)
    have T1 : ∀ e ∈ fs.toList, TxtE P w e := fun e he => by
      rcases List.mem_cons.mp (p1.mem_iff.mp he) with rfl | z
      · exact ⟨x, tk, rfl⟩
      · exact r.txt e z
    have k1 : (fs.toList.map tkey).Perm (x :: xs) := (p1.map tkey).trans (List.Perm.cons x r.keys)
    have n1 : (x :: xs).Nodup := List.nodup_cons.mpr ⟨hout, r.nd⟩
    have z1 : fs.size < scanBound := by
      have := k1.length_eq
      rw [List.length_map, Array.length_toList, List.length_cons] at this
      omega
    have led1 : w.params.followText "set-order" = true ∨ u.led = true := r.led.imp id fun z => l1.trans z
    have fin : ∀ h', Heap.SameBut a s.heap h' → HasT P w h' a (x :: xs) → Q true { s with heap := h' } := fun h' sb q => hQ true h' sb (by rw [addT, if_neg hout]; exact q)
    refine wpAny_bind (away _ ?_)
    split
    · refine wpAny_bind ?_
      rw [hashByValue_scannable 8 scn]
      refine wpAny_pure (txt_laid (fun b s₁ Q' q => ?_) r.get r.ex r.dat T1 k1 n1 z1 ?_ ?_ ?_ fun h' sb q => ?_)
      · cases b
        · exact wpAny_pure q
        · exact wpAny_rule q
      · first | (split <;> first | exact f1 | exact SetTable.fits_plain_off f1) | exact f1
      · first | (split <;> exact r1) | exact r1
      · first | (split <;> exact led1) | exact led1
      · dsimp only
        exact wpAny_pure (fin h' sb q)
    · refine wpAny_bind (wpAny_pure ?_)
      simp only [↓reduceIte]
      refine txt_laid (fun b s₁ Q' q => ?_) r.get r.ex r.dat T1 k1 n1 z1 f1 r1 led1 fun h' sb q => ?_
      · cases b
        · exact wpAny_pure q
        · exact wpAny_rule q
      · dsimp only
        exact wpAny_pure (fin h' sb q)
theorem txt_fresh {h : Heap} {a : Addr} (ho : h.get? a = some { cls := .type "set", dict := none, data := .set #[] 0 (.fresh 0 0 (!w.params.followText "set-order")) }) : HasT P w h a [] := by
  refine ⟨_, #[], 0, _, ho, ⟨rfl, rfl, rfl⟩, rfl, fun e he => by simp at he, by simp, List.nodup_nil, by decide, by rfl, List.Pairwise.nil, ?_⟩
  cases hb : w.params.followText "set-order" with
  | true => exact .inl rfl
  | false => exact .inr rfl
end
/-- what a list leaves in a set -/
def addA (xs : List Str) : List Str → List Str
  | [] => xs
  | y :: ys => addA (addT y xs) ys
theorem mem_addT (x y : Str) (xs : List Str) : y ∈ addT x xs ↔ y = x ∨ y ∈ xs := by
  unfold addT
  split
  · rename_i h
    exact ⟨.inr, fun k => k.elim (fun e => e ▸ h) id⟩
  · exact List.mem_cons
theorem mem_addA (y : Str) : ∀ (ys xs : List Str), y ∈ addA xs ys ↔ y ∈ xs ∨ y ∈ ys
  | [], xs => by simp [addA]
  | z :: ys, xs => by
    rw [addA, mem_addA y ys, mem_addT, List.mem_cons]
    constructor
    · rintro ((h | h) | h)
      · exact .inr (.inl h)
      · exact .inl h
      · exact .inr (.inr h)
    · rintro (h | h | h)
      · exact .inl (.inr h)
      · exact .inl (.inl h)
      · exact .inr h
theorem addT_len (x : Str) (xs : List Str) : (addT x xs).length ≤ xs.length + 1 := by
  unfold addT
  split
  · omega
  · simp
theorem addA_snoc (z : Str) : ∀ (ys xs : List Str), addA xs (ys ++ [z]) = addT z (addA xs ys)
  | [], xs => rfl
  | y :: ys, xs => addA_snoc z ys (addT y xs)
theorem addA_len : ∀ (ys xs : List Str), (addA xs ys).length ≤ xs.length + ys.length
  | [], xs => Nat.le_refl _
  | y :: ys, xs => by
    have h1 := addA_len ys (addT y xs)
    have h2 := addT_len y xs
    rw [addA, List.length_cons]
    omega
section
variable {P : Program} {w : World} {A : Around} {E : Value → Shared → Prop} {s : Shared}
theorem set_fill {I : Addr} {fp wr : List Addr} {G : Array GenState → Array GenState → Prop} {n : Nat} {Pv : Nat → Value → Prop} {St : Nat → Shared → Prop} {R : Result → Shared → Prop}
    (W : WalksS P w A.in1 I fp wr G n Pv St) (S : Addr) (out : S ∉ fp) (ys : List Str) (hn : n = ys.length) (few : ys.length + 1 < scanBound) (val : ∀ i v, Pv i v → ∃ x t, ys[i]? = some x ∧ v = .str x t) :
    ∀ (k i : Nat) (s : Shared), n - i = k → i ≤ n → St i s → HasT P w s.heap S (addA [] (ys.take i)) →
      (∀ s', Moved (S :: wr) G s s' → HasT P w s'.heap S (addA [] ys) → R (.ok (.ret .none)) s') → codeAny (model P w) A (.builtin "set.update.loop" ⟨[.ref S, .ref I], []⟩) R s := by
  have notw : S ∉ wr := fun z => out (W.sub _ z)
  have more : ∀ b ∈ wr, b ∈ S :: wr := fun b z => List.mem_cons_of_mem _ z
  intro k
  induction k with
  | zero =>
    intro i s hk hi st T hR
    obtain rfl : i = n := by omega
    refine codeAny_builtin F.entry_set_update_loop ?_
    rw [Around.under_plainId F.plain_set_update_loop _]
    show wpAny _ A.in1 (pyNext (.ref I) >>= _) _ _ s
    refine wpAny_bind (W.done s _ _ st fun s' mv => ?_)
    rw [List.take_of_length_le (Nat.le_of_eq hn.symm)] at T
    exact wpAny_pure (hR s' (mv.mono more) (T.carry fun o e => mv.heap S o notw e))
  | succ k ih =>
    intro i s hk hi st T hR
    have lt : i < n := by omega
    refine codeAny_builtin F.entry_set_update_loop ?_
    rw [Around.under_plainId F.plain_set_update_loop _]
    show wpAny _ A.in1 (pyNext (.ref I) >>= _) _ _ s
    refine wpAny_bind (W.item i s _ _ lt st fun v s' pv st' mv => ?_)
    obtain ⟨x, t, hx, rfl⟩ := val i v pv
    have T1 : HasT P w s'.heap S (addA [] (ys.take i)) := T.carry fun o e => mv.heap S o notw e
    show wpAny _ A.in1 (holding [Value.str x t] (setAdd S (.str x t)) >>= _) _ _ s'
    refine wpAny_bind (wpAny_holding ?_)
    unfold setAdd
    refine wpAny_holding (wpAny_bind ((PySem.strKind P w).pyHash (k := x) (strKind_is _ _ _ _) ?_))
    have room : (addA [] (ys.take i)).length + 1 < scanBound := by
      have h1 := addA_len (ys.take i) []
      rw [List.length_take] at h1
      simp only [List.length_nil] at h1
      omega
    refine txt_add T1 room fun b h' sb T2 => ?_
    have e2 : addT x (addA [] (ys.take i)) = addA [] (ys.take (i + 1)) := by rw [List.take_add_one, hx, Option.toList_some, addA_snoc]
    rw [e2] at T2
    refine wpAny_pure ⟨plainId_quiet F.plain_set_update_loop _, ih (i + 1) _ (by omega) lt (W.frame _ s' _ _ st' (Nat.le_succ _) fun b hb o e => ?_) T2 fun s2 mv2 T3 => hR s2 ?_ T3⟩
    · rw [sb.2 b fun z : b = S => out (z ▸ hb)]; exact e
    · refine Moved.trans W.gtrans ((mv.mono more).then_heap (Nat.le_succ _) fun b o hb e => ?_) mv2
      rw [sb.2 b fun z : b = S => hb (z ▸ List.mem_cons_self)]; exact e
end
abbrev newSet (w : World) : Obj := { cls := .type "set", dict := none, data := .set #[] 0 (.fresh 0 0 (!w.params.followText "set-order")) }
end HL

/-! set(xs) of texts; sorted and len of it. -/
namespace HL
open PySem PySem.Spec PyProof.Rows L2
section
variable {P : Program} {w : World} {A : Around} {E : Value → Shared → Prop} {s : Shared}
theorem set_of_list {l : Addr} {items : Array Value} (ys : List Str) {Q : Value → Shared → Prop} (hh : A.handled = none) (hl : s.heap.IsList l items) (hit : StrsAre items.toList ys) (few : ys.length + 1 < scanBound)
    (h : ∀ (h' : Heap) (tk : Nat), HasT P w h' s.heap.objs.size (addA [] ys) → (∀ b o, s.heap.get? b = some o → h'.get? b = some o) → Q (.ref s.heap.objs.size) { s with heap := h', toks := tk }) :
    wpAny (model P w) A (call (.type "set") [.ref l]) Q E s := by
  have len : items.size = ys.length := by
    have q := StrsAre.length hit
    rw [Array.length_toList] at q
    exact q
  obtain ⟨c, tl, mro⟩ := F.called_set.mro
  have made := F.called_set.made
  have sub := F.called_set.sub
  refine wpAny_call (codeAny_of_tree ?_)
  show wpAny _ _ (callAny (.type "set") _) _ _ _
  refine wpAny_pure ⟨Code.quiet_builtin _ (by decide +kernel), codeAny_builtin F.entry_type_call ?_⟩
  rw [Around.under_plain (weight_type_call_type "set" [.ref l] []) rfl]
  have notT := F.called_set.notType
  have can := F.called_set.canCreate
  have chk := F.typeCall_set_1 (.ref l)
  repeat (any_goals (first | assumption | wp_step))
  refine codeAny_mono (L2.code_set_led1 (.ref l) (E := E) (Q₁ := fun ob t => ob = .ref s.heap.objs.size ∧ t = { s with heap := s.heap.push (newSet w) }) ⟨rfl, rfl⟩) fun r t hr => ?_
  cases r with
  | error e => exact hr
  | ok fl =>
    cases fl with
    | ret obj =>
      obtain ⟨rfl, rfl⟩ := hr
      have at0 : (s.heap.push (newSet w)).get? s.heap.objs.size = some (newSet w) := Heap.get?_push_size _ rfl
      have isT : Shared.TypeIs { s with heap := s.heap.push (newSet w) } (.ref s.heap.objs.size) "set" := ⟨_, at0, rfl⟩
      have ini := F.called_set.init.lookup
      have bin := F.called_set.init.bind (.ref s.heap.objs.size)
      repeat (any_goals (first | assumption | wp_step))
      refine codeAny_mono (codeAny_call_builtin (R := wants (fun r t => r = .none ∧ ∃ h' tk, t = { s with heap := h', toks := tk } ∧ HasT P w h' s.heap.objs.size (addA [] ys) ∧ (∀ b o, s.heap.get? b = some o → h'.get? b = some o)) E)
        F.called_set.init.plain F.entry_set_init (check_set_init_1 isT ?_)) fun r₂ t₂ hr₂ => ?_
      · obtain ⟨⟨ocls, odict, odata, oslots⟩, hol, hcl, nl, hdl⟩ := hl
        simp only at hcl hdl
        subst hcl hdl
        have sub1 := F.sub_list_set
        have sub2 := F.sub_list_frozenset
        have ne1 : (Value.type "list" == Value.type "dict") = false := by decide
        have at1 : (s.heap.push (newSet w)).get? l = some { cls := .type "list", dict := odict, data := .seq items nl, slots := oslots } := Heap.get?_push_of_some _ hol
        have hl1 : (s.heap.push (newSet w)).IsList l items := ⟨_, at1, rfl, nl, rfl⟩
        unfold Builtin.«set.__init__» noKeywords Builtin.Frozenset.updateFrom
        generalize hPI : pyIter = PI
        wp_walk
        subst hPI
        refine wpAny_pyIter_list hl1 (wpAny_bind (wpAny_runValue ?_))
        have ll : l < s.heap.objs.size := Heap.lt_size hol
        have sz : (s.heap.push (newSet w)).objs.size = s.heap.objs.size + 1 := Heap.size_push ..
        have neI : l ≠ (s.heap.push (newSet w)).objs.size := by rw [sz]; exact Nat.ne_of_lt (Nat.lt_succ_of_lt ll)
        have off : s.heap.objs.size ∉ [(s.heap.push (newSet w)).objs.size, l] := by
          rw [sz]
          simp only [List.mem_cons, List.not_mem_nil, or_false, not_or]
          exact ⟨Nat.ne_of_lt (Nat.lt_succ_self _), Nat.ne_of_gt ll⟩
        have val : ∀ (i : Nat) (v : Value), items[i]? = some v → ∃ x t, ys[i]? = some x ∧ v = .str x t := fun i v hv => by
          obtain ⟨x, t, e1, e2⟩ := StrsAre.item hit i v (by rw [Array.getElem?_toList]; exact hv)
          exact ⟨x, t, e2, e1⟩
        refine set_fill ((Walks.list (show A.in1.in1.in1.handled = none by simp [hh]) _ l neI items).toS) s.heap.objs.size off ys len few val (items.size - 0) 0 _ (by omega) (Nat.zero_le _)
          ⟨⟨_, Heap.get?_push_size _ rfl, rfl, rfl⟩, hl1.push _⟩ (txt_fresh (Heap.get?_push_of_some _ at0)) fun t₃ mv T3 => ?_
        obtain ⟨h', g', d', tk', os'⟩ := t₃
        have eg : g' = s.gens := mv.gens
        have ed : d' = s.drawn := mv.drawn
        have eo : os' = s.os := mv.os
        subst eg ed eo
        show wpAny _ _ _ _ _ _
        refine wpAny_pure ?_
        show wpAny _ _ (ret Value.none) _ _ _
        refine wpAny_pure ⟨rfl, h', tk', rfl, T3, fun b o e => ?_⟩
        have lb : b < s.heap.objs.size := Heap.lt_size e
        exact mv.heap b o (by rw [sz]; simp only [List.mem_cons, List.not_mem_nil, or_false, not_or]; exact ⟨Nat.ne_of_lt lb, Nat.ne_of_lt (Nat.lt_succ_of_lt lb)⟩) (Heap.get?_push_of_some _ (Heap.get?_push_of_some _ e))
      · cases r₂ with
        | error e => exact hr₂
        | ok fl₂ =>
          cases fl₂ with
          | ret r =>
            obtain ⟨rfl, h', tk, rfl, T3, kept⟩ := hr₂
            repeat (any_goals (first | assumption | wp_step))
            exact h _ _ T3 kept
          | _ => exact hr₂.elim
    | _ => exact hr.elim

end
end HL

/-! set(xs) of texts; sorted and len of it. -/
namespace HL
open PySem PySem.Spec PyProof.Rows L2
section
variable {P : Program} {w : World} {A : Around} {E : Value → Shared → Prop} {s : Shared}
theorem set_of_tuple {l : Addr} {items : Array Value} (ys : List Str) {Q : Value → Shared → Prop} (hh : A.handled = none) (hl : s.heap.IsTuple l items) (hit : StrsAre items.toList ys) (few : ys.length + 1 < scanBound)
    (h : ∀ (h' : Heap) (tk : Nat), HasT P w h' s.heap.objs.size (addA [] ys) → (∀ b o, s.heap.get? b = some o → h'.get? b = some o) → Q (.ref s.heap.objs.size) { s with heap := h', toks := tk }) :
    wpAny (model P w) A (call (.type "set") [.ref l]) Q E s := by
  have len : items.size = ys.length := by
    have q := StrsAre.length hit
    rw [Array.length_toList] at q
    exact q
  obtain ⟨c, tl, mro⟩ := F.called_set.mro
  have made := F.called_set.made
  have sub := F.called_set.sub
  refine wpAny_call (codeAny_of_tree ?_)
  show wpAny _ _ (callAny (.type "set") _) _ _ _
  refine wpAny_pure ⟨Code.quiet_builtin _ (by decide +kernel), codeAny_builtin F.entry_type_call ?_⟩
  rw [Around.under_plain (weight_type_call_type "set" [.ref l] []) rfl]
  have notT := F.called_set.notType
  have can := F.called_set.canCreate
  have chk := F.typeCall_set_1 (.ref l)
  repeat (any_goals (first | assumption | wp_step))
  refine codeAny_mono (L2.code_set_led1 (.ref l) (E := E) (Q₁ := fun ob t => ob = .ref s.heap.objs.size ∧ t = { s with heap := s.heap.push (newSet w) }) ⟨rfl, rfl⟩) fun r t hr => ?_
  cases r with
  | error e => exact hr
  | ok fl =>
    cases fl with
    | ret obj =>
      obtain ⟨rfl, rfl⟩ := hr
      have at0 : (s.heap.push (newSet w)).get? s.heap.objs.size = some (newSet w) := Heap.get?_push_size _ rfl
      have isT : Shared.TypeIs { s with heap := s.heap.push (newSet w) } (.ref s.heap.objs.size) "set" := ⟨_, at0, rfl⟩
      have ini := F.called_set.init.lookup
      have bin := F.called_set.init.bind (.ref s.heap.objs.size)
      repeat (any_goals (first | assumption | wp_step))
      refine codeAny_mono (codeAny_call_builtin (R := wants (fun r t => r = .none ∧ ∃ h' tk, t = { s with heap := h', toks := tk } ∧ HasT P w h' s.heap.objs.size (addA [] ys) ∧ (∀ b o, s.heap.get? b = some o → h'.get? b = some o)) E)
        F.called_set.init.plain F.entry_set_init (check_set_init_1 isT ?_)) fun r₂ t₂ hr₂ => ?_
      · obtain ⟨⟨ocls, odict, odata, oslots⟩, hol, hcl, nl, hdl⟩ := hl
        simp only at hcl hdl
        subst hcl hdl
        have sub1 := F.sub_tuple_set
        have sub2 := F.sub_tuple_frozenset
        have ne1 : (Value.type "tuple" == Value.type "dict") = false := by decide
        have at1 : (s.heap.push (newSet w)).get? l = some { cls := .type "tuple", dict := odict, data := .seq items nl, slots := oslots } := Heap.get?_push_of_some _ hol
        have hl1 : (s.heap.push (newSet w)).IsTuple l items := ⟨_, at1, rfl, nl, rfl⟩
        unfold Builtin.«set.__init__» noKeywords Builtin.Frozenset.updateFrom
        generalize hPI : pyIter = PI
        wp_walk
        subst hPI
        refine wpAny_pyIter_tuple hl1 (wpAny_bind (wpAny_runValue ?_))
        have ll : l < s.heap.objs.size := Heap.lt_size hol
        have sz : (s.heap.push (newSet w)).objs.size = s.heap.objs.size + 1 := Heap.size_push ..
        have neI : l ≠ (s.heap.push (newSet w)).objs.size := by rw [sz]; exact Nat.ne_of_lt (Nat.lt_succ_of_lt ll)
        have off : s.heap.objs.size ∉ [(s.heap.push (newSet w)).objs.size, l] := by
          rw [sz]
          simp only [List.mem_cons, List.not_mem_nil, or_false, not_or]
          exact ⟨Nat.ne_of_lt (Nat.lt_succ_self _), Nat.ne_of_gt ll⟩
        have val : ∀ (i : Nat) (v : Value), items[i]? = some v → ∃ x t, ys[i]? = some x ∧ v = .str x t := fun i v hv => by
          obtain ⟨x, t, e1, e2⟩ := StrsAre.item hit i v (by rw [Array.getElem?_toList]; exact hv)
          exact ⟨x, t, e2, e1⟩
        refine set_fill ((Walks.tuple (show A.in1.in1.in1.handled = none by simp [hh]) _ l neI items).toS) s.heap.objs.size off ys len few val (items.size - 0) 0 _ (by omega) (Nat.zero_le _)
          ⟨⟨_, Heap.get?_push_size _ rfl, rfl, rfl⟩, hl1.push _⟩ (txt_fresh (Heap.get?_push_of_some _ at0)) fun t₃ mv T3 => ?_
        obtain ⟨h', g', d', tk', os'⟩ := t₃
        have eg : g' = s.gens := mv.gens
        have ed : d' = s.drawn := mv.drawn
        have eo : os' = s.os := mv.os
        subst eg ed eo
        show wpAny _ _ _ _ _ _
        refine wpAny_pure ?_
        show wpAny _ _ (ret Value.none) _ _ _
        refine wpAny_pure ⟨rfl, h', tk', rfl, T3, fun b o e => ?_⟩
        have lb : b < s.heap.objs.size := Heap.lt_size e
        exact mv.heap b o (by rw [sz]; simp only [List.mem_cons, List.not_mem_nil, or_false, not_or]; exact ⟨Nat.ne_of_lt lb, Nat.ne_of_lt (Nat.lt_succ_of_lt lb)⟩) (Heap.get?_push_of_some _ (Heap.get?_push_of_some _ e))
      · cases r₂ with
        | error e => exact hr₂
        | ok fl₂ =>
          cases fl₂ with
          | ret r =>
            obtain ⟨rfl, h', tk, rfl, T3, kept⟩ := hr₂
            repeat (any_goals (first | assumption | wp_step))
            exact h _ _ T3 kept
          | _ => exact hr₂.elim
    | _ => exact hr.elim

end
end HL

/-! sorted(set(xs)), len(set(xs)) of texts, in the abstract heap. -/
namespace HL
open PySem PySem.Spec PyProof.Rows L2
/-- a set of texts at a -/
def TSetO (P : Program) (w : World) (a : Addr) (xs : List Str) : HO := .ext fun h => HasT P w h a xs
theorem tset_new {P : Program} {w : World} {H : Hp} {h : Heap} {a : Addr} {xs : List Str} (R : HasT P w h a xs) : ObjOk P w H h a (TSetO P w a xs) := by
  have ⟨o, _, _, _, r⟩ := R
  exact ⟨R, ⟨o, r.get⟩, fun _ _ q k => q.carry k⟩
def rSetT (X : Cx) : List V → Hp → VK → Prop := fun vs H Q => ∃ (l : Addr) (ys : List Str), vs = [V.ref l] ∧ (SqL X.K H l (ys.map V.str) ∨ SqT X.K H l (ys.map V.str)) ∧ ys.length ≤ 4000 ∧ ∀ a, H a = none → Q (.ref a) (upd H a (TSetO X.prog X.w a (addA [] ys)))
theorem cr_setT {X : Cx} (hc : X.calm = true) : CallR X (.type "set") (rSetT X) := by
  intro pins s σ H vs us Q I r ⟨l, ys, e, hl, few, q⟩
  subst e
  rw [Vals.ref1 r]
  have fresh : H s.heap.objs.size = none := I.hok.fresh (Nat.le_refl _)
  have room : ys.length + 1 < scanBound := by unfold scanBound; omega
  have fin : ∀ (h' : Heap) (tk : Nat), HasT X.prog X.w h' s.heap.objs.size (addA [] ys) → (∀ b o, s.heap.get? b = some o → h'.get? b = some o) → ∃ (w : V) (H' : Hp), Inv X pins σ H' { s with heap := h', toks := tk } ∧ RelV w (.ref s.heap.objs.size) ∧ Q w H' := fun h' tk T k =>
    ⟨.ref _, upd H s.heap.objs.size (TSetO X.prog X.w s.heap.objs.size (addA [] ys)), I.laid (t' := tk) k (Nat.le_refl _) (tset_new T), rfl, q _ fresh⟩
  rcases hl with hl | hl
  · obtain ⟨its, rv, pl, hz⟩ := I.list hl
    exact set_of_list ys (I.ok.hd hc) pl.isList (by rw [List.toList_toArray]; exact rv.strs) room fin
  · obtain ⟨its, rv, pt, hz⟩ := I.tuple hl
    exact set_of_tuple ys (I.ok.hd hc) (show s.heap.IsTuple l its.toArray from pt) (by rw [List.toList_toArray]; exact rv.strs) room fin
/-- sorted of it -/
theorem strs_keys : ∀ (l : List Value), (∀ v ∈ l, ∃ x t, v = Value.str x t) → ∃ xs : List Str, StrsAre l xs ∧ xs = l.map fun v => tkey (0, v)
  | [], _ => ⟨[], .nil, rfl⟩
  | v :: l, h => by
    obtain ⟨xs, a, b⟩ := strs_keys l fun u hu => h u (List.mem_cons_of_mem _ hu)
    obtain ⟨x, t, rfl⟩ := h v List.mem_cons_self
    exact ⟨x :: xs, .cons x t a, by rw [List.map_cons, ← b]; rfl⟩
section
variable {P : Program} {w : World} {A : Around} {E : Value → Shared → Prop} {s : Shared} {a : Addr} {xs : List Str}
theorem sorted_texts {Q : Value → Shared → Prop} (R : HasT P w s.heap a xs) (hh : A.handled = none) (few : xs.length < 64)
    (hQ : ∀ s' p (out : List Value) (c : Nat) (ys : List Str), (∀ b o, s.heap.get? b = some o → s'.heap.get? b = some o) → s'.gens = s.gens → s'.os = s.os → s.heap.objs.size ≤ p → s'.heap.get? p = some (seqObj "list" out.toArray c) → StrsAre out ys → ys.Perm xs → sortedS ys = true → Q (.ref p) s') :
    wpAny (model P w) A (call (.builtin "sorted") [.ref a]) Q E s := by
  obtain ⟨o, es, ep, t, r⟩ := R
  refine Calls.call_function_entry kind_sorted plain_sorted entry_sorted (args_sorted1 _) ?_
  unfold Builtin.«sorted»
  refine wpAny_bind (m := checkCount "sorted" 1 1 _) (wpAny_pure (wpAny_bind (collect_set (A := A.in1) hh ⟨o, r.get, r.ex.1, r.dat⟩ r.fits r.room r.ris r.led fun s1 vs k1 z1 g1 o1 pm => ?_)))
  have len : vs.length = xs.length := by rw [pm.length_eq, List.length_map, Array.length_toList, r.size]
  obtain ⟨ks, sa, ek⟩ := strs_keys vs fun v hv => by
    obtain ⟨e, he, q⟩ := List.mem_map.mp (pm.mem_iff.mp hv)
    obtain ⟨x, t', rfl⟩ := r.txt e he
    exact ⟨x, t', q.symm⟩
  have pk : ks.Perm xs := by
    rw [ek]
    have q := pm.map fun v => tkey (0, v)
    rw [List.map_map] at q
    exact q.trans ((List.Perm.of_eq (List.map_congr_left fun e _ => rfl)).trans r.keys)
  refine wpAny_bind (wpAny_newList ?_ (by rw [sizeLine_eq]; omega))
  have atL : (s1.heap.push (seqObj "list" vs.toArray 0)).get? s1.heap.objs.size = some (seqObj "list" vs.toArray 0) := Heap.get?_push_size _ rfl
  refine wpAny_bind (wpAny_holding (wpAny_call_entry slot_list_sort ⟨_, atL, rfl⟩ entry_list_sort (list_sort_treeK strKind_oneLt atL sa.keysOf (fun v₁ v₂ rest e => keyKind_strs (by rw [← e]; exact sa)) (by omega) fun st' hp hs => ?_) (args_list_sort _)))
  obtain ⟨ys, y1, y2, y3⟩ := sorted_out_str sa hp hs
  obtain ⟨c, hc⟩ := sortedHeap_at (vs := vs) (out := (arrOf st').map (·.2)) atL
  refine ⟨_, rfl, wpAny_pure ⟨_, rfl, hQ _ s1.heap.objs.size ((arrOf st').map (·.2)).toList c ys (fun b u e => ?_) g1 o1 z1 (by rw [Array.toArray_toList]; exact hc) y1 (y2.trans pk) y3⟩⟩
  have lt := Heap.lt_size (k1 b u e)
  show (sortedHeap (s1.heap.push (seqObj "list" vs.toArray 0)) s1.heap.objs.size vs ((arrOf st').map (·.2))).get? b = some u
  rw [sortedHeap_old (Nat.ne_of_lt lt) (by rw [size_push']; exact Nat.lt_succ_of_lt lt)]
  exact Heap.get?_push_of_some _ (k1 b u e)
end
def rSortT (X : Cx) : List V → Hp → VK → Prop := fun vs H Q => ∃ (a : Addr) (xs : List Str), vs = [V.ref a] ∧ H a = some (TSetO X.prog X.w a xs) ∧ xs.length < 64 ∧ ∀ ys p, ys.Perm xs → sortedS ys = true → H p = none → Q (.ref p) (upd H p (.lst (ys.map V.str)))
theorem cr_sortT' {X : Cx} (hc : X.calm = true) : CallR X (.builtin "sorted") (rSortT X) := by
  intro pins s σ H vs us Q I r ⟨a, xs, e, ha, few, q⟩
  subst e
  rw [Vals.ref1 r]
  have R : HasT X.prog X.w s.heap a xs := (show ObjOk X.prog X.w H s.heap a (TSetO X.prog X.w a xs) from I.hok a _ ha).1
  refine sorted_texts R (I.ok.hd hc) few fun s' p out c ys k g o hp at' sa pm so => ?_
  have len : (ys.map V.str).length ≤ sizeLine := by rw [List.length_map, pm.length_eq, sizeLine_eq]; omega
  have hn : H p = none := I.hok.fresh hp
  have J : Inv X pins σ (upd H p (.lst (ys.map V.str))) s' :=
    I.call' (ch := []) o (Un.laid k hp hn) (I.hok.laid k hp ⟨len, out, c, vals_of_strs sa, at'⟩) (by rw [g]; exact I.bare) (fun _ z => nomatch z)
  exact ⟨.ref p, _, J, rfl, q ys p pm so hn⟩
def rLenT (X : Cx) : List V → Hp → VK → Prop := fun vs H Q => ∃ (a : Addr) (xs : List Str), vs = [V.ref a] ∧ H a = some (TSetO X.prog X.w a xs) ∧ Q (.int xs.length) H
theorem cr_lenT {X : Cx} : CallR X (.builtin "len") (rLenT X) := by
  intro pins s σ H vs us Q I r ⟨a, xs, e, ha, q⟩
  subst e
  rw [Vals.ref1 r]
  have R : HasT X.prog X.w s.heap a xs := (show ObjOk X.prog X.w H s.heap a (TSetO X.prog X.w a xs) from I.hok a _ ha).1
  obtain ⟨o, es, ep, t, r⟩ := R
  refine call_len_set r.get r.ex r.dat r.fits (by have := r.room; unfold scanBound at this; omega) ⟨.int xs.length, H, I.tok (s.toks + 1 + 1), ⟨s.toks + 1, ?_⟩, q⟩
  rw [r.size]
/-! ### as data -/
def ddS (xs : List Str) : List Str := addA [] xs
theorem addT_nodup {x : Str} {xs : List Str} (h : xs.Nodup) : (addT x xs).Nodup := by
  unfold addT
  split
  · exact h
  · rename_i hn
    exact List.nodup_cons.mpr ⟨hn, h⟩
theorem addA_nodup : ∀ {ys xs : List Str}, xs.Nodup → (addA xs ys).Nodup
  | [], _, h => h
  | y :: ys, xs, h => addA_nodup (ys := ys) (addT_nodup h)
def sortSetD (d : D) : R D := match (partsD d).bind strsD with
  | some xs => if xs.length < 64 then .ok (.lst ((sortS (ddS xs)).map D.str)) else .stuck
  | none => .stuck
def lenSetD (d : D) : R D := match (partsD d).bind strsD with
  | some xs => if xs.length ≤ 4000 then .ok (.int (ddS xs).length) else .stuck
  | none => .stuck
section
variable {cl : Cl} {X : Cx} {W : WX} {e : Expr} {m : HEnv → R D} {x y : Str} {p p2 q2 pos : Pos}
theorem dn_sortSet (hc : X.calm = true) (hg : Gl X "sorted") (hm : X.mg "sorted" = none) (hg2 : Gl X "set") (hm2 : X.mg "set" = none) (he : PE X e (tB cl W m))
    (h1 : starEach [e] X.env = (false, eval e X.env) :: starEach [] X.env := by rfl) (h2 : (backTo q2 (starEach [] X.env)).any (·.1) = false := by rfl)
    (h3 : starEach [.Call (.Name "set" p2) [e] [] q2] X.env = (false, eval (.Call (.Name "set" p2) [e] [] q2) X.env) :: starEach [] X.env := by rfl) (h4 : (backTo pos (starEach [] X.env)).any (·.1) = false := by rfl) :
    PE X (.Call (.Name "sorted" p) [.Call (.Name "set" p2) [e] [] q2] [] pos) (tN cl W (m1 sortSetD m)) := by
  refine pe_weak (pe_callB (cr_sortT' hc) hg hm (by decide +kernel) (pa_cons (pe_callTy (cr_setT hc) hg2 hm2 (by decide +kernel) (pa_cons he pa_nil h1) (by decide) (by decide) h1 h2) pa_nil h3) (by decide) (by decide) h3 h4) fun σ H Q q => ?_
  refine read1 (rel := relB cl) (r := fun v H1 Q => rSetT X [v] H1 fun x H2 => rSortT X [x] H2 Q) oldN (fun Hs F H d v Q σ s r p => ?_) q
  unfold sortSetD at p
  split at p
  case h_2 => exact p.elim
  rename_i ys hy
  split at p
  case isFalse => exact p.elim
  rename_i few
  cases hd : partsD d with
  | none => rw [hd] at hy; cases hy
  | some ds =>
    rw [hd] at hy
    obtain ⟨l, vs, rfl, sq, rl, z⟩ := parts_rep X.K s r hd
    rw [strs_rep (show strsD ds = some ys from hy) rl] at sq
    refine ⟨l, ys, rfl, sq, by omega, fun a ha => ?_⟩
    have fa : F a = none := sub_none s ha
    have dl : (ddS ys).length < 64 := Nat.lt_of_le_of_lt (addA_len ys []) (by simpa using few)
    refine ⟨a, ddS ys, rfl, upd_same, dl, fun zs p' perm so hp => ?_⟩
    have e : zs = sortS (ddS ys) := sorted_unique (perm.trans sortS_perm.symm) (pairwise_of_sortedS so) sortS_sorted
    subst e
    have k1 : Kp F H F (upd H a (TSetO X.prog X.w a (addA [] ys))) := kp_new ha
    exact PostG.new (PostG.step oldN p k1) (sub_upd s fa) hp ⟨_, rfl, rep_strs _, by rw [List.length_map, sortS_perm.length_eq, sizeLine_eq]; omega⟩
theorem d_lenSet (hc : X.calm = true) (hg : Gl X "len") (hm : X.mg "len" = none) (hg2 : Gl X "set") (hm2 : X.mg "set" = none) (he : PE X e (tB cl W m))
    (h1 : starEach [e] X.env = (false, eval e X.env) :: starEach [] X.env := by rfl) (h2 : (backTo q2 (starEach [] X.env)).any (·.1) = false := by rfl)
    (h3 : starEach [.Call (.Name "set" p2) [e] [] q2] X.env = (false, eval (.Call (.Name "set" p2) [e] [] q2) X.env) :: starEach [] X.env := by rfl) (h4 : (backTo pos (starEach [] X.env)).any (·.1) = false := by rfl) :
    PE X (.Call (.Name "len" p) [.Call (.Name "set" p2) [e] [] q2] [] pos) (tF cl W (m1 lenSetD m)) := by
  refine pe_weak (pe_callB (cr_lenT) hg hm (by decide +kernel) (pa_cons (pe_callTy (cr_setT hc) hg2 hm2 (by decide +kernel) (pa_cons he pa_nil h1) (by decide) (by decide) h1 h2) pa_nil h3) (by decide) (by decide) h3 h4) fun σ H Q q => ?_
  refine read1 (rel := relB cl) (r := fun v H1 Q => rSetT X [v] H1 fun x H2 => rLenT X [x] H2 Q) oldF (fun Hs F H d v Q σ s r p => ?_) q
  unfold lenSetD at p
  split at p
  case h_2 => exact p.elim
  rename_i ys hy
  split at p
  case isFalse => exact p.elim
  rename_i few
  cases hd : partsD d with
  | none => rw [hd] at hy; cases hy
  | some ds =>
    rw [hd] at hy
    obtain ⟨l, vs, rfl, sq, rl, z⟩ := parts_rep X.K s r hd
    rw [strs_rep (show strsD ds = some ys from hy) rl] at sq
    refine ⟨l, ys, rfl, sq, few, fun a ha => ?_⟩
    have fa : F a = none := sub_none s ha
    refine ⟨a, ddS ys, rfl, upd_same, PostG.done (PostG.step oldF p (kp_new ha)) (sub_upd s fa) (by simp only [relF, Rep])⟩
end
end HL

/-! Plain law: the standard column of a lot. -/
namespace HL
open PySem L2
theorem empty_tx : (Str.ofString "") = tx [] := by decide +kernel
theorem join_ones : ∀ r : List Nat, Str.join (tx []) (r.map fun c => tx [c]) = tx r
  | [] => rfl
  | [c] => rfl
  | c :: d :: r => by
    show tx [c] ++ tx [] ++ Str.join (tx []) ((d :: r).map fun c => tx [c]) = _
    rw [join_ones (d :: r), tx_app, tx_app]
    rfl
theorem join_nms (r : List Nat) : Txt.join (tx []) (r.map fun c => tx [c]) = tx r := (TL.join_eq _ _).trans (join_ones r)
def lowB (c : Nat) : Bool := Unicode.lowerOf c == [c + 32]
theorem low_ok : ((List.range 91).filter (65 ≤ ·)).all lowB = true := by decide +kernel
theorem lower_of {c : Nat} (h1 : 65 ≤ c) (h2 : c ≤ 90) : Unicode.lowerOf c = [c + 32] := by
  have := List.all_eq_true.mp low_ok c (List.mem_filter.mpr ⟨List.mem_range.mpr (by omega), decide_eq_true h1⟩)
  exact eq_of_beq this
theorem lower_tx {r : List Nat} (h : ∀ c ∈ r, 65 ≤ c ∧ c ≤ 90) : Txt.lower (tx r) = tx (r.map (· + 32)) := by
  have e : (tx r).cps.mapIdx (fun i c => (Unicode.lowerAt (tx r).cps i).toArray) = (tx r).cps.map fun c => #[c + 32] := by
    apply Array.ext
    · simp
    · intro i h1 h2
      have hi : i < r.length := by simpa [tx] using h1
      have hc := h _ (List.getElem_mem hi)
      have g : (tx r).cps[i]? = some r[i] := by simp [tx, List.getElem?_eq_getElem hi]
      rw [Array.getElem_mapIdx, Array.getElem_map]
      unfold Unicode.lowerAt
      rw [g]
      have n1 : (r[i] == 931) = false := by
        rw [beq_eq_false_iff_ne]
        omega
      simp only [n1, Bool.false_and, Bool.false_eq_true, if_false]
      rw [lower_of hc.1 hc.2]
      simp [tx]
  apply str_ext
  show ((tx r).cps.mapIdx (fun i c => (Unicode.lowerAt (tx r).cps i).toArray)).flatten.toList = _
  rw [e]
  simp only [tx, Array.toList_flatten, Array.toList_map, List.map_map]
  clear e h
  induction r with
  | nil => rfl
  | cons c r ih => simpa using ih
/-- the word of a lot -/
def wordN (r : List Nat) : Str := tx (r.map (· + 32))
theorem wordN_inj {r s : List Nat} (h : wordN r = wordN s) : r = s := by
  have e := congrArg (List.map (· - 32)) (tx_inj h)
  rw [List.map_map, List.map_map] at e
  have : ((· - 32) ∘ (· + 32) : Nat → Nat) = id := funext fun a => by simp
  rw [this, List.map_id, List.map_id] at e
  exact e
theorem wordN_col {r : List Nat} (h0 : r ≠ []) (h4 : r.length ≤ 6) (h : ∀ c ∈ r, 65 ≤ c ∧ c ≤ 90) : isCol (wordN r) = true := by
  unfold isCol wordN
  have hl : 0 < r.length := List.length_pos_iff.mpr h0
  rw [tx_len, tx_list, List.length_map]
  simp only [Bool.and_eq_true, decide_eq_true_eq, List.all_eq_true]
  refine ⟨⟨by omega, h4⟩, fun c hc => ?_⟩
  obtain ⟨d, hd, rfl⟩ := List.mem_map.mp hc
  have := h d hd
  unfold low
  simp only [Bool.and_eq_true, decide_eq_true_eq]
  omega
theorem strsD_nms (r : List Nat) : strsD (r.map nm) = some (r.map fun c => tx [c]) := by rw [nm_map, strsD_map]
theorem sum_ones : ∀ r : List Nat, ((r.map fun c => tx [c]).map fun x : Str => x.length).sum = r.length
  | [] => rfl
  | c :: r => by
    simp only [List.map_cons, List.sum_cons, List.length_cons, sum_ones r, tx_len]
    simp [Nat.add_comm]
theorem word_ok {r : List Nat} (hl : r.length ≤ 100) (h : ∀ c ∈ r, 65 ≤ c ∧ c ≤ 90) {m : HEnv → R D} {env : HEnv} (hm : m env = .ok (tupN r)) : m1 (onStr lowerS) (mStr1 joinS (mC (.str "")) m) env = .ok (.str (wordN r)) := by
  refine (m1_ok (a := D.str (tx r)) ?_).trans ?_
  · unfold mStr1
    rw [show mC (.str "") env = .ok (.str (tx [])) from congrArg (fun s => R.ok (D.str s)) empty_tx, R.bind_ok]
    simp only [hm, R.bind_ok]
    show (match (partsD (tupN r)).bind strsD with
      | some ys => if (ys.map fun x : Str => x.length).sum + ys.length * (tx []).length ≤ 16777216 then R.ok (D.str (Txt.join (tx []) ys)) else .stuck
      | none => .stuck) = _
    rw [show (partsD (tupN r)).bind strsD = some (r.map fun c => tx [c]) from strsD_nms r]
    simp only [sum_ones]
    rw [if_pos (by rw [tx_len]; simp; omega), join_nms]
  · show (if (tx r).length ≤ 5592405 then R.ok (D.str (Txt.lower (tx r))) else .stuck) = _
    rw [if_pos (by rw [tx_len]; omega), lower_tx h]
    rfl
end HL

/-! Plain law: shared small things; lot_heads. -/
namespace HL
open PySem L2
theorem eq_int (a b : Int) : eqD (.int a) (.int b) = .ok (.bl (a == b)) := by
  show (if sim (.int a) = true ∧ sim (.int b) = true then R.ok (D.bl (a == b)) else R.stuck) = _
  rw [if_pos ⟨rfl, rfl⟩]
theorem firstD_nm {c : Nat} : ∀ {S : List Nat}, c ∈ S → firstD (nm c) (S.map nm) = some (S.idxOf c)
  | [], h => by simp at h
  | x :: r, h => by
    simp only [List.map_cons, firstD, deq_nm, List.idxOf_cons]
    by_cases e : x = c
    · subst e; simp
    · have hr : c ∈ r := by
        rcases List.mem_cons.mp h with h | h
        · exact absurd h.symm e
        · exact h
      have e2 : (x == c) = false := by simpa using e
      rw [firstD_nm hr, e2]
      simp [e]
theorem idx_nm {c : Nat} {S : List Nat} (h : c ∈ S) : idxD (.lst (S.map nm)) (nm c) = .ok (.int (S.idxOf c : Nat)) := by
  show (if simpL? 50 (S.map nm) = true ∧ sim (nm c) = true then (match firstD (nm c) (S.map nm) with
    | some j => R.ok (D.int (j : Nat))
    | none => .stuck) else .stuck) = _
  rw [if_pos ⟨simpL_nm S, rfl⟩, firstD_nm h]
theorem range_filter {α β : Type} (xs : List α) (d : α) (q : α → Bool) (g : α → β) : ((List.range xs.length).filter fun k => q (xs.getD k d)).map (fun k => g (xs.getD k d)) = (xs.filter q).map g := by
  have e : (List.range xs.length).map (fun i => xs.getD i d) = xs := by
    apply List.ext_getElem
    · simp
    · intro i h1 h2
      simp [List.getD_eq_getElem?_getD, List.getElem?_eq_getElem h2]
  have h : (((List.range xs.length).map (fun i => xs.getD i d)).filter q).map g = ((List.range xs.length).filter fun k => q (xs.getD k d)).map (fun k => g (xs.getD k d)) := by
    rw [List.filter_map, List.map_map]
    rfl
  rw [← h, e]
theorem mem_letters (c : Nat) : c ∈ letters ↔ 65 ≤ c ∧ c ≤ 90 := by
  constructor
  · intro h
    have : letters.all (fun c => decide (65 ≤ c) && decide (c ≤ 90)) = true := by decide
    have := List.all_eq_true.mp this c h
    simpa using this
  · intro ⟨h1, h2⟩
    have : ((List.range 26).all fun i => decide (65 + i ∈ letters)) = true := by decide
    have := List.all_eq_true.mp this (c - 65) (List.mem_range.mpr (by omega))
    have e : 65 + (c - 65) = c := by omega
    rw [e] at this
    exact of_decide_eq_true this
theorem mem_rising {ls : List Nat} (h : ∀ l ∈ ls, 65 ≤ l ∧ l ≤ 90) (c : Nat) : c ∈ rising ls ↔ c ∈ ls := by
  unfold rising
  rw [List.mem_filter, mem_letters]
  constructor
  · exact fun k => of_decide_eq_true k.2
  · exact fun k => ⟨h c k, decide_eq_true k⟩
theorem rising_nodup (ls : List Nat) : (rising ls).Nodup := List.Nodup.sublist List.filter_sublist (by decide)
theorem rising_perm {ls : List Nat} (hn : ls.Nodup) (h : ∀ l ∈ ls, 65 ≤ l ∧ l ≤ 90) : (rising ls).Perm ls := (List.perm_ext_iff_of_nodup (rising_nodup ls) hn).mpr (mem_rising h)
theorem rising_rising (ls : List Nat) : rising (rising ls) = rising ls := by
  unfold rising
  refine List.filter_congr fun c hc => ?_
  rw [decide_eq_decide, List.mem_filter, decide_eq_true_eq]
  exact ⟨fun k => k.2, fun k => ⟨hc, k⟩⟩
theorem in_tupN (r : List Nat) : ∀ rows : List (List Nat), inL (tupN r) (rows.map tupN) = decide (r ∈ rows)
  | [] => by simp [inL]
  | x :: xs => by
    have ih := in_tupN r xs
    simp only [List.map_cons, inL, deq_tupN, ih, List.mem_cons]
    by_cases e : x = r
    · subst e; simp
    · have : ¬ r = x := fun k => e k.symm
      simp [e, this]
theorem ni_tupN (r : List Nat) (rows : List (List Nat)) : inN true (tupN r) (.lst (rows.map tupN)) = .ok (.bl (!decide (r ∈ rows))) := by
  have hz : simpL? 50 (rows.map tupN) = true := simpL_of fun d hd => by
    obtain ⟨x, _, rfl⟩ := List.mem_map.mp hd
    exact sim_tupN x
  show (if sim (tupN r) = true ∧ simpL? 50 (rows.map tupN) = true then R.ok (inL (tupN r) (rows.map tupN)) else R.stuck).bind (fun b => R.ok (D.bl (if true = true then !b else b))) = _
  rw [if_pos ⟨sim_tupN r, hz⟩, in_tupN]
  rfl
theorem put_ok {env : HEnv} {i : Nat} {mk mv : HEnv → R D} {ks : List (D × D)} {k v : D} (he : env[i]? = some (.own (.dic false ks))) (hk : mk env = .ok k) (hv : mv env = .ok v) (h1 : (keyD k).isSome = true) (h2 : ks.length ≤ 1000000) : mPutD i mk mv env = .nx (env.set i (.own (.dic false (putD k v ks)))) := by
  unfold mPutD
  rw [he]
  refine (sB_ok hv).trans ((sB_ok hk).trans ?_)
  unfold putDI
  rw [if_pos ⟨h1, small_line h2⟩]
theorem dicN_len (v : Nat → D) (ls : List Nat) : (dicN v ls).length = ls.length := by simp [dicN]
theorem low_range {c : Nat} (h : low c = true) : 97 ≤ c ∧ c ≤ 122 := by
  unfold low at h
  simpa using h
theorem asc_of_col {x : Str} (h : isCol x = true) : Asc x := by
  unfold isCol at h
  simp only [Bool.and_eq_true, decide_eq_true_eq, List.all_eq_true] at h
  exact ⟨fun c hc => by have := low_range (h.2 c hc); omega, by omega⟩

theorem in_tup (c : Nat) (r : List Nat) : inN false (nm c) (tupN r) = .ok (.bl (decide (c ∈ r))) := by
  have h := in_given true (tx [c]) (r.map fun c => tx [c])
  have e : given true ((r.map fun c => tx [c]).map D.str) = tupN r := by
    show D.tup _ = D.tup _
    rw [nm_map]
  rw [e] at h
  refine h.trans ?_
  congr 2
  refine decide_eq_decide.mpr ⟨fun m => ?_, fun m => List.mem_map.mpr ⟨c, m, rfl⟩⟩
  obtain ⟨a, ha, e⟩ := List.mem_map.mp m
  have := tx_inj e
  simp only [List.cons.injEq, and_true] at this
  exact this ▸ ha
theorem letters_sorted : (letters.map fun c => tx [c]).Pairwise fun a b => leS a b = true := by decide +kernel
theorem rising_sort {ls : List Nat} (hn : ls.Nodup) (h : ∀ l ∈ ls, 65 ≤ l ∧ l ≤ 90) : sortS (ls.map fun c => tx [c]) = (rising ls).map fun c => tx [c] := by
  refine sorted_unique (sortS_perm.trans ((rising_perm hn h).symm.map _)) sortS_sorted ?_
  exact letters_sorted.sublist (List.Sublist.map _ List.filter_sublist)
theorem mem_ddS (x : Str) (xs : List Str) : x ∈ ddS xs ↔ x ∈ xs := by
  unfold ddS
  rw [mem_addA]
  simp
/-- the different texts in order -/
def sdS (xs : List Str) : List Str := sortS (ddS xs)
theorem mem_sdS (x : Str) (xs : List Str) : x ∈ sdS xs ↔ x ∈ xs := sortS_perm.mem_iff.trans (mem_ddS x xs)
theorem sdS_nodup (xs : List Str) : (sdS xs).Nodup := sortS_perm.nodup_iff.mpr (addA_nodup List.nodup_nil)
theorem sdS_sorted (xs : List Str) : (sdS xs).Pairwise fun a b => leS a b = true := sortS_sorted
theorem sdS_len (xs : List Str) : (sdS xs).length ≤ xs.length := by
  have h1 := addA_len xs []
  have h2 := (sortS_perm (xs := ddS xs)).length_eq
  have h3 : (ddS xs).length = (addA [] xs).length := rfl
  have h4 : (sdS xs).length = (sortS (ddS xs)).length := rfl
  simp only [List.length_nil] at h1
  omega
theorem sdS_unique {xs ys : List Str} (hn : ys.Nodup) (hs : ys.Pairwise fun a b => leS a b = true) (h : ∀ x, x ∈ ys ↔ x ∈ xs) : ys = sdS xs :=
  sorted_unique ((List.perm_ext_iff_of_nodup hn (sdS_nodup xs)).mpr fun x => (h x).trans (mem_sdS x xs).symm) hs (sdS_sorted xs)
def b_lot_heads  : HEnv → SO :=
  (mSeq (mIfS (m1 truB (m2 (cmpI fun i j => decide (j < i)) (m1 lenD (mOwn 0)) (mC (.int 4))))
  (mRaise "TooMany" "limit" (mC (.int 4)))
  mNext)
  (mSeq (mSetN 2 (fun _ => .ok (.dic false [])))
  (mSeq (mFor (m1 itemsD (m1 sortD (mComp [4] (m1 itemsD (mOwn 0)) (gN 4) mYes (m1 strD (mOwn 4))))) (gN 3)
  (mPutD 2 (mVar 3) (m1 tupleD (m1 sortSetD (mComp [5] (m1 itemsD (mOwn 1)) (gN 5) (m1 truB (m2 (inN false) (mOwn 3) (mOwn 5))) (m1 (onStr lowerS) (mStr1 joinS (mC (.str "")) (mOwn 5))))))))
  (mRetOwn 2))))
/-- the standard columns of a name -/
def wordsOf (rows : List (List Nat)) (c : Nat) : List Str := sdS ((rows.filter fun r => decide (c ∈ r)).map wordN)
def wW (rows : List (List Nat)) (c : Nat) : D := .tup ((wordsOf rows c).map D.str)
theorem lh_test {n : Nat} {e1 e2 e3 e4 e5 : Slot} (ls : List Nat) : (m1 truB (m2 (cmpI fun i j => decide (j < i)) (m1 lenD (mOwn 0)) (mC (.int n)))) [.val (.lst (ls.map nm)), e1, e2, e3, e4, e5] = .ok (decide (n < ls.length)) := by
  refine (m1_ok (a := D.bl (decide (n < ls.length))) ((m2_ok (a := D.int ls.length) (b := D.int n) ((m1_ok (a := D.lst (ls.map nm)) rfl).trans ?_) rfl).trans ?_)).trans rfl
  · show R.ok (D.int ((ls.map nm).length : Nat)) = _
    rw [List.length_map]
  · have e : decide ((n : Int) < (ls.length : Int)) = decide (n < ls.length) := by
      rw [decide_eq_decide]
      omega
    rw [← e]
    rfl
theorem lot_heads_big (ls : List Nat) (g : D) (h : 4 < ls.length) : fnS 6 b_lot_heads [.lst (ls.map nm), g] = .er ⟨"TooMany", "limit", .int 4⟩ := by
  have ht := lh_test (n := 4) (e1 := .val g) (e2 := .no) (e3 := .no) (e4 := .no) (e5 := .no) ls
  rw [decide_eq_true h] at ht
  exact fnS_er (mSeq_er ((mIf_tt ht).trans ((sB_ok (a := D.int 4) rfl).trans (if_pos (by decide)))))
theorem lot_heads_ok (b : Bool) {ls : List Nat} {rows : List (List Nat)} (h4 : ls.length ≤ 4) (hn : ls.Nodup) (hr : ∀ l ∈ ls, 65 ≤ l ∧ l ≤ 90) (hz : rows.length ≤ 60) (hrow : ∀ r ∈ rows, r.length ≤ 100 ∧ ∀ c ∈ r, 65 ≤ c ∧ c ≤ 90) :
    fnS 6 b_lot_heads [.lst (ls.map nm), given b (rows.map tupN)] = .ok (true, .dic false (dicN (wW rows) (rising ls))) := by
  have ht := lh_test (n := 4) (e1 := .val (given b (rows.map tupN))) (e2 := .no) (e3 := .no) (e4 := .no) (e5 := .no) ls
  rw [decide_eq_false (by omega)] at ht
  have sl : (rising ls).length ≤ 4 := by rw [(rising_perm hn hr).length_eq]; exact h4
  let E : List (D × D) → Slot → HEnv := fun g s3 => [.val (.lst (ls.map nm)), .val (given b (rows.map tupN)), .own (.dic false g), s3, .no, .no]
  have src : (m1 itemsD (m1 sortD (mComp [4] (m1 itemsD (mOwn 0)) (gN 4) mYes (m1 strD (mOwn 4))))) (E [] .no) = .ok ((rising ls).map nm) := by
    refine (m1_ok (a := D.lst ((sortS (ls.map fun c => tx [c])).map D.str)) ?_).trans ?_
    · refine (m1_ok (a := D.lst ((ls.map fun c => tx [c]).map D.str)) ?_).trans ?_
      · refine mComp_ok (ds := ls.map nm) rfl ?_
        rw [List.map_map]
        exact compL_map (f := nm) (h := D.str ∘ fun c => tx [c]) fun c _ => rfl
      · show (match strsD ((ls.map fun c => tx [c]).map D.str) with | some xs => if xs.length < 64 then R.ok (D.lst ((sortS xs).map D.str)) else R.stuck | none => R.stuck) = _
        rw [strsD_map]
        exact if_pos (by rw [List.length_map]; omega)
    · rw [rising_sort hn hr, ← nm_map]
      rfl
  have el : ∀ (g : List (D × D)) (c : Nat), m1 tupleD (m1 sortSetD (mComp [5] (m1 itemsD (mOwn 1)) (gN 5) (m1 truB (m2 (inN false) (mOwn 3) (mOwn 5))) (m1 (onStr lowerS) (mStr1 joinS (mC (.str "")) (mOwn 5))))) (E g (.val (nm c))) = .ok (wW rows c) := fun g c => by
    refine (m1_ok (a := D.lst ((wordsOf rows c).map D.str)) ?_).trans rfl
    refine (m1_ok (a := D.lst (((rows.filter fun r => decide (c ∈ r)).map wordN).map D.str)) ?_).trans ?_
    · refine mComp_ok (ds := rows.map tupN) ((m1_ok (a := given b (rows.map tupN)) rfl).trans (items_given b _)) ?_
      rw [List.map_map]
      refine compL_filter (f := tupN) (h := D.str ∘ wordN) (p := fun r => decide (c ∈ r)) (fun r hr' => ?_) fun r hr' _ => ?_
      · exact (m1_ok (a := D.bl (decide (c ∈ r))) ((m2_ok (a := nm c) (b := tupN r) rfl rfl).trans (in_tup c r))).trans rfl
      · exact word_ok (hrow r hr').1 (hrow r hr').2 rfl
    · show (match strsD (((rows.filter fun r => decide (c ∈ r)).map wordN).map D.str) with | some xs => if xs.length < 64 then R.ok (D.lst ((sortS (ddS xs)).map D.str)) else R.stuck | none => R.stuck) = _
      rw [strsD_map]
      refine if_pos ?_
      rw [List.length_map]
      exact Nat.lt_of_le_of_lt (List.length_filter_le _ _) (by omega)
  obtain ⟨e, h1, s3, h2⟩ := forL_ind (g := gN 3) (b := mPutD 2 (mVar 3) (m1 tupleD (m1 sortSetD (mComp [5] (m1 itemsD (mOwn 1)) (gN 5) (m1 truB (m2 (inN false) (mOwn 3) (mOwn 5))) (m1 (onStr lowerS) (mStr1 joinS (mC (.str "")) (mOwn 5))))))) (fun j env => ∃ s3, env = E (dicN (wW rows) ((rising ls).take j)) s3)
    (ds := (rising ls).map nm) (j := 0) (env := E [] .no) ⟨_, rfl⟩ fun i d env hd ⟨s3, e⟩ => by
      rw [List.getElem?_map] at hd
      cases hl : (rising ls)[i]? with
      | none => rw [hl] at hd; cases hd
      | some c =>
        rw [hl] at hd
        cases hd
        rw [Nat.zero_add] at e ⊢
        subst e
        have hi := (List.getElem?_eq_some_iff.mp hl).1
        refine ⟨_, _, rfl, .inl (put_ok (k := nm c) (v := wW rows c) rfl rfl (el _ c) rfl (by rw [dicN_len, List.length_take]; omega)), .val (nm c), ?_⟩
        rw [putD_new (take_mem (rising_nodup ls) hl), List.take_add_one, hl]
        rfl
  refine fnS_rt ((mSeq_nx ((mIf_ff ht).trans rfl)).trans ((mSeq_nx (mSetN_ok (d := .dic false []) rfl)).trans ((mSeq_nx ((mFor_ok src).trans h1)).trans ?_)))
  rw [h2, List.length_map, Nat.zero_add, List.take_length]
  rfl
end HL

/-! Plain law: present, of a dict lent or passed; the lots that the standard columns have. -/
namespace HL
open PySem L2
theorem present_ok2 {fh : List Ag → R (Bool × D)} {fo : List D → R (Bool × D)} {a : Ag} {dd : D} (ha : a = .b dd ∨ a = .v dd) {S : List Nat} {hs : Nat → List Str} (hS : S.length ≤ 26) (hh : ∀ c, (hs c).length ≤ 24) (hf : fh [a] = .ok (true, .dic false (dicN (fun c => .tup ((hs c).map D.str)) S))) :
    fnSA 6 (b_present fh fo) [a] = fo [.lst ((lotsH S hs).map tupN)] := by
  have hlen : (S.flatMap hs).length ≤ 1000 := Nat.le_trans (flat_len (k := 24) fun x _ => hh x) (by omega)
  have e1 : ∀ r : HEnv, aCall fh (gConsB 0 gNil) (a.slot :: r) = .ok (.dic false (dicN (fun c => .tup ((hs c).map D.str)) S)) := fun r => by
    have e0 : gConsB 0 gNil (a.slot :: r) = .ok [a] := by rcases ha with rfl | rfl <;> rfl
    show ((gConsB 0 gNil (a.slot :: r)).bind fun ds => (fh ds).bind fun r => .ok r.2) = _
    rw [e0, R.bind_ok, hf]
    rfl
  have e2 : mLock 1 (mComp2 [3, 4] (m1 keysL (mOwn 1)) (gN 3) mYes (m1 itemsD (m2 ixD (mOwn 1) (mOwn 3))) [4] (gN 4) mYes (mVar 4)) [a.slot, .val (.dic false (dicN (fun c => .tup ((hs c).map D.str)) S)), .no, .no, .no, .no] = .ok (.lst ((S.flatMap hs).map D.str)) := by
    refine mLock_ok (ks := dicN (fun c => .tup ((hs c).map D.str)) S) rfl (mComp2_ok (ds := S.map nm) ((m1_ok (a := D.dic false (dicN (fun c => .tup ((hs c).map D.str)) S)) rfl).trans (keysL_dicN (by omega))) (comp2L_dep (fi := D.str) (h := D.str) (ys := hs) (fun c hc => ?_) (fun c hc y hy => rfl)) (by rw [List.length_map]; omega))
    exact (m1_ok ((m2_ok (a := D.dic false (dicN (fun c => .tup ((hs c).map D.str)) S)) (b := nm c) rfl rfl).trans (ix_dicN _ hc))).trans rfl
  have e3 : mComp [4] (m1 itemsD (mOwn 2)) (gN 4) mYes (m1 tupleD (mLock 1 (mComp [5] (m1 keysL (mOwn 1)) (gN 5) (m1 truB (m2 (inN false) (mOwn 4) (m2 ixD (mOwn 1) (mOwn 5)))) (mVar 5)))) [a.slot, .val (.dic false (dicN (fun c => .tup ((hs c).map D.str)) S)), .val (.lst ((S.flatMap hs).map D.str)), .no, .no, .no] = .ok (.lst ((lotsH S hs).map tupN)) := by
    unfold lotsH
    rw [List.map_map]
    refine mComp_ok (ds := (S.flatMap hs).map D.str) rfl (compL_map (f := D.str) fun col hcol => ?_)
    refine (m1_ok (mLock_ok (ks := dicN (fun c => .tup ((hs c).map D.str)) S) rfl (mComp_ok (ds := S.map nm) ((m1_ok (a := D.dic false (dicN (fun c => .tup ((hs c).map D.str)) S)) rfl).trans (keysL_dicN (by omega))) (compL_filter (p := fun c => decide (col ∈ hs c)) (h := nm) (fun c hc => ?_) (fun c hc _ => rfl))))).trans rfl
    refine (m1_ok (a := D.bl (decide (col ∈ hs c))) ((m2_ok (a := D.str col) (b := D.tup ((hs c).map D.str)) rfl ((m2_ok (a := D.dic false (dicN (fun c => .tup ((hs c).map D.str)) S)) (b := nm c) rfl rfl).trans (ix_dicN _ hc))).trans (in_given true col (hs c)))).trans rfl
  have body : b_present fh fo [a.slot, .no, .no, .no, .no, .no] = (match fo [.lst ((lotsH S hs).map tupN)] with
      | .ok r => .rt r.1 r.2
      | .er x => .er x [a.slot, .val (.dic false (dicN (fun c => .tup ((hs c).map D.str)) S)), .val (.lst ((S.flatMap hs).map D.str)), .no, .no, .no]
      | .stuck => .stuck) := by
    refine (mSeq_nx (mSet_ok (e1 _))).trans ((mSeq_nx (mSet_ok e2)).trans ?_)
    show sB (mCallX fo _) _ _ = _
    unfold sB
    simp only [List.set_cons_succ, List.set_cons_zero]
    rw [mCallX_ok (mCons_ok e3 rfl) rfl]
    cases fo [.lst ((lotsH S hs).map tupN)] <;> rfl
  unfold fnSA
  rw [show ([a].map Ag.slot ++ List.replicate (6 - [a].length) Slot.no) = [a.slot, .no, .no, .no, .no, .no] from rfl, body]
  cases fo [.lst ((lotsH S hs).map tupN)] with
  | ok r => rfl
  | er x => rfl
  | stuck => rfl

theorem ni_strs (x : Str) (ys : List Str) : inN true (.str x) (.lst (ys.map D.str)) = .ok (.bl (!decide (x ∈ ys))) := by
  show (if sim (.str x) = true ∧ simpL? 50 (ys.map D.str) = true then R.ok (inL (.str x) (ys.map D.str)) else R.stuck).bind (fun b => R.ok (D.bl (if true = true then !b else b))) = _
  rw [if_pos ⟨rfl, simpL_strs ys⟩, inL_strs]
  rfl
theorem filter_sub : ∀ {S r : List Nat}, S.Nodup → r.Sublist S → S.filter (fun c => decide (c ∈ r)) = r
  | _, _, _, .slnil => rfl
  | c :: S, r, hn, .cons _ h => by
    have hn' := List.nodup_cons.mp hn
    have : c ∉ r := fun m => hn'.1 (h.subset m)
    rw [List.filter_cons_of_neg (by simpa using this), filter_sub hn'.2 h]
  | c :: S, _ :: r, hn, .cons₂ _ h => by
    have hn' := List.nodup_cons.mp hn
    rw [List.filter_cons_of_pos (by simp)]
    congr 1
    refine Eq.trans (List.filter_congr fun x hx => ?_) (filter_sub hn'.2 h)
    rw [decide_eq_decide, List.mem_cons]
    exact ⟨fun k => k.elim (fun e => absurd (e ▸ hx) hn'.1) id, .inr⟩
theorem lotM_sub (S : List Nat) (mask : Int) : (lotM S mask).Sublist S := by
  unfold lotM
  have := (List.filter_sublist (p := bit mask) (l := List.range S.length)).map fun i => S.getD i 0
  rw [range_getD] at this
  exact this
theorem mem_wordsOf {rows : List (List Nat)} {c : Nat} {x : Str} : x ∈ wordsOf rows c ↔ ∃ r ∈ rows, c ∈ r ∧ wordN r = x := by
  unfold wordsOf
  rw [mem_sdS, List.mem_map]
  constructor
  · rintro ⟨r, h, e⟩
    obtain ⟨a, b⟩ := List.mem_filter.mp h
    exact ⟨r, a, of_decide_eq_true b, e⟩
  · rintro ⟨r, a, b, e⟩
    exact ⟨r, List.mem_filter.mpr ⟨a, decide_eq_true b⟩, e⟩
theorem mem_lotsW {S : List Nat} {rows : List (List Nat)} (hS : S.Nodup) (hr : ∀ r ∈ rows, r ≠ [] ∧ r.Sublist S) (r : List Nat) : r ∈ lotsH S (wordsOf rows) ↔ r ∈ rows := by
  have row : ∀ q ∈ rows, (S.filter fun c => decide (wordN q ∈ wordsOf rows c)) = q := fun q hq => by
    refine Eq.trans (List.filter_congr fun c _ => ?_) (filter_sub hS (hr q hq).2)
    rw [decide_eq_decide, mem_wordsOf]
    constructor
    · rintro ⟨r', _, h, e⟩
      rw [← wordN_inj e]
      exact h
    · exact fun h => ⟨q, hq, h, rfl⟩
  unfold lotsH
  rw [List.mem_map]
  constructor
  · rintro ⟨col, h1, rfl⟩
    obtain ⟨c, hc, hcol⟩ := List.mem_flatMap.mp h1
    obtain ⟨q, hq, _, rfl⟩ := mem_wordsOf.mp hcol
    rw [row q hq]
    exact hq
  · intro hq
    obtain ⟨c, hc⟩ := List.exists_mem_of_ne_nil _ (hr r hq).1
    exact ⟨wordN r, List.mem_flatMap.mpr ⟨c, (hr r hq).2.subset hc, mem_wordsOf.mpr ⟨r, hq, hc, rfl⟩⟩, row r hq⟩
end HL

/-! Except clauses with other suites: a list with the field; the kinds of an error. -/
namespace HL
open PySem PySem.Spec PyProof.Rows L2
section
variable {cl : Cl} {X : Cx} {W : WX}
/-- an expression for its doing alone -/
def mDo (m : HEnv → R D) : HEnv → SO := sB m fun _ env => .nx env
theorem ds_do {e : Expr} {m : HEnv → R D} {pos : Pos} (he : PE X e (tF cl W m)) (hs : swapsWith e none pos.line X.env = pure false := by rfl) : PS X (.Expr e pos) (tS cl W (mDo m)) :=
  ps_weak (ps_expr he hs) fun Dn σ H q => stB (k := fun _ env => .nx env) q fun d v F0 H0 F env Hs H1 s0 F1 kp s r p => p σ F1 H1 (Ext.refl F1) s
/-! ### any suite -/
structure Clg where
  cls : Str
  k : Nat
  f : Er → Option (Bool × D)
def outO : Option (Bool × D) → SO
  | some (o, d) => .rt o d
  | none => .stuck
def hOutG : List Clg → Er → HEnv → SO
  | [], x, e => .er x e
  | q :: r, x, e => if errNames.contains x.cls = true ∧ x.cls ≠ "HeadlessError" then (if (q.cls == "HeadlessError" || x.cls == q.cls) = true then (if q.k < e.length then outO (q.f x) else .stuck) else hOutG r x e) else .stuck
def mTryG (i : Nat) (b : HEnv → SO) (hds : List Clg) : HEnv → SO := fun env => match b env with
  | .er x e => match e[i]? with
    | some .no => hOutG hds x e
    | _ => .stuck
  | .nx e => .nx e
  | .rt o d => .rt o d
  | .bk e => .bk e
  | .ct e => .ct e
  | .stuck => .stuck
/-- the suite's reading -/
def tSuite (cl : Cl) (W : WX) (Pc : Addr → Prop) (f : Er → Option (Bool × D)) (i k : Nat) : Addr → Value → Option Addr → TS := fun a cls d Dn σ H => ∃ (F0 : Bs) (H0 F : Hp) (env : HEnv) (x : Er) (C dd : Addr) (v : V), σ[i]? = some (some (.ref a)) ∧ k < σ.length ∧ HSt cl F0 H0 F env σ H ∧
  cls = .ref C ∧ cl x.cls = some C ∧ Pc C ∧ x.cls ∈ errNames ∧ x.cls ≠ "HeadlessError" ∧ d = some dd ∧ H dd = some (.xd [(x.fld, v)]) ∧ Rep cl F x.arg v ∧ PostS cl W Dn F0 H0 F (outO (f x))
inductive ClgOk (cl : Cl) (X : Cx) (W : WX) (n : Str) (i : Nat) : List ExceptHandler → List Clg → List Clause → Prop
  | nil : ClgOk cl X W n i [] [] []
  | cons {x : Str} {C : Addr} {Pc : Addr → Prop} {k : Nat} {f : Er → Option (Bool × D)} {st : Stmt} {sts : List Stmt} {np ps : Pos} {hds : List ExceptHandler} {l : List Clg} {q : List Clause} (hc : Names X x (.ref C))
      (hex : ∀ c ∈ errNames, c ≠ "HeadlessError" → ∀ C', cl c = some C' → PySem.W.exmOne X.K (.ref C') (.ref C) = some (x == "HeadlessError" || c == x)) (hp : ∀ c C', cl c = some C' → (x == "HeadlessError" || c == x) = true → Pc C')
      (hsu : ∀ (a : Addr) (oe : Obj) (cls : Value) (d : Option Addr) (pn : List (Addr × Obj)), Zc cls d oe → (∃ vs, oe.data = .fields vs) → PSs (X.suite a ((a, oe) :: pn)) (st :: sts) (tSuite cl W Pc f i k a cls d)) (r : ClgOk cl X W n i hds l q) :
      ClgOk cl X W n i (.ExceptHandler (some (.Name x np)) (some n) (st :: sts) ps :: hds) (⟨x, k, f⟩ :: l) ((.ref C, tSuite cl W Pc f i k) :: q)
theorem ClgOk.ok {n : Str} {i : Nat} {hds : List ExceptHandler} {l : List Clg} {q : List Clause} (h : ClgOk cl X W n i hds l q) : ClausesOk X n hds q := by
  induction h with
  | nil => exact .nil
  | cons hc hex hp hsu r ih => exact .cons hc hsu ih
/-- a slot without a thing takes the exception -/
theorem HSt.hold {F0 : Bs} {H0 F H : Hp} {env : HEnv} {σ : L2.St} (s : HSt cl F0 H0 F env σ H) {i : Nat} (hi : env[i]? = some .no) (v : Option V) : HSt cl F0 H0 F env (σ.set i v) H := by
  have ne : ∀ (j : Nat) (z : Slot), env[j]? = some z → z ≠ .no → i ≠ j := fun j z h k e => by
    subst e
    rw [hi] at h
    exact k (Option.some.inj h).symm
  have neo : ∀ (j : Nat) (d : D), env[j]?.bind oL = some d → i ≠ j := fun j d h e => by
    subst e
    rw [hi] at h
    cases h
  refine ⟨by rw [List.length_set]; exact s.len, s.sub, s.kp, fun j d h => ?_, fun j d h => ?_, fun j d h => ?_, fun j d h => ?_, fun j k e g p h1 h2 h3 h4 => ?_⟩
  · rw [List.getElem?_set_ne (ne j _ h (fun z => nomatch z))]
    exact s.val j d h
  · rw [List.getElem?_set_ne (neo j d h)]
    exact s.own j d h
  · rw [List.getElem?_set_ne (ne j _ h (fun z => nomatch z))]
    exact s.lnt j d h
  · rw [List.getElem?_set_ne (ne j _ h (fun z => nomatch z))]
    exact s.bor j d h
  · rw [List.getElem?_set_ne (neo j e h1)] at h3
    rw [List.getElem?_set_ne (neo k g h2)] at h4
    exact s.dis j k e g p h1 h2 h3 h4
theorem ClgOk.all {n : Str} {i : Nat} {hds : List ExceptHandler} {l : List Clg} {q : List Clause} (h : ClgOk cl X W n i hds l q) {Dn : Ends} {F0 : Bs} {H0 F : Hp} {e : HEnv} {σ : L2.St} {H : Hp} {x : Er} {cls : Value} {dd : Option Addr} (hi : e[i]? = some .no) (s : HSt cl F0 H0 F e σ H) (r : ERep cl H x cls dd)
    (p : PostS cl W Dn F0 H0 F (hOutG l x e)) : wAll X.K i W Dn q cls dd σ H := by
  induction h with
  | nil => exact p cls dd σ F H (Ext.refl F) s r
  | cons hc hex hp hsu rr ih =>
    rename_i c C Pc k f st sts np ps hds l q
    unfold hOutG at p
    split at p
    case isFalse => exact p.elim
    rename_i h1
    obtain ⟨C', dx, v, e1, e2, e3, e4, e5⟩ := id r
    subst e1
    refine ⟨(c == "HeadlessError" || x.cls == c), hex _ (by simpa using h1.1) h1.2 _ e2, ?_⟩
    by_cases hb : (c == "HeadlessError" || x.cls == c) = true
    · rw [if_pos hb] at p ⊢
      intro a ha
      split at p
      case isFalse => exact p.elim
      rename_i hk
      have li : i < σ.length := by
        rw [s.len]
        exact (List.getElem?_eq_some_iff.mp hi).1
      refine ⟨F0, H0, F, e, x, C', dx, v, List.getElem?_set_self li, by rw [List.length_set, s.len]; exact hk, s.hold hi _, rfl, e2, hp _ _ e2 hb, by simpa using h1.1, h1.2, e3, e4, e5.ext (fun p u z => by cases z), ?_⟩
      replace p : PostS cl W Dn F0 H0 F (outO (f x)) := p
      show PostS cl W (goneE i Dn) F0 H0 F (outO (f x))
      cases hf : f x with
      | none =>
        rw [hf] at p
        exact p.elim
      | some od =>
        obtain ⟨o, d⟩ := od
        rw [hf] at p
        exact p
    · rw [if_neg hb] at p ⊢
      exact ih p
theorem ds_tryG {n : Str} {i : Nat} {pos : Pos} {body : List Stmt} {h₀ : ExceptHandler} {hds : List ExceptHandler} {l : List Clg} {q : List Clause} {b : HEnv → SO} (hs : X.stack = X.env :: X.outer) (hf : X.env.frame = some X.env.locals) (hN : X.N.Nodup) (hi : X.N[i]? = some n) (hln : X.env.kindOf n = some .local) (tk : Takes X W)
    (hb : ∀ (W : WX) (pn : List (Addr × Obj)) (xe : Value → Shared → Prop), Takes (X.tr pn xe) W → PassesOwn (model X.prog X.w) X.A X.env xe → PSs (X.tr pn xe) body (tS cl W b)) (hh : ClgOk cl X W n i (h₀ :: hds) l q) :
    PS X (.Try body (h₀ :: hds) [] [] pos) (tS cl W (mTryG i b l)) := by
  have base := ps_try_all (pos := pos) (tb := fun W => tS cl W b) hs hf hN hi hln tk hb hh.ok
  refine ⟨fun pins s σ H Dn I q => base.run pins s σ H Dn I ?_⟩
  obtain ⟨F0, H0, F, env, st, q⟩ := q
  refine ⟨F0, H0, F, env, st, ?_⟩
  unfold mTryG at q
  cases eb : b env with
  | er x e =>
    rw [eb] at q
    simp only at q
    split at q
    case h_2 => exact q.elim
    rename_i hi
    intro cls dd σ' F' H' k s' r
    exact hh.all hi s' r (q.ext k)
  | nx e => rw [eb] at q; exact q
  | rt o d => rw [eb] at q; exact q
  | bk e => rw [eb] at q; exact q
  | ct e => rw [eb] at q; exact q
  | stuck => rw [eb] at q; exact q.elim
end
/-! ### return [k, e.f] -/
def keptF (fld : Str) (k : Int) (x : Er) : Option (Bool × D) := if x.fld = fld then some (true, .lst [.int k, x.arg]) else none
section
variable {cl : Cl} {X : Cx} {W : WX} {a : Addr} {oe : Obj} {cls : Value} {d : Option Addr} {pn : List (Addr × Obj)}
theorem suite_kept {i : Nat} {C : Addr} {fld : Str} {k : Int} {en1 : Expr} {j : Nat} {ps p1 p2 p6 : Pos} (T : L2.XfC X.K C) (hno : PySem.W.findIn X.K (.ref C) fld = some none) (hz : Zc cls d oe) (hf : ∃ vs, oe.data = .fields vs)
    (h1 : PE (X.suite a ((a, oe) :: pn)) en1 (tVar i)) (hb : attributeBase en1 fld X.env (eval en1 X.env) = eval en1 X.env := by rfl)
    (hs1 : starEach [.Constant (.int k) j p1, .Attribute en1 fld p2] X.env = (false, eval (.Constant (.int k) j p1) X.env) :: starEach [.Attribute en1 fld p2] X.env := by rfl)
    (hs2 : starEach [.Attribute en1 fld p2] X.env = (false, eval (.Attribute en1 fld p2) X.env) :: starEach [] X.env := by rfl) :
    PSs (X.suite a ((a, oe) :: pn)) [.Return (some (.List [.Constant (.int k) j p1, .Attribute en1 fld p2] p6)) ps] (tSuite cl W (· = C) (keptF fld k) i 0 a cls d) := by
  refine pss_weak (pss_one (ps_ret (pe_lst (pa_cons pe_int (pa_cons (pe_xf T hno hz hf h1 hb) pa_nil hs2) hs1)))) fun Dn σ H q => ?_
  obtain ⟨F0, H0, F, env, x, C', dd, v, hi, _, st, rfl, hcl, rfl, hm, hne, rfl, hd, r, p⟩ := q
  unfold keptF at p
  split at p
  case isFalse => exact p.elim
  rename_i hfld
  refine ⟨.ref a, hi, rfl, rfl, dd, _, v, rfl, hd, by rw [hfld]; simp [List.lookup], ?_⟩
  refine ⟨by show 2 ≤ sizeLine; rw [sizeLine_eq]; omega, fun p' hp' => ?_⟩
  have fp := sub_none st.sub hp'
  refine p _ F _ (st.kp.trans (kp_new hp')) (sub_upd st.sub fp) ?_
  unfold RetR
  rw [if_pos rfl]
  refine ⟨p', rfl, st.kp.same.free hp', fp, .lst [.int k, v], upd_same, ⟨_, rfl, ?_, by show 2 ≤ sizeLine; rw [sizeLine_eq]; omega⟩, rfl⟩
  simp only [RepL, Rep]
  exact ⟨_, _, rfl, rfl, _, _, rfl, r, rfl⟩
/-! ### isinstance(e, c) -/
def rIs1 (K : PySem.W.Frag) (a : Addr) (cls : Value) (d : Option Addr) (cv : Value) : List V → Hp → VK → Prop := fun xs H Q => ∃ (c : V) (b : Bool) (dd : Addr) (fs : List (Str × V)) (C : Addr),
  xs = [.ref a, c] ∧ (∀ u, RelV c u → u = cv) ∧ cls = .ref C ∧ d = some dd ∧ H dd = some (.xd fs) ∧ PySem.W.kitOne K (.ref C) cv = some b ∧ L2.XfC K C ∧ XkC K C ∧ Q (.bl b) H
theorem call_is1 {cv : Value} (hz : Zc cls d oe) (hf : ∃ vs, oe.data = .fields vs) : CallR (X.suite a ((a, oe) :: pn)) (.builtin "isinstance") (rIs1 X.K a cls d cv) := by
  intro pins s σ H xs us Q I r h
  obtain ⟨c, b, dd, fs, C, rfl, hcv, ec, ed, hd, hk, T, T2, q⟩ := h
  subst ec
  subst ed
  obtain ⟨u1, u2, rfl, r1, r2⟩ := vals2 r
  cases (show u1 = Value.ref a from r1)
  cases (hcv u2 r2)
  obtain ⟨ha, _⟩ := I.pin (a, oe) (List.mem_append_left _ List.mem_cons_self)
  obtain ⟨vs, hdat⟩ := hf
  have hx : ObjOk X.prog X.w H s.heap dd (.xd fs) := I.hok dd _ hd
  obtain ⟨mA, hns, hr⟩ := hx
  obtain ⟨od, ho, hl⟩ := lookIn_ns hns
  have J : PySem.W.InstAt s.heap a oe C (some od) := ⟨ha, hz.1, by unfold PySem.W.notCls; rw [hdat] <;> rfl, by rw [hz.2]; exact ho⟩
  exact PySem.W.kia_one (PySem.W.kitx_exc T2.hcl T.ga T.gg T.exC T2.ha T2.hn T2.htk T2.hm) I.kIn J hk (fun z => nomatch z) fun tk => ⟨.bl b, H, I.tok tk, rfl, q⟩
/-- questions isinstance(e, ..), one beside the other -/
inductive IsEs (X : Cx) (a : Addr) (oe : Obj) (pn : List (Addr × Obj)) (i : Nat) : List Expr → List Value → Prop where
  | nil : IsEs X a oe pn i [] []
  | cons {en ce : Expr} {c : V} {cv : Value} {p p5 : Pos} {es : List Expr} {cvs : List Value} (he : PE (X.suite a ((a, oe) :: pn)) en (tVar i)) (hc : PE (X.suite a ((a, oe) :: pn)) ce (tC c)) (hv : ∀ u, RelV c u → u = cv)
      (h1 : starEach (.Call (.Name "isinstance" p) [en, ce] [] p5 :: es) X.env = (false, eval (.Call (.Name "isinstance" p) [en, ce] [] p5) X.env) :: starEach es X.env) (h2 : starEach [en, ce] X.env = (false, eval en X.env) :: starEach [ce] X.env)
      (h3 : starEach [ce] X.env = (false, eval ce X.env) :: starEach [] X.env) (h4 : (backTo p5 (starEach [ce] X.env)).any (·.1) = false) (r : IsEs X a oe pn i es cvs) : IsEs X a oe pn i (.Call (.Name "isinstance" p) [en, ce] [] p5 :: es) (cv :: cvs)
/-- what the questions ask of the state -/
def FitE (K : PySem.W.Frag) (a : Addr) (cls : Value) (d : Option Addr) (i : Nat) (C dd : Addr) (fs : List (Str × V)) (σ : L2.St) (H : Hp) : Prop := σ[i]? = some (some (.ref a)) ∧ cls = .ref C ∧ d = some dd ∧ H dd = some (.xd fs) ∧ L2.XfC K C ∧ XkC K C
theorem IsEs.pa {i : Nat} {es : List Expr} {cvs : List Value} (h : IsEs X a oe pn i es cvs) (hg : Gl X "isinstance") (hm : X.mg "isinstance" = none) (hz : Zc cls d oe) (hf : ∃ vs, oe.data = .fields vs) :
    PA (X.suite a ((a, oe) :: pn)) es (fun σ H Q => ∃ C dd fs, FitE X.K a cls d i C dd fs σ H ∧ ∃ bs : List Bool, cvs.map (PySem.W.kitOne X.K (.ref C)) = bs.map some ∧ Q (bs.map V.bl) H) := by
  induction h with
  | nil =>
    refine pa_weak pa_nil fun σ H Q ⟨C, dd, fs, f, bs, hb, q⟩ => ?_
    cases bs with
    | nil => exact q
    | cons b bs => cases hb
  | cons he hc hv h1 h2 h3 h4 r ih =>
    rename_i en ce c cv p p5 es cvs
    refine pa_weak (pa_cons (pe_callB (call_is1 (cv := cv) hz hf) hg hm boot_isi (pa_cons he (pa_cons hc pa_nil h3) h2) (by decide) (by decide) h2 h4) ih h1) fun σ H Q ⟨C, dd, fs, f, bs, hb, q⟩ => ?_
    obtain ⟨hi, ec, ed, hd, T, T2⟩ := id f
    cases bs with
    | nil => cases hb
    | cons b bs =>
      simp only [List.map_cons, List.cons.injEq] at hb
      refine ⟨.ref a, hi, c, b, dd, fs, C, rfl, hv, ec, ed, hd, hb.1, T, T2, C, dd, fs, f, bs, hb.2, q⟩
/-- flags = [..]; flags = flags + [..]; return flags + [..] -/
def kindsF (order : List Str) (x : Er) : Option (Bool × D) := some (true, .lst ((order.map fun c => D.bl (x.cls == c)) ++ [.bl true]))
theorem rep_bls {F : Hp} : ∀ bs : List Bool, RepL cl F (bs.map D.bl) (bs.map V.bl)
  | [] => by simp only [List.map_nil, RepL]
  | b :: bs => by
    simp only [List.map_cons, RepL]
    exact ⟨_, _, rfl, by simp only [Rep], rep_bls bs⟩
theorem suite_kinds {i k : Nat} {y : Str} {e1 e2 e3 : List Expr} {v1 v2 v3 : List Value} {order : List Str} {r1 r2 : Expr} {q1 q2 q3 q4 q5 q6 q7 q8 q9 q10 : Pos} (E : ExF cl X.K)
    (hk : ∀ c ∈ errNames, c ≠ "HeadlessError" → ∀ C, cl c = some C → (v1 ++ v2 ++ v3).map (PySem.W.kitOne X.K (.ref C)) = ((order.map fun c' => c == c') ++ [true]).map some) (hl : decide ((v1 ++ v2 ++ v3).length ≤ 60) = true) (hg : Gl X "isinstance") (hm : X.mg "isinstance" = none) (hz : Zc cls d oe) (hf : ∃ vs, oe.data = .fields vs)
    (hN : X.N.Nodup) (hi : X.N[k]? = some y) (hx : Loc X.env.scope y) (hik : (i == k) = false) (s1 : IsEs X a oe pn i e1 v1) (s2 : IsEs X a oe pn i e2 v2) (s3 : IsEs X a oe pn i e3 v3)
    (n1 : PE (X.suite a ((a, oe) :: pn)) r1 (tVar k)) (n2 : PE (X.suite a ((a, oe) :: pn)) r2 (tVar k))
    (hs1 : swapsWith (.List e1 q1) (some (.Name y q2)) q3.line X.env = pure false := by rfl) (hs2 : swapsWith (.BinOp r1 .Add (.List e2 q4) q5) (some (.Name y q6)) q7.line X.env = pure false := by rfl)
    (hfn : X.fn y = true ∨ X.env.scope.names.lookup y = some .local := by first | exact .inl rfl | exact .inr rfl) :
    PSs (X.suite a ((a, oe) :: pn)) [.Assign [.Name y q2] (.List e1 q1) q3, .Assign [.Name y q6] (.BinOp r1 .Add (.List e2 q4) q5) q7, .Return (some (.BinOp r2 .Add (.List e3 q8) q9)) q10] (tSuite cl W (fun _ => True) (kindsF order) i k a cls d) := by
  refine pss_weak (pss_cons (ps_set hN hi hx (pe_lst (s1.pa hg hm hz hf)) hs1 hfn) (pss_cons (ps_set hN hi hx (pe_op op_catR n1 (pe_lst (s2.pa hg hm hz hf))) hs2 hfn) (pss_one (ps_ret (pe_op op_catR n2 (pe_lst (s3.pa hg hm hz hf))))))) fun Dn σ H q => ?_
  obtain ⟨F0, H0, F, env, x, C, dd, v, hi', kli, st, ec, hcl, _, hmem, hne, ed, hd, r, p⟩ := q
  obtain ⟨T, T2⟩ := E.xf _ hmem C hcl
  have hk' := hk _ hmem hne C hcl
  have hne' : i ≠ k := fun e => by rw [e, beq_self_eq_true] at hik; cases hik
  rw [decide_eq_true_eq] at hl
  simp only [List.map_append] at hk'
  -- the answers
  have split : ∀ (us ws : List Value) (bs : List Bool), us.map (PySem.W.kitOne X.K (.ref C)) ++ ws.map (PySem.W.kitOne X.K (.ref C)) = bs.map some → ∃ b1 b2, bs = b1 ++ b2 ∧ us.map (PySem.W.kitOne X.K (.ref C)) = b1.map some ∧ ws.map (PySem.W.kitOne X.K (.ref C)) = b2.map some := fun us ws bs h => by
    obtain ⟨b1, b2, e1, e2, e3⟩ := List.map_eq_append_iff.mp h.symm
    exact ⟨b1, b2, e1, e2.symm, e3.symm⟩
  obtain ⟨b12, b3, eb, h12, h3⟩ := split (v1 ++ v2) v3 ((order.map fun c' => x.cls == c') ++ [true]) (by rw [List.map_append, hk', List.map_append])
  obtain ⟨b1, b2, eb2, h1, h2⟩ := split v1 v2 b12 (by rw [← List.map_append]; exact h12)
  have l1 : b1.length = v1.length := by have := congrArg List.length h1; simpa using this.symm
  have l2 : b2.length = v2.length := by have := congrArg List.length h2; simpa using this.symm
  have l3 : b3.length = v3.length := by have := congrArg List.length h3; simpa using this.symm
  simp only [List.length_append] at hl
  have hz60 : ∀ n, n ≤ 60 → n ≤ sizeLine := fun n h => by rw [sizeLine_eq]; omega
  have f0 : FitE X.K a cls d i C dd [(x.fld, v)] σ H := ⟨hi', ec, ed, hd, T, T2⟩
  refine ⟨C, dd, _, f0, b1, h1, by rw [List.length_map]; exact hz60 _ (by omega), fun p1 hp1 => ?_⟩
  have fit1 : FitE X.K a cls d i C dd [(x.fld, v)] (σ.set k (some (.ref p1))) (upd H p1 (.lst (b1.map V.bl))) := ⟨by rw [List.getElem?_set_ne (Ne.symm hne')]; exact hi', ec, ed, by rw [upd_ne (ne_of_none hd hp1)]; exact hd, T, T2⟩
  refine ⟨.ref p1, List.getElem?_set_self kli, C, dd, _, fit1, b2, h2, by rw [List.length_map]; exact hz60 _ (by omega), fun p2 hp2 => ?_⟩
  have a1 : (upd (upd H p1 (.lst (b1.map V.bl))) p2 (.lst (b2.map V.bl))) p1 = some (.lst (b1.map V.bl)) := by
    rw [upd_ne (ne_of_none upd_same hp2)]
    exact upd_same
  refine ⟨p1, p2, b1.map V.bl, b2.map V.bl, rfl, rfl, .inl a1, .inl upd_same, by rw [List.length_map, List.length_map]; exact hz60 _ (by omega), fun p3 hp3 => ?_⟩
  have d2 : (upd (upd H p1 (.lst (b1.map V.bl))) p2 (.lst (b2.map V.bl))) dd = some (.xd [(x.fld, v)]) := by
    rw [upd_ne (ne_of_none (by rw [upd_ne (ne_of_none hd hp1)]; exact hd) hp2), upd_ne (ne_of_none hd hp1)]
    exact hd
  generalize hH2 : upd (upd H p1 (.lst (b1.map V.bl))) p2 (.lst (b2.map V.bl)) = H2 at hp3 d2 a1
  have fit3 : FitE X.K a cls d i C dd [(x.fld, v)] ((σ.set k (some (.ref p1))).set k (some (.ref p3))) (upd H2 p3 (.lst (b1.map V.bl ++ b2.map V.bl))) :=
    ⟨by rw [List.getElem?_set_ne (Ne.symm hne'), List.getElem?_set_ne (Ne.symm hne')]; exact hi', ec, ed, by rw [upd_ne (ne_of_none d2 hp3)]; exact d2, T, T2⟩
  refine ⟨.ref p3, List.getElem?_set_self (by rw [List.length_set]; exact kli), C, dd, _, fit3, b3, h3, by rw [List.length_map]; exact hz60 _ (by omega), fun p4 hp4 => ?_⟩
  have a3 : (upd (upd H2 p3 (.lst (b1.map V.bl ++ b2.map V.bl))) p4 (.lst (b3.map V.bl))) p3 = some (.lst (b1.map V.bl ++ b2.map V.bl)) := by
    rw [upd_ne (ne_of_none upd_same hp4)]
    exact upd_same
  refine ⟨p3, p4, _, b3.map V.bl, rfl, rfl, .inl a3, .inl upd_same, by rw [List.length_append, List.length_map, List.length_map, List.length_map]; exact hz60 _ (by omega), fun p5 hp5 => ?_⟩
  -- the end
  have x1 : Kp F0.1 H0 F (upd H p1 (.lst (b1.map V.bl))) := st.kp.trans (kp_new hp1)
  have x2 : Kp F0.1 H0 F H2 := by rw [← hH2]; exact x1.trans (kp_new hp2)
  have x3 := x2.trans (kp_new (F := F) (u := .lst (b1.map V.bl ++ b2.map V.bl)) hp3)
  have x4 := x3.trans (kp_new (F := F) (u := .lst (b3.map V.bl)) hp4)
  have x5 := x4.trans (kp_new (F := F) (u := .lst (b1.map V.bl ++ b2.map V.bl ++ b3.map V.bl)) hp5)
  have s1' : Sub F (upd H p1 (.lst (b1.map V.bl))) := sub_upd st.sub (sub_none st.sub hp1)
  have s2' : Sub F H2 := by rw [← hH2]; exact sub_upd s1' (sub_none s1' hp2)
  have s3' : Sub F (upd H2 p3 (.lst (b1.map V.bl ++ b2.map V.bl))) := sub_upd s2' (sub_none s2' hp3)
  have s4' : Sub F (upd (upd H2 p3 (.lst (b1.map V.bl ++ b2.map V.bl))) p4 (.lst (b3.map V.bl))) := sub_upd s3' (sub_none s3' hp4)
  have f5 := sub_none s4' hp5
  refine p _ F _ x5 (sub_upd s4' f5) ?_
  unfold RetR
  rw [if_pos rfl]
  refine ⟨p5, rfl, x4.same.free hp5, f5, _, upd_same, ⟨_, rfl, ?_, ?_⟩, rfl⟩
  · have e : (order.map fun c => D.bl (x.cls == c)) ++ [.bl true] = (b1 ++ b2 ++ b3).map D.bl := by
      rw [← eb2, ← eb, List.map_append, List.map_map]
      rfl
    rw [e, ← List.map_append, ← List.map_append]
    exact rep_bls _
  · have := congrArg List.length eb
    rw [eb2] at this
    simp only [List.length_append, List.length_map, List.length_singleton] at this ⊢
    exact hz60 _ (by omega)
end
end HL

/-! The clauses' facts: typed ones, and the base class. -/
namespace HL
open PySem PySem.Spec PyProof.Rows L2
structure BaseTab (cl : Cl) (K : PySem.W.Frag) (B : Addr) : Prop where
  exm : ∀ c C, cl c = some C → PySem.W.exmOne K (.ref C) (.ref B) = some true
  val : ∀ c C, cl c = some C → PySem.W.kitOne K (.ref C) (.type "ValueError") = some true
def baseB (K : PySem.W.Frag) (B : Addr) (l : List (Str × Addr)) : Bool := l.all fun p => decide (PySem.W.exmOne K (.ref p.2) (.ref B) = some true) && decide (PySem.W.kitOne K (.ref p.2) (.type "ValueError") = some true)
theorem baseTab_mk {K : PySem.W.Frag} {B : Addr} {l : List (Str × Addr)} (h : baseB K B l = true) : BaseTab (clOf l) K B := by
  unfold baseB at h
  simp only [List.all_eq_true, Bool.and_eq_true, decide_eq_true_eq] at h
  exact ⟨fun c C e => (h _ (lookup_mem e)).1, fun c C e => (h _ (lookup_mem e)).2⟩
theorem kinds_hk {cl : Cl} {K : PySem.W.Frag} {B : Addr} (T : ErrTab cl K) (b : BaseTab cl K B) {x : Str} {C : Addr} (hx : x ∈ errNames) (hne : x ≠ "HeadlessError") (hcl : cl x = some C) : ∀ {order : List Str} {Cs : List Addr}, (order.all fun c => errNames.contains c && c != "HeadlessError") = true → order.map cl = Cs.map some →
    (Cs.map Value.ref ++ [Value.type "ValueError"]).map (PySem.W.kitOne K (.ref C)) = ((order.map fun c' => x == c') ++ [true]).map some
  | [], [], _, _ => by
    simp only [List.map_nil, List.nil_append, List.map_cons]
    rw [b.val x C hcl]
  | [], _ :: _, _, h => by cases h
  | _ :: _, [], _, h => by cases h
  | c :: order, C' :: Cs, ha, h => by
    simp only [List.all_cons, Bool.and_eq_true] at ha
    simp only [List.map_cons, List.cons.injEq] at h
    have ih := kinds_hk T b hx hne hcl (order := order) (Cs := Cs) (by simpa using ha.2) h.2
    simp only [List.map_cons, List.cons_append]
    rw [ih, T.kit x hx c (by simpa using ha.1.1) C C' hcl h.1 hne (by simpa [bne] using ha.1.2)]
section
variable {cl : Cl} {X : Cx} {W : WX} {n : Str} {i k : Nat} {hds : List ExceptHandler} {l : List Clg} {q : List Clause} {st : Stmt} {sts : List Stmt} {np ps : Pos}
theorem clg_typed {x fld : Str} {C : Addr} {f : Er → Option (Bool × D)} (T : ErrTab cl X.K) (E : ErrAll X.prog X.K X.mg cl x fld) (hx : x ∈ errNames) (hne : x ≠ "HeadlessError") (hg : Gl X x) (hd : (x == ("__debug__" : Str)) = false) (hm : X.mg x = some (.ref C)) (hcl : cl x = some C)
    (hsu : ∀ (a : Addr) (oe : Obj) (cls : Value) (d : Option Addr) (pn : List (Addr × Obj)), Zc cls d oe → (∃ vs, oe.data = .fields vs) → L2.XfC X.K C → XkC X.K C → PySem.W.findIn X.K (.ref C) fld = some none → PSs (X.suite a ((a, oe) :: pn)) (st :: sts) (tSuite cl W (· = C) f i k a cls d))
    (r : ClgOk cl X W n i hds l q) : ClgOk cl X W n i (.ExceptHandler (some (.Name x np)) (some n) (st :: sts) ps :: hds) (⟨x, k, f⟩ :: l) ((.ref C, tSuite cl W (· = C) f i k) :: q) := by
  obtain ⟨C', fI, h1, h2, h3⟩ := E.ex
  rw [hcl] at h3
  cases h3
  have nb : (x == ("HeadlessError" : Str)) = false := by simpa using hne
  refine .cons ⟨hg, hd, .inl hm⟩ (fun c hc hcn C' e => ?_) (fun c C' e h => ?_) (fun a oe cls d pn hz hf => hsu a oe cls d pn hz hf h1.xf h2 h1.noN) r
  · rw [nb, Bool.false_or]
    exact T.ex.exm c hc x hx C' C e hcl hcn hne
  · rw [nb, Bool.false_or] at h
    rw [eq_of_beq h, hcl] at e
    exact (Option.some.inj e).symm
theorem clg_base {B : Addr} {f : Er → Option (Bool × D)} (b : BaseTab cl X.K B) (hg : Gl X "HeadlessError") (hm : X.mg "HeadlessError" = some (.ref B))
    (hsu : ∀ (a : Addr) (oe : Obj) (cls : Value) (d : Option Addr) (pn : List (Addr × Obj)), Zc cls d oe → (∃ vs, oe.data = .fields vs) → PSs (X.suite a ((a, oe) :: pn)) (st :: sts) (tSuite cl W (fun _ => True) f i k a cls d))
    (r : ClgOk cl X W n i hds l q) : ClgOk cl X W n i (.ExceptHandler (some (.Name "HeadlessError" np)) (some n) (st :: sts) ps :: hds) (⟨"HeadlessError", k, f⟩ :: l) ((.ref B, tSuite cl W (fun _ => True) f i k) :: q) := by
  refine .cons ⟨hg, by decide, .inl hm⟩ (fun c hc hcn C' e => ?_) (fun c C' e h => trivial) hsu r
  rw [b.exm c C' e]
  rfl
end
end HL

/-! Own classes: instances, their fields; how one is made. -/
namespace HL
open PySem PySem.Spec PyProof.Rows L2
/-! ### fields -/
/-- the fields that this program's classes have -/
def flds : List (Str × Str) := [("Table", "head"), ("Table", "rows"), ("Term", "tree"), ("Store", "kept"), ("View", "store"), ("View", "term"), ("Held", "store"), ("Held", "before")]
structure FldTab (cl : Cl) (K : PySem.W.Frag) : Prop where
  ok : ∀ c f C, flds.contains (c, f) = true → cl c = some C → Cls K C ∧ NoAttr K C f
def setFD (f : Str) (d : D) : List (Str × D) → List (Str × D)
  | [] => [(f, d)]
  | (g, x) :: r => if g = f then (g, d) :: r else (g, x) :: setFD f d r
section
variable {cl : Cl}
theorem RepF.put {F : Hp} {f : Str} {d : D} {v : V} (r : Rep cl F d v) : ∀ {fs : List (Str × D)} {gs : List (Str × V)}, RepF cl F fs gs → RepF cl F (setFD f d fs) (putF f v gs)
  | [], gs, h => by
    simp only [RepF] at h
    subst h
    simp only [setFD, putF, RepF]
    exact ⟨v, [], rfl, r, rfl⟩
  | (g, x) :: fs, gs, h => by
    simp only [RepF] at h
    obtain ⟨u, s, rfl, a, b⟩ := h
    simp only [setFD, putF]
    by_cases e : g = f
    · rw [if_pos e, if_pos e]
      simp only [RepF]
      exact ⟨v, s, rfl, r, b⟩
    · rw [if_neg e, if_neg e]
      simp only [RepF]
      exact ⟨u, _, rfl, a, RepF.put r b⟩
theorem RepF.look {F : Hp} {f : Str} {d : D} : ∀ {fs : List (Str × D)} {gs : List (Str × V)}, RepF cl F fs gs → fs.lookup f = some d → ∃ v, gs.lookup f = some v ∧ Rep cl F d v
  | [], gs, _, e => by cases e
  | (g, x) :: fs, gs, h, e => by
    simp only [RepF] at h
    obtain ⟨u, s, rfl, a, b⟩ := h
    rw [List.lookup_cons] at e ⊢
    cases q : (f == g) with
    | true =>
      rw [q] at e
      cases e
      exact ⟨u, rfl, a⟩
    | false =>
      rw [q] at e
      exact RepF.look b e
theorem RepF.none {F : Hp} {f : Str} : ∀ {fs : List (Str × D)} {gs : List (Str × V)}, RepF cl F fs gs → fs.lookup f = none → gs.lookup f = none
  | [], gs, h, _ => by
    simp only [RepF] at h
    subst h
    rfl
  | (g, x) :: fs, gs, h, e => by
    simp only [RepF] at h
    obtain ⟨u, s, rfl, a, b⟩ := h
    rw [List.lookup_cons] at e ⊢
    cases q : (f == g) with
    | true => rw [q] at e; cases e
    | false =>
      rw [q] at e
      exact RepF.none b e
theorem RepF.len {F : Hp} : ∀ {fs : List (Str × D)} {gs : List (Str × V)}, RepF cl F fs gs → gs.length = fs.length
  | [], gs, h => by
    simp only [RepF] at h
    subst h
    rfl
  | (g, x) :: fs, gs, h => by
    simp only [RepF] at h
    obtain ⟨u, s, rfl, a, b⟩ := h
    simp only [List.length_cons, RepF.len b]
def fldD (f : Str) : D → R D
  | .ins c fs => if flds.contains (c, f) = true then match fs.lookup f with
    | some d => .ok d
    | none => .stuck
    else .stuck
  | _ => .stuck
theorem fldD_ins (f c : Str) (fs : List (Str × D)) : fldD f (.ins c fs) = if flds.contains (c, f) = true then (match fs.lookup f with
    | some d => R.ok d
    | none => .stuck)
    else .stuck := rfl
section
variable {X : Cx} {W : WX} {e o : Expr} {pos pos' : Pos} {m : HEnv → R D} {f : Str}
theorem d_fld (T : FldTab cl X.K) (he : PE X e (tF cl W m)) (hb : attributeBase e f X.env (eval e X.env) = eval e X.env := by rfl) : PE X (.Attribute e f pos) (tF cl W (m1 (fldD f) m)) := by
  refine pe_weak (pe_fld he hb) fun σ H Q q => ?_
  refine read1 (rel := relF cl) (r := fun x H1 Q => ∃ a C dx fs v, x = .ref a ∧ H1 a = some (.ins C dx fs) ∧ Cls X.K C ∧ NoAttr X.K C f ∧ fs.lookup f = some v ∧ Q v H1) oldF (fun Hs F H d v Q σ s r p => ?_) q
  cases d with
  | ins c fs =>
    replace r : Rep cl F (.ins c fs) v := r
    simp only [Rep] at r
    obtain ⟨a, C, dx, gs, rfl, hF, hcl, rf⟩ := r
    rw [fldD_ins] at p
    split at p
    case isFalse => exact p.elim
    rename_i hc
    split at p
    case h_2 => exact p.elim
    rename_i d hd
    obtain ⟨v, lv, rv⟩ := rf.look hd
    obtain ⟨t1, t2⟩ := T.ok c f C hc hcl
    exact ⟨a, C, dx, gs, v, rfl, s.fix hF, t1, t2, lv, PostG.done p s rv⟩
  | _ => exact p.elim
/-- x.f, x a name -/
def mFldV (i : Nat) (f : Str) : HEnv → R D := fun env => match env[i]? with
  | some (.val d) => fldD f d
  | some (.own d) => fldD f d
  | some (.lent d) => fldD f d
  | _ => .stuck
theorem d_fldV {i : Nat} (T : FldTab cl X.K) (he : PE X e (tVar i)) (hb : attributeBase e f X.env (eval e X.env) = eval e X.env := by rfl) : PE X (.Attribute e f pos) (tF cl W (mFldV i f)) := by
  refine pe_weak (pe_fld he hb) fun σ H Q q => ?_
  obtain ⟨F0, H0, F, env, s, q⟩ := q
  have main : ∀ (d : D) (a : Addr) (C dx : Addr) (gs : List (Str × V)) (c : Str) (fs : List (Str × D)), d = .ins c fs → H a = some (.ins C dx gs) → cl c = some C → RepF cl F fs gs → PostG cl (relF cl) W (fldD f d) F σ H Q → ∃ C dx fs v, H a = some (.ins C dx fs) ∧ Cls X.K C ∧ NoAttr X.K C f ∧ fs.lookup f = some v ∧ Q v H := fun d a C dx gs c fs ed hH hcl rf p => by
    subst ed
    rw [fldD_ins] at p
    split at p
    case isFalse => exact p.elim
    rename_i hc
    split at p
    case h_2 => exact p.elim
    rename_i d hd
    obtain ⟨v, lv, rv⟩ := rf.look hd
    obtain ⟨t1, t2⟩ := T.ok c f C hc hcl
    exact ⟨C, dx, gs, v, hH, t1, t2, lv, PostG.done p s.sub rv⟩
  have own : ∀ d, env[i]?.bind oL = some d → PostG cl (relF cl) W (fldD f d) F σ H Q → ∃ v, σ[i]? = some (some v) ∧ ∃ a C dx fs w, v = .ref a ∧ H a = some (.ins C dx fs) ∧ Cls X.K C ∧ NoAttr X.K C f ∧ fs.lookup f = some w ∧ Q w H := fun d hd p => by
    obtain ⟨a, hp, hf, h0, u, hu, ob, mu⟩ := s.own i d hd
    cases d with
    | ins c fs =>
      obtain ⟨C, dx, gs, rfl, hcl, rf⟩ := ob
      obtain ⟨C', dx', fs', w, e1, e2, e3, e4, e5⟩ := main _ a C dx gs c fs rfl hu hcl rf p
      exact ⟨_, hp, a, C', dx', fs', w, rfl, e1, e2, e3, e4, e5⟩
    | _ => exact p.elim
  replace q : PostG cl (relF cl) W (mFldV i f env) F σ H Q := q
  unfold mFldV at q
  split at q
  · rename_i d ed
    obtain ⟨v, hv, rv⟩ := s.val i d ed
    cases d with
    | ins c fs =>
      simp only [Rep] at rv
      obtain ⟨a, C, dx, gs, rfl, hF, hcl, rf⟩ := rv
      obtain ⟨C', dx', fs', w, e1, e2, e3, e4, e5⟩ := main _ a C dx gs c fs rfl (s.sub.fix hF) hcl rf q
      exact ⟨_, hv, a, C', dx', fs', w, rfl, e1, e2, e3, e4, e5⟩
    | _ => exact q.elim
  · rename_i d ed
    exact own d (oL_own ed) q
  · rename_i d ed
    exact own d (oL_lent ed) q
  · exact q.elim
/-! ### self.f = e -/
theorem HSt.writeLent {F0 : Bs} {H0 F H : Hp} {env : HEnv} {σ : L2.St} (s : HSt cl F0 H0 F env σ H) {i : Nat} {d d' : D} {p : Addr} {u : HO} (he : env[i]? = some (.lent d)) (hp : σ[i]? = some (some (.ref p))) (hf : F p = none) (h0 : H0 p = none) (ob : ObjD cl F d' u) (hm : mutD d' = true) :
    HSt cl F0 H0 F (env.set i (.lent d')) σ (upd H p u) := by
  have hl : i < env.length := (List.getElem?_eq_some_iff.mp he).1
  have away : ∀ (j : Nat) (e : D) (q : Addr), j ≠ i → env[j]?.bind oL = some e → σ[j]? = some (some (.ref q)) → q ≠ p := fun j e q hj h1 h2 z => by
    subst z
    exact hj (s.dis j i e d q h1 (oL_lent he) h2 hp)
  have back : ∀ (j : Nat) (e : D), (env.set i (.lent d'))[j]?.bind oL = some e → ∃ e', env[j]?.bind oL = some e' := fun j e h => by
    by_cases hj : i = j
    · subst hj
      exact ⟨d, oL_lent he⟩
    · rw [List.getElem?_set_ne hj] at h
      exact ⟨e, h⟩
  have self : ∀ {j : Nat} {z : Slot}, (env.set i (.lent d'))[j]? = some z → z ≠ .lent d' → i ≠ j ∧ env[j]? = some z := fun {j z} h k => by
    by_cases hj : i = j
    · subst hj
      rw [List.getElem?_set_self hl] at h
      exact (k (Option.some.inj h).symm).elim
    · rw [List.getElem?_set_ne hj] at h
      exact ⟨hj, h⟩
  refine ⟨by rw [List.length_set]; exact s.len, sub_upd s.sub hf, ⟨s.kp.ext, fun b o e => ?_, s.kp.fr⟩, fun j e h => ?_, fun j e h => ?_, fun j e h => ?_, fun j e h => ?_, fun j k e g q h1 h2 h3 h4 => ?_⟩
  · rw [upd_ne (ne_of_none e h0)]
    exact s.kp.same b o e
  · exact s.val j e (self h (fun z => nomatch z)).2
  · by_cases hj : i = j
    · subst hj
      rw [List.getElem?_set_self hl] at h
      cases h
      exact ⟨p, hp, hf, h0, u, upd_same, ob, hm⟩
    · rw [List.getElem?_set_ne hj] at h
      obtain ⟨q, a, b, c, w, hw, o, mu⟩ := s.own j e h
      exact ⟨q, a, b, c, w, by rw [upd_ne (away j e q (Ne.symm hj) h a)]; exact hw, o, mu⟩
  · by_cases hj : i = j
    · subst hj
      exact s.lnt i d he
    · rw [List.getElem?_set_ne hj] at h
      exact s.lnt j e h
  · exact s.bor j e (self h (fun z => nomatch z)).2
  · obtain ⟨e', h1'⟩ := back j e h1
    obtain ⟨g', h2'⟩ := back k g h2
    exact s.dis j k e' g' q h1' h2' h3 h4
def mSetFld (i : Nat) (f : Str) (m : HEnv → R D) : HEnv → SO := sB m fun d env => match env[i]? with
  | some (.lent (.ins c fs)) => if flds.contains (c, f) = true ∧ fs.length < 900 then .nx (env.set i (.lent (.ins c (setFD f d fs)))) else .stuck
  | _ => .stuck
theorem ds_setFld {i : Nat} (T : FldTab cl X.K) (ho : PE X o (tVar i)) (he : PE X e (tF cl W m)) (hs : swapsWith e (some (.Attribute o f pos')) pos.line X.env = pure false := by rfl) : PS X (.Assign [.Attribute o f pos'] e pos) (tS cl W (mSetFld i f m)) := by
  refine ps_weak (ps_fld ho he hs) fun Dn σ H q => ?_
  refine stB (k := fun d env => match env[i]? with
    | some (.lent (.ins c fs)) => if flds.contains (c, f) = true ∧ fs.length < 900 then .nx (env.set i (.lent (.ins c (setFD f d fs)))) else .stuck
    | _ => .stuck) q fun d v F0 H0 F env Hs H1 s0 F1 kp s r p => ?_
  split at p
  case h_2 => exact p.elim
  rename_i c fs ed
  split at p
  case isFalse => exact p.elim
  rename_i hc
  obtain ⟨a, hp, hf, h0, u, hu, ob, mu⟩ := s.own i _ (oL_lent ed)
  obtain ⟨C, dx, gs, rfl, hcl, rf⟩ := ob
  obtain ⟨t1, t2⟩ := T.ok c f C hc.1 hcl
  refine ⟨.ref a, hp, a, C, dx, gs, rfl, hu, t1, t2, by rw [rf.len]; omega, ?_⟩
  exact HSt.get (W := W) (s.writeLent ed hp hf h0 (d' := .ins c (setFD f d fs)) ⟨C, dx, _, rfl, hcl, RepF.put r rf⟩ rfl) p
end
end
/-! ### __init__ -/
/-- the fields that stand in the new instance at the end -/
def insOf (c : Str) (e : HEnv) : R (List (Str × D)) := match (e[(0 : Nat)]? : Option HL.Slot) with
  | some (.lent (.ins c' fs)) => if c' = c then .ok fs else .stuck
  | _ => .stuck
def fnI (n : Nat) (c : Str) (body : HEnv → SO) (ds : List D) : R (List (Str × D)) := match body (.lent (.ins c []) :: (ds.map Slot.val ++ List.replicate (n - 1 - ds.length) Slot.no)) with
  | .nx e => insOf c e
  | .er x _ => .er x
  | _ => .stuck
def spI (cl : Cl) (c : Str) (n : Nat) (f : List D → R (List (Str × D))) : Sp := fun xs H Q E => xs.length = n + 1 ∧ ∃ (F H1 : Hp) (x dx C : Addr) (ds : List D) (vs : List V), xs = .ref x :: vs ∧ H1 x = none ∧ H1 dx = none ∧ dx ≠ x ∧ H = upd (upd H1 dx (.own x)) x (.ins C dx []) ∧ cl c = some C ∧ Sub F H1 ∧ RepL cl F ds vs ∧ match f ds with
  | .ok fs => ∀ F' H', Kp F H1 F' H' → Sub F' H' → F' x = none → ORep cl F' H' x (.ins c fs) → Q .non H'
  | .er e => ∀ cls dd F' H', Kp F H1 F' H' → Sub F' H' → ERep cl H' e cls dd → E cls dd H'
  | .stuck => False
section
variable {P : Program} {w : World} {K : PySem.W.Frag} {mg : Str → Option Value} {base : Heap} {cl : Cl}
theorem fnDI {x qual c : Str} {st : Stmt} {f : Addr} {fd : FuncData} {N ps : List Str} {k n : Nat} {body : HEnv → SO} (F : Fun K x qual st f fd) (S : FnScope N ps (defScope st)) (hps : ps.length = n + 1) (hn : ps.length ≤ N.length)
    (hb : ∀ (cdv : Value) (A : Around) (outer : List PySem.Env) (s : Shared) (H : Hp) (E : XK), Room k (A.deeper (envOfC qual (defScope st) s.heap.objs.size f cdv)) →
      PSs (cxOf (L2.CX P w) P w K mg base N qual (defScope st) f cdv A outer s H E) (defBody st) (tS cl (fun cls d _ H => E cls d H) body)) :
    FnOk P w K mg base (L2.CX P w) (k + 1) f fd ps (spI cl c n (fnI N.length c body)) := by
  refine F.okX S (fun vs H Q E h => by rw [h.1, hps]) fun cdv A outer s H xs Q E hr ⟨hl, F, H1, x, dx, C, ds, vs, exs, nx, nd, ne, eH, hcl, hs, r, q⟩ => ⟨_, hb cdv A outer s H E hr, ?_⟩
  subst exs eH
  have dl : ds.length = n := by
    rw [← r.len]
    simpa using hl
  have nx2 : (upd H1 dx (.own x)) x = none := by rw [upd_ne (Ne.symm ne)]; exact nx
  have s1 : Sub F (upd H1 dx (.own x)) := sub_upd hs (sub_none hs nd)
  have s2 : Sub F (upd (upd H1 dx (.own x)) x (.ins C dx [])) := sub_upd s1 (sub_none s1 nx2)
  have k2 : Kp F H1 F (upd (upd H1 dx (.own x)) x (.ins C dx [])) := (kp_new nd).trans (kp_new nx2)
  have fx : F x = none := sub_none hs nx
  have hvl : (V.ref x :: vs).length ≤ N.length := by rw [hl, ← hps]; exact hn
  have slot : ∀ (i : Nat) (z : Slot), (Slot.lent (.ins c []) :: (ds.map Slot.val ++ List.replicate (N.length - 1 - ds.length) Slot.no))[i]? = some z → (i = 0 ∧ z = .lent (.ins c [])) ∨ (∃ j d, i = j + 1 ∧ z = .val d ∧ ds[j]? = some d) ∨ z = .no := fun i z e => by
    cases i with
    | zero => exact .inl ⟨rfl, (Option.some.inj e).symm⟩
    | succ j =>
      rw [List.getElem?_cons_succ] at e
      by_cases hj : j < ds.length
      · rw [List.getElem?_append_left (by rw [List.length_map]; exact hj), List.getElem?_map] at e
        cases q : ds[j]? with
        | none => rw [q] at e; cases e
        | some d =>
          rw [q] at e
          exact .inr (.inl ⟨j, d, rfl, (Option.some.inj e).symm, q⟩)
      · rw [List.getElem?_append_right (by rw [List.length_map]; omega), List.getElem?_replicate] at e
        split at e
        · exact .inr (.inr (Option.some.inj e).symm)
        · cases e
  have ownOf : ∀ (i : Nat) (d : D), (Slot.lent (.ins c []) :: (ds.map Slot.val ++ List.replicate (N.length - 1 - ds.length) Slot.no))[i]?.bind oL = some d → i = 0 ∧ d = .ins c [] := fun i d e => by
    cases h : (Slot.lent (.ins c []) :: (ds.map Slot.val ++ List.replicate (N.length - 1 - ds.length) Slot.no))[i]? with
    | none => rw [h] at e; cases e
    | some z =>
      rw [h] at e
      rcases slot i z h with ⟨a, rfl⟩ | ⟨j, d', _, rfl, _⟩ | rfl
      · exact ⟨a, (Option.some.inj e).symm⟩
      · cases e
      · cases e
  have first : (L2.start N (V.ref x :: vs))[0]? = some (some (V.ref x)) := start_get rfl hvl
  refine ⟨(F, fun i => if i = 0 then some x else none), H1, F, .lent (.ins c []) :: (ds.map Slot.val ++ List.replicate (N.length - 1 - ds.length) Slot.no), ⟨?_, s2, k2, fun i d e => ?_, fun i d e => ?_, fun i d e => ?_, fun i d e => ?_, fun i j d e p h1 h2 h3 h4 => ?_⟩, ?_⟩
  · show (L2.start N (V.ref x :: vs)).length = _
    unfold L2.start
    simp only [List.length_append, List.length_map, List.length_replicate, List.length_cons]
    rw [r.len]
    omega
  · rcases slot i _ e with ⟨_, z⟩ | ⟨j, d', rfl, z, hd⟩ | z
    · cases z
    · cases z
      obtain ⟨v, hv, rv⟩ := r.at hd
      exact ⟨v, start_get (by rw [List.getElem?_cons_succ]; exact hv) hvl, rv⟩
    · cases z
  · obtain ⟨rfl, rfl⟩ := ownOf i d e
    exact ⟨x, first, fx, nx, _, upd_same, ⟨C, dx, [], rfl, hcl, by simp only [RepF]⟩, rfl⟩
  · obtain ⟨rfl, rfl⟩ := ownOf i d (oL_lent e)
    exact ⟨x, rfl, first⟩
  · rcases slot i _ e with ⟨_, z⟩ | ⟨j, d', _, z, _⟩ | z <;> cases z
  · obtain ⟨rfl, _⟩ := ownOf i d h1
    obtain ⟨rfl, _⟩ := ownOf j e h2
    rfl
  · unfold fnI at q
    cases eb : body (.lent (.ins c []) :: (ds.map Slot.val ++ List.replicate (N.length - 1 - ds.length) Slot.no)) with
    | nx e =>
      simp only [eb] at q
      intro σ F' H' _ s'
      cases ei : insOf c e with
      | stuck => rw [ei] at q; exact q.elim
      | er z =>
        unfold insOf at ei
        split at ei
        · split at ei <;> cases ei
        · cases ei
      | ok fs =>
        rw [ei] at q
        unfold insOf at ei
        split at ei
        case h_2 => cases ei
        rename_i c' fs' e0
        split at ei
        case isFalse => cases ei
        rename_i ec
        cases ei
        subst ec
        obtain ⟨p, hp, hf, h0, o⟩ := s'.own 0 _ (oL_lent e0)
        obtain ⟨p', hp', hp2⟩ := s'.lnt 0 _ e0
        have ep : p' = x := (Option.some.inj hp').symm
        rw [hp] at hp2
        have e2 : p = p' := by
          have := Option.some.inj (Option.some.inj hp2)
          exact V.ref.inj this
        rw [e2, ep] at hf o
        exact q F' H' s'.kp s'.sub hf o
    | rt o d => simp only [eb] at q
    | er y e =>
      simp only [eb] at q
      exact fun cls dd σ F' H' _ s' r' => q cls dd F' H' s'.kp s'.sub r'
    | bk e => simp only [eb] at q
    | ct e => simp only [eb] at q
    | stuck => simp only [eb] at q
end
end HL

/-! Own classes: made, asked for by isinstance, their operators. -/
namespace HL
open PySem PySem.Spec PyProof.Rows L2
/-! ### X(e, ..) -/
structure Dc (P : Program) (w : World) (K : PySem.W.Frag) (mg : Str → Option Value) (base : Heap) (cl : Cl) (k : Nat) (x : Str) (n : Nat) (f : List D → R (List (Str × D))) : Prop where
  ex : ∃ (C fa : Addr) (fd : FuncData) (ps : List Str), FnOk P w K mg base (L2.CX P w) k fa fd ps (spI cl x n f) ∧ Mk K C fa ∧ mg x = some (.ref C) ∧ cl x = some C ∧ Binds K fd ps []
section
variable {X : Cx} {k : Nat} {f C : Addr} {fd : FuncData} {ps : List Str} {sp : Sp} {E : L2.St → XK} {x : Str} {p pos : Pos} {e : Expr} {es : List Expr} {t : TA}
theorem run_makeS {pins : List (Addr × Obj)} {σ : L2.St} {H : Hp} {s : Shared} {Q : VK} {us : List Value} {vs : List V} (M : Mk X.K C f) (F : FnOk X.prog X.w X.K X.mg X.base (L2.CX X.prog X.w) k f fd ps sp) (hr : Room (k + 1) X.A) (hb : Binds X.K fd ps [])
    (hx : PassesAt (L2.CX X.prog X.w) X σ (E σ)) (I : L2.Inv X pins σ H s) (r : Vals vs us)
    (h : ∀ x dx, H x = none → H dx = none → dx ≠ x → sp (.ref x :: vs) (upd (upd H dx (.own x)) x (.ins C dx [])) (fun v H2 => v = .non ∧ Q (.ref x) H2) (E σ)) :
    wpAny (model X.prog X.w) X.A (call (.ref C) us) (EP X pins σ Q) X.xe s := by
  have hq := h (s.heap.objs.size + 1) s.heap.objs.size (I.hok.fresh (Nat.le_succ _)) (I.hok.fresh (Nat.le_refl _)) (Nat.ne_of_lt (Nat.lt_succ_self _))
  have J := Inv.made (C := C) I
  have rr : Vals (V.ref (s.heap.objs.size + 1) :: vs) (Value.ref (s.heap.objs.size + 1) :: us) := .cons rfl r
  have hl : (Value.ref (s.heap.objs.size + 1) :: us).length = ps.length := by rw [← rr.length]; exact F.len _ _ _ _ hq
  have bd := hb _ (Value.ref (s.heap.objs.size + 1) :: us) J.kIn (by rw [List.append_nil]; exact hl)
  rw [List.append_nil] at bd
  refine wpAny_call (make_map (f := f) I.kIn M.makes M.init (beq_iff_eq.mp M.fn) (codeAny_mono (F.run _ X.stack _ _ ⟨Value.ref (s.heap.objs.size + 1) :: us, []⟩ (Value.ref (s.heap.objs.size + 1) :: us) _ _ (E σ) (hr.make C us []) (J.env0.make C us []) bd rr hq) fun r s' hq' => ?_))
  cases r with
  | error e => exact hx pins _ _ e s' J hq'
  | ok fl =>
    cases fl with
    | ret u =>
      obtain ⟨v, H', I3, rv, ev, q3⟩ := J.after hq'
      subst ev
      exact ⟨rv, V.ref (s.heap.objs.size + 1), H', I3, rfl, q3⟩
    | next => exact hq'.elim
    | brk => exact hq'.elim
    | cont => exact hq'.elim
def tMakeS (C : Addr) (sp : Sp) (E : L2.St → XK) (t : TA) : TE := fun σ H Q => t σ H fun vs H1 => ∀ x dx, H1 x = none → H1 dx = none → dx ≠ x → sp (.ref x :: vs) (upd (upd H1 dx (.own x)) x (.ins C dx [])) (fun v H2 => v = .non ∧ Q (.ref x) H2) (E σ)
theorem pe_makeS (M : Mk X.K C f) (F : FnOk X.prog X.w X.K X.mg X.base (L2.CX X.prog X.w) k f fd ps sp) (hr : Room (k + 1) X.A) (hg : Gl X x) (hm : X.mg x = some (.ref C)) (hb : Binds X.K fd ps []) (hx : ∀ σ, PassesAt (L2.CX X.prog X.w) X σ (E σ))
    (ha : PA X (e :: es) t) (hdb : (x == ("__debug__" : Str)) = false := by decide) (he : starEach (e :: es) X.env = (false, eval e X.env) :: starEach es X.env := by rfl) (hpl : (backTo pos (starEach es X.env)).any (·.1) = false := by rfl) :
    PE X (.Call (.Name x p) (e :: es) [] pos) (tMakeS C sp E t) := by
  refine ⟨fun pins s σ H Q I h => ?_⟩
  refine wpAny_Call_Name_kw (ld_glob I hg hm ?_ hdb)
  refine PySem.W.callWith_K (h₀ := X.base) I.ok.mod.kin M.kp (thn (ha.run pos pins s σ H _ I h) fun us s1 ⟨vs, H1, I1, r, q⟩ => ⟨I1.kIn, ?_⟩) he hpl
  exact run_makeS M F hr hb (hx σ) I1 r q
end
def mMake (c : Str) (f : List D → R (List (Str × D))) (ms : HEnv → R (List D)) : HEnv → R D := fun env => (ms env).bind fun ds => (f ds).bind fun fs => .ok (.ins c fs)
section
variable {X : Cx} {cl : Cl} {W : WX} {k n : Nat} {x : Str} {p pos : Pos} {e : Expr} {es : List Expr} {ms : HEnv → R (List D)} {f : List D → R (List (Str × D))}
theorem dn_make (F : Dc X.prog X.w X.K X.mg X.base cl k x n f) (hr : Room (k + 1) X.A) (tk : Takes X W) (hg : Gl X x) (ha : PA X (e :: es) (tA cl W ms)) (hn : Ln ms n := by repeat constructor)
    (hdb : (x == ("__debug__" : Str)) = false := by decide) (he : starEach (e :: es) X.env = (false, eval e X.env) :: starEach es X.env := by rfl) (hpl : (backTo pos (starEach es X.env)).any (·.1) = false := by rfl) :
    PE X (.Call (.Name x p) (e :: es) [] pos) (tN cl W (mMake x f ms)) := by
  obtain ⟨C, fa, fd, ps, hF, M, hm, hcl, hb⟩ := F.ex
  refine pe_weak (pe_makeS M hF hr hg hm hb (fun σ => passAt tk σ) ha hdb he hpl) fun σ H Q q => ?_
  obtain ⟨F0, H0, F, env, s, q⟩ := q
  refine ⟨F0, H0, F, env, s, ?_⟩
  replace q : PostG cl (relN cl) W ((ms env).bind fun ds => (f ds).bind fun fs => .ok (.ins x fs)) F σ H Q := q
  cases em : ms env with
  | er y => rw [em] at q; exact q
  | stuck => rw [em] at q; exact q.elim
  | ok ds =>
    rw [em] at q
    simp only [R.bind_ok] at q
    intro vs F1 H1 k1 s1 r1 a dx na nd ne
    have hl := call_len_n r1 (hn.len em)
    refine ⟨by rw [List.length_cons, hl], F1, H1, a, dx, C, ds, vs, rfl, na, nd, ne, rfl, hcl, s1, r1, ?_⟩
    have q1 := PostG.step oldN q k1
    cases ef : f ds with
    | er y => rw [ef] at q1; exact q1
    | stuck => rw [ef] at q1; exact q1.elim
    | ok fs =>
      rw [ef] at q1
      simp only [R.bind_ok] at q1
      exact fun F' H' k' s' fx o => ⟨rfl, q1 (.ref a) F' H' k' s' ⟨a, rfl, na, fx, o⟩⟩
end
/-! ### isinstance(x, X) -/
def clsNames : List Str := ["Table", "Term", "Store", "View", "Held"]
structure InsK (K : PySem.W.Frag) (C : Addr) : Prop where
  cl : Cls K C
  ha : PySem.W.findIn K (.ref C) "__class__" = some (some (.builtin "object.__class__"))
  hn : PySem.W.specialIn K (.builtin "object.__class__") "__get__" = some (some (.builtin "getset_descriptor.__get__"))
  htk : PySem.W.takesIn K (.builtin "object.__class__") = some true
  hm : PySem.W.mroIn K C (.type "object") = some true
structure IsiTab (cl : Cl) (K : PySem.W.Frag) (T : Str) (CT : Addr) : Prop where
  ins : ∀ c ∈ clsNames, ∀ C, cl c = some C → InsK K C ∧ PySem.W.kitOne K (.ref C) (.ref CT) = some (c == T)
  base : ∀ t ∈ ["NoneType", "bool", "int", "str", "tuple", "list", "dict"], PySem.W.kitOne K (.type t) (.ref CT) = some false
def isiCD (T : Str) : D → R D
  | .ins c _ => if clsNames.contains c = true then .ok (.bl (c == T)) else .stuck
  | d => match tyDK d with
    | some t => if ["NoneType", "bool", "int", "str", "tuple", "list", "dict"].contains t = true then .ok (.bl false) else .stuck
    | none => .stuck
section
variable {X : Cx} {cl : Cl} {W : WX} {e : Expr} {m : HEnv → R D} {T : Str} {CT : Addr} {p p2 pos : Pos}
theorem isiCD_other {T : Str} {d : D} (h : ∀ c fs, d ≠ .ins c fs) : isiCD T d = match tyDK d with
    | some t => if ["NoneType", "bool", "int", "str", "tuple", "list", "dict"].contains t = true then .ok (.bl false) else .stuck
    | none => .stuck := by
  cases d <;> first | rfl | exact (h _ _ rfl).elim
theorem d_isiC (I : IsiTab cl X.K T CT) (hg : Gl X "isinstance") (hm : X.mg "isinstance" = none) (hg2 : Gl X T) (hm2 : X.mg T = some (.ref CT)) (he : PE X e (tF cl W m))
    (hs1 : starEach [e, .Name T p2] X.env = (false, eval e X.env) :: starEach [.Name T p2] X.env := by rfl) (hs2 : starEach [.Name T p2] X.env = (false, eval (.Name T p2) X.env) :: starEach [] X.env := by rfl) (hpl : (backTo pos (starEach [.Name T p2] X.env)).any (·.1) = false := by rfl)
    (hd : (T == ("__debug__" : Str)) = false := by decide) : PE X (.Call (.Name "isinstance" p) [e, .Name T p2] [] pos) (tF cl W (m1 (isiCD T) m)) := by
  refine pe_weak (pe_callB call_isi hg hm boot_isi' (pa_cons he (pa_cons (pe_glob (v := .ref CT) hg2 hm2 rfl hd) pa_nil hs2) hs1) (by decide) (by decide) hs1 hpl) fun σ H Q q => ?_
  refine read1 (rel := relF cl) (r := fun x H1 Q => rIsi X.K [x, .ref CT] H1 Q) oldF (fun Hs F H d v Q σ s r p => ?_) q
  by_cases hi : ∃ c fs, d = .ins c fs
  · obtain ⟨c, fs, rfl⟩ := hi
    replace r : Rep cl F (.ins c fs) v := r
    simp only [Rep] at r
    obtain ⟨a, C, dx, gs, rfl, hF, hcl, rf⟩ := r
    replace p : PostG cl (relF cl) W (if clsNames.contains c = true then R.ok (D.bl (c == T)) else .stuck) F σ H Q := p
    split at p
    case isFalse => exact p.elim
    rename_i hc
    obtain ⟨i, kk⟩ := I.ins c (by simpa using hc) C hcl
    exact ⟨.ref a, .ref CT, .ref C, .ref CT, (c == T), rfl, .own CT, .base (TyOf.ins (s.fix hF) i.cl i.ha i.hn i.htk i.hm), kk, PostG.done p s (by simp only [relF, Rep])⟩
  · rw [isiCD_other (fun c fs e => hi ⟨c, fs, e⟩)] at p
    split at p
    case h_2 => exact p.elim
    rename_i t ht
    split at p
    case isFalse => exact p.elim
    rename_i hc
    exact ⟨v, .ref CT, .type t, .ref CT, false, rfl, .own CT, tyx_ofK s (.inl r) ht, I.base t (by simpa using hc), PostG.done p s (by simp only [relF, Rep])⟩
end
/-! ### a op b, both of the class -/
structure Do (P : Program) (w : World) (K : PySem.W.Frag) (mg : Str → Option Value) (base : Heap) (cl : Cl) (k : Nat) (c : Str) (nm : Str) (f : List D → R (Bool × D)) : Prop where
  ex : ∃ (C fa : Addr) (fd : FuncData) (ps : List Str), FnOk P w K mg base (L2.CX P w) k fa fd ps (spD cl 2 f) ∧ PySem.W.findIn K (.ref C) nm = some (some (.ref fa)) ∧ PySem.W.isFn K (.ref fa) = true ∧ cl c = some C ∧ Binds K fd ps [] ∧ PySem.W.selfFirst K C = true
def isC (c : Str) : D → Bool
  | .ins c' _ => c' == c
  | _ => false
theorem isC_rep {cl : Cl} {F H : Hp} {c : Str} {d : D} {v : V} {C : Addr} (s : Sub F H) (h : isC c d = true) (r : Rep cl F d v) (hcl : cl c = some C) : ∃ a dx gs, v = .ref a ∧ H a = some (.ins C dx gs) := by
  cases d with
  | ins c' fs =>
    simp only [Rep] at r
    obtain ⟨a, C', dx, gs, rfl, hF, hc, rf⟩ := r
    have e : c' = c := eq_of_beq h
    subst e
    rw [hcl] at hc
    cases hc
    exact ⟨a, dx, gs, rfl, s.fix hF⟩
  | _ => cases h
def opC (c : Str) (f : List D → R (Bool × D)) (d e : D) : R D := if isC c d = true ∧ isC c e = true then (f [d, e]).bind fun r => .ok r.2 else .stuck
/-- what an operator's reading asks, at the slots -/
def rInsS (C : Addr) (sp : Sp) (E : L2.St → XK) (σ : L2.St) : R2 := fun x y H Q => ∃ a dx fs b dy gs, x = .ref a ∧ y = .ref b ∧ H a = some (.ins C dx fs) ∧ H b = some (.ins C dy gs) ∧ sp [x, y] H Q (E σ)
section
variable {X : Cx} {cl : Cl} {W : WX} {a b : Expr} {ma mb : HEnv → R D} {pos : Pos} {k : Nat} {c : Str} {f : List D → R (Bool × D)}
theorem read_opC {C : Addr} (hcl : cl c = some C) {σ : L2.St} {H : Hp} {Q : VK} (q : tG cl (relF cl) W (m2 (opC c f) ma mb) σ H Q) :
    tF cl W ma σ H fun x H1 => tF cl W mb σ H1 fun y H2 => rInsS C (spD cl 2 f) (WE W) σ x y H2 Q := by
  refine bindG (k := fun a env => (mb env).bind fun b => opC c f a b) (rel := relF cl) oldF q fun d v F0 H0 F1 env Hs H1 s r1 p => ?_
  refine ⟨F0, H0, F1, env, s, ?_⟩
  cases em : mb env with
  | er y => rw [em] at p; exact p
  | stuck => rw [em] at p; exact p.elim
  | ok e =>
    rw [em] at p
    simp only [R.bind_ok] at p
    intro u F2 H2 k2 s2 r2
    replace p := PostG.step oldF p k2
    unfold opC at p
    split at p
    case isFalse => exact p.elim
    rename_i hc
    have r1' : Rep cl F2 d v := Rep.ext k2.ext r1
    obtain ⟨x, dx, gs, rfl, hx⟩ := isC_rep s2 hc.1 r1' hcl
    obtain ⟨y, dy, gy, rfl, hy⟩ := isC_rep s2 hc.2 r2 hcl
    refine ⟨x, dx, gs, y, dy, gy, rfl, rfl, hx, hy, rfl, F2, [d, e], s2, ?_, ?_⟩
    · simp only [RepL]
      exact ⟨_, _, rfl, r1', _, _, rfl, r2, rfl⟩
    · cases ef : f [d, e] with
      | er z => rw [ef] at p; exact p
      | stuck => rw [ef] at p; exact p.elim
      | ok r =>
        rw [ef] at p
        simp only [R.bind_ok] at p
        intro v F' H' k' s' rr
        obtain ⟨F3, k3, s3, r3⟩ := ret_frz k' s' rr
        exact p v F3 H' k3 s3 r3
theorem own_binop {op : Operator} {C fa : Addr} {fd : FuncData} {ps : List Str} {sp : Sp} {E : L2.St → XK} (F : FnOk X.prog X.w X.K X.mg X.base (L2.CX X.prog X.w) k fa fd ps sp) (hs : PySem.W.findIn X.K (.ref C) (PySem.dunder op.info.2) = some (some (.ref fa))) (hf : PySem.W.isFn X.K (.ref fa) = true) (hc : PySem.W.selfFirst X.K C = true)
    (hr : Room k X.A) (hb : Binds X.K fd ps []) {pins : List (Addr × Obj)} {s : Shared} {σ : L2.St} {H : Hp} {x y : V} {v u : Value} {Q : VK} (hx : PassesAt (L2.CX X.prog X.w) X σ (E σ)) (I : L2.Inv X pins σ H s) (rx : RelV x v) (ry : RelV y u) (h : rInsS C sp E σ x y H Q) :
    wpAny (model X.prog X.w) X.A (binaryOp op v u) (EP X pins σ Q) X.xe s := by
  obtain ⟨a, dx, fs, b, dy, gs, rfl, rfl, ha, hb', q⟩ := h
  cases rx
  cases ry
  obtain ⟨mA, J, _⟩ := ins_get I.hok ha
  obtain ⟨mB, J', _⟩ := ins_get I.hok hb'
  obtain ⟨od, J, _⟩ := J.look
  obtain ⟨od', J', _⟩ := J'.look
  obtain ⟨m, hF⟩ := I.fr
  refine PySem.W.binop_K hF I.ok.mod.kin J J'.type hc hs hf ?_
  refine wpAny_mono (run_fnS (us := [.ref a, .ref b]) (vs := [.ref a, .ref b]) F hr hb hx I (.cons rfl (.cons rfl .nil)) q) (fun w s' z => ?_) fun _ _ z => z
  obtain ⟨z', H', I', rz, qz⟩ := z
  exact SlX.cmpback rz ⟨z', H', I', rz, qz⟩
theorem d_binC {op : Operator} (F : Do X.prog X.w X.K X.mg X.base cl k c (PySem.dunder op.info.2) f) (hr : Room k X.A) (tk : Takes X W) (ha : PE X a (tF cl W ma)) (hb : PE X b (tF cl W mb)) : PE X (.BinOp a op b pos) (tF cl W (m2 (opC c f) ma mb)) := by
  obtain ⟨C, fa, fd, ps, hF, hs, hf, hcl, hbd, hc⟩ := F.ex
  refine ⟨fun pins s σ H Q I h => ?_⟩
  exact wpAny_BinOp (binT ha hb I (read_opC hcl h) fun v u s2 x y H2 I2 rx ry q => own_binop (E := WE W) hF hs hf hc hr hbd (passAt tk σ) I2 rx ry q)
end
end HL

/-! x op= e of instances without the in-place def; a <= b, a == b by own defs. -/
namespace PySem.W
open PyProof.Rows
section
variable {prog : Program} {w : World} {A : Around} {E : Value → Shared → Prop} {s : Shared} {K : Frag} {x C L f : Addr} {h₀ : Heap} {m : Str → Option Value} {ox : Obj} {od : Option Obj}
theorem hl_fills {M : Model} {h : Heap} {nm : String} {add : Bool} {cd : ClassData} (X : K.In h) (hc : clsIn K C = some cd) (hm : cd.mro = [.ref C, .type "object"]) (h1 : findIn K (.ref C) (dunderI nm) = some none) (h2 : typeLookup (.type "object") (dunderI nm) = pure none) :
    Looks M h (fillsInplaceSlot (.ref C) nm add) false := by
  intro A Q E s k q
  have Lm : Looks M h (mroOf (.ref C)) cd.mro := (looks_clsIn X hc).andThen (f := fun cd => pure cd.mro) .now
  have L1 : Looks M h (typeLookup (.ref C) (dunderI nm)) none := looks_findIn X h1
  unfold fillsInplaceSlot
  refine wpAny_bind (Lm A _ E s k ?_)
  rw [hm, List.anyM_cons]
  refine wpAny_bind (wpAny_bind (L1 A _ E s k (wpAny_pure ?_)))
  simp only [Bool.false_eq_true, if_false, List.anyM_cons]
  refine wpAny_bind ?_
  rw [h2]
  refine wpAny_bind (wpAny_pure (wpAny_pure ?_))
  simp only [Bool.false_eq_true, if_false, List.anyM_nil]
  exact wpAny_pure q
theorem hl_iop {op : Operator} {b : Value} {Q : Value → Shared → Prop} (F : Fr h₀ L s.heap m) (X₀ : K.In h₀) (I : InstAt s.heap x ox C od) (hb : Looks (model prog w) s.heap (typeOf b) (.ref C)) (hc : selfFirst K C = true) {cd : ClassData} (hcd : clsIn K C = some cd) (hmr : cd.mro = [.ref C, .type "object"])
    (hs : findIn K (.ref C) (PySem.dunder op.info.2) = some (some (.ref f))) (hf : isFn K (.ref f) = true) (h1 : findIn K (.ref C) (dunderI op.info.2) = some none) (h2 : typeLookup (.type "object") (dunderI op.info.2) = pure none)
    (h : wpAny (model prog w) A (call (.ref f) [.ref x, b]) (CmpBack Q) E s) : wpAny (model prog w) A (inplaceOp op (.ref x) b) Q E s := by
  have X := X₀.keeps F.keep
  have hm : ∃ rest, cd.mro = .ref C :: rest := ⟨_, hmr⟩
  obtain ⟨rest, hm⟩ := hm
  unfold inplaceOp
  refine wpAny_holding (wpAny_bind (I.type.here (wpAny_bind ((hl_fills X hcd hmr h1 h2).here ?_))))
  simp only [Bool.false_eq_true, if_false]
  refine wpAny_bind ?_
  unfold binaryOp1
  refine wpAny_bind (I.type.here (wpAny_bind (hb.here (wpAny_bind ((fills_K X hcd hm hs).here ?_)))))
  simp only [beq_self_eq_true, if_true]
  refine wpAny_bind (wpAny_pure ?_)
  simp only [Bool.and_false, Bool.false_eq_true, if_false, Bool.false_and]
  refine wpAny_bind (wpAny_pure ?_)
  simp only [Bool.false_eq_true, if_false]
  refine wpAny_bind (m := tryMethod (.ref x) _ b) ?_
  unfold tryMethod
  refine wpAny_bind (special_fn X I hs (beq_iff_eq.mp hf) (wpAny_mono h (fun v s' hv => ?_) fun _ _ e => e))
  cases v <;> first | exact hv.elim | exact wpAny_pure (wpAny_pure (wpAny_pure hv))
end
end PySem.W
namespace HL
open PySem PySem.Spec PyProof.Rows L2
/-- what a class has, that x op= e goes by the def of the plain operator -/
structure Di (P : Program) (w : World) (K : PySem.W.Frag) (mg : Str → Option Value) (base : Heap) (cl : Cl) (k : Nat) (c : Str) (nm inm : Str) (f : List D → R (Bool × D)) : Prop where
  op : Do P w K mg base cl k c nm f
  cd : ∀ C, cl c = some C → ∃ cd, PySem.W.clsIn K C = some cd ∧ cd.mro = [.ref C, .type "object"]
  no : ∀ C, cl c = some C → PySem.W.findIn K (.ref C) inm = some none
  ob : typeLookup (.type "object") inm = pure none
def mAugC (i : Nat) (c : Str) (f : List D → R (Bool × D)) (m : HEnv → R D) : HEnv → SO := sB (m2 (opC c f) (mVar i) m) fun d env => match env[i]? with
  | some (.val _) => .nx (env.set i (.val d))
  | _ => .stuck
section
variable {X : Cx} {cl : Cl} {W : WX} {a b e : Expr} {ma mb m : HEnv → R D} {pos pos' : Pos} {k i : Nat} {c x : Str} {f : List D → R (Bool × D)}
theorem ps_augL {te : TE} {op : Operator} {ti : L2.St → V → V → Hp → VK → Prop} (hN : X.N.Nodup) (hi : X.N[i]? = some x) (hx : X.env.scope.names.lookup x = some .local) (he : PE X e te)
    (ho : ∀ (pins : List (Addr × Obj)) (s : Shared) (σ : L2.St) (H : Hp) (v y : V) (u w : Value) (Q : VK), L2.Inv X pins σ H s → RelV v u → RelV y w → ti σ v y H Q → wpAny (model X.prog X.w) X.A (inplaceOp op u w) (EP X pins σ Q) X.xe s) :
    PS X (.AugAssign (.Name x pos') op e pos) (fun Dn σ H => ∃ v, σ[i]? = some (some v) ∧ te σ H fun y H1 => ti σ v y H1 fun z H2 => Dn.nx (σ.set i (some z)) H2) := by
  refine ⟨fun pins s σ H Dn I h => ?_⟩
  obtain ⟨v, ev, h⟩ := h
  obtain ⟨m, hn, hl⟩ := I.loc
  obtain ⟨u, r, l⟩ := hl i x v hi ev (.inl hx)
  refine wpAny_AugAssign_Name ?_
  rcases l with ⟨hk, hm⟩ | ⟨hk, _⟩
  · refine wpAny_loadName_local I.ok.kind hk hn hm (thn (he.run pins s σ H _ I h) fun w s1 ⟨y, H1, I1, r1, q1⟩ => ?_)
    refine thn (ho pins s1 σ H1 v y u w _ I1 r r1 q1) fun z s2 ⟨zv, H2, I2, r2, q2⟩ => ?_
    exact store_ok I2 hN hi (.inl hx) r2 (fun s3 I3 => ⟨_, H2, I3, q2⟩) (.inr hx)
  · rcases hk with hk | hk
    · have : X.env.scope.names.lookup x = some .cell := hk
      rw [hx] at this
      cases this
    · have : X.env.scope.names.lookup x = some .free := hk
      rw [hx] at this
      cases this
theorem ds_augC {op : Operator} (F : Di X.prog X.w X.K X.mg X.base cl k c (PySem.dunder op.info.2) (dunderI op.info.2) f) (hr : Room k X.A) (tk : Takes X W) (hN : X.N.Nodup) (hi : X.N[i]? = some x) (hx : X.env.scope.names.lookup x = some .local) (he : PE X e (tF cl W m)) :
    PS X (.AugAssign (.Name x pos') op e pos) (tS cl W (mAugC i c f m)) := by
  obtain ⟨C, fa, fd, ps, hF, hs, hf, hcl, hbd, hc⟩ := F.op.ex
  obtain ⟨cd, hcd, hmr⟩ := F.cd C hcl
  refine ps_weak (ps_augL (ti := fun σ v y H Q => rInsS C (spD cl 2 f) (WE W) σ v y H Q) hN hi hx he fun pins s σ H v y u w Q I rx ry h => ?_) fun Dn σ H q => ?_
  · obtain ⟨a, dx, fs, b, dy, gs, rfl, rfl, ha, hb', q⟩ := h
    cases rx
    cases ry
    obtain ⟨mA, J, _⟩ := ins_get I.hok ha
    obtain ⟨mB, J', _⟩ := ins_get I.hok hb'
    obtain ⟨od, J, _⟩ := J.look
    obtain ⟨od', J', _⟩ := J'.look
    obtain ⟨m, hFr⟩ := I.fr
    refine PySem.W.hl_iop hFr I.ok.mod.kin J J'.type hc hcd hmr hs hf (F.no C hcl) F.ob ?_
    refine wpAny_mono (run_fnS (us := [.ref a, .ref b]) (vs := [.ref a, .ref b]) hF hr hbd (passAt tk σ) I (.cons rfl (.cons rfl .nil)) q) (fun w s' z => ?_) fun _ _ z => z
    obtain ⟨z', H', I', rz, qz⟩ := z
    exact SlX.cmpback rz ⟨z', H', I', rz, qz⟩
  · have q' : tG cl (relF cl) W (m2 (opC c f) (mVar i) m) σ H fun z H2 => Dn.nx (σ.set i (some z)) H2 := stB (k := fun d env => match env[i]? with
      | some (.val _) => .nx (env.set i (.val d))
      | _ => .stuck) q fun d v F0 H0 F env Hs H1 s0 F1 kp s r p => by
        split at p
        case h_2 => exact p.elim
        rename_i c' ec
        exact HSt.get (W := W) (s.set r) p
    have q2 := read_opC hcl q'
    obtain ⟨F0, H0, F, env, s, q2⟩ := q2
    unfold mVar at q2
    split at q2
    case h_2 => exact q2.elim
    rename_i d ed
    obtain ⟨v, hv, rv⟩ := s.val i d ed
    exact ⟨v, hv, q2 v F H (Kp.refl F H) s.sub rv⟩
end
end HL

/-! Own classes: methods, properties, str(x); f-strings; defs with *args. -/
namespace HL
open PySem PySem.Spec PyProof.Rows L2
/-! ### o.m(e, ..) -/
structure Dm (P : Program) (w : World) (K : PySem.W.Frag) (mg : Str → Option Value) (base : Heap) (cl : Cl) (k : Nat) (c m : Str) (n : Nat) (f : List D → R (Bool × D)) : Prop where
  ex : ∃ (C fa : Addr) (fd : FuncData) (ps : List Str), FnOk P w K mg base (L2.CX P w) k fa fd ps (spD cl (n + 1) f) ∧ Meth K C m fa ∧ Cls K C ∧ cl c = some C ∧ Binds K fd ps []
section
variable {X : Cx} {k : Nat} {f C : Addr} {fd : FuncData} {ps : List Str} {sp : Sp} {E : L2.St → XK} {m : Str} {pos apos : Pos} {o e : Expr} {es : List Expr} {ta : TE} {t : TA}
def tMethS (C : Addr) (m : Str) (sp : Sp) (E : L2.St → XK) (ta : TE) (t : TA) : TE := fun σ H Q => ta σ H fun x H1 => ∃ a dx fs, x = .ref a ∧ H1 a = some (.ins C dx fs) ∧ fs.lookup m = none ∧ t σ H1 fun vs H2 => sp (x :: vs) H2 Q (E σ)
theorem pe_methS {pl : Sem Bool} (he : PE X o ta) (c : Cls X.K C) (hm : Meth X.K C m f) (F : FnOk X.prog X.w X.K X.mg X.base (L2.CX X.prog X.w) k f fd ps sp) (hr : Room k X.A) (hb : Binds X.K fd ps []) (hx : ∀ σ, PassesAt (L2.CX X.prog X.w) X σ (E σ)) (ha : PA X (e :: es) t)
    (hst : starEach (e :: es) X.env = (false, eval e X.env) :: starEach es X.env := by rfl) (hpl : (backTo pos (starEach es X.env)).any (·.1) = false := by rfl)
    (ht : eval (.Call (.Attribute o m apos) (e :: es) [] pos) X.env = (do
      let ov ← eval o X.env
      standAt apos.atName
      let (f, first) ← holding [ov] (getMethod ov m pl)
      callWith pos f first (backTo pos (starEach (e :: es) X.env)) (backToKw pos (keywordEach [] X.env))) := by rfl) :
    PE X (.Call (.Attribute o m apos) (e :: es) [] pos) (tMethS C m sp E ta t) := by
  refine ⟨fun pins s σ H Q I h => ?_⟩
  refine PySem.W.methodCall_KW (pl := pl) (thn (he.run pins s σ H _ I h) fun u s1 ⟨x, H1, I1, rx, a, dx, fs, ex, ea, l, q⟩ => ?_) ht
  subst ex
  obtain rfl : u = Value.ref a := rx
  refine getmeth_ok I1 ea c hm l ?_
  refine PySem.W.callWith_K (first := [.ref a]) (h₀ := X.base) I.ok.mod.kin hm.kp (thn (ha.run pos pins s1 σ H1 _ I1 q) fun us s2 ⟨vs, H2, I2, r, q2⟩ => ⟨I2.kIn, ?_⟩) hst hpl
  exact run_fnS (us := .ref a :: us) (vs := .ref a :: vs) F hr hb (hx σ) I2 (.cons rfl r) q2
end
def noFld (m : Str) : D → Bool
  | .ins _ fs => (fs.lookup m).isNone
  | _ => false
def mMeth (c m : Str) (f : List D → R (Bool × D)) (mo : HEnv → R D) (ms : HEnv → R (List D)) : HEnv → R D := fun env => (mo env).bind fun o => if isC c o = true ∧ noFld m o = true then (ms env).bind fun ds => (f (o :: ds)).bind fun r => .ok r.2 else .stuck
theorem isC_rep2 {cl : Cl} {F H : Hp} {c m : Str} {d : D} {v : V} {C : Addr} (s : Sub F H) (h : isC c d = true) (hm : noFld m d = true) (r : Rep cl F d v) (hcl : cl c = some C) : ∃ a dx gs, v = .ref a ∧ H a = some (.ins C dx gs) ∧ gs.lookup m = none := by
  cases d with
  | ins c' fs =>
    simp only [Rep] at r
    obtain ⟨a, C', dx, gs, rfl, hF, hc, rf⟩ := r
    have e : c' = c := eq_of_beq h
    subst e
    rw [hcl] at hc
    cases hc
    exact ⟨a, dx, gs, rfl, s.fix hF, rf.none (Option.isNone_iff_eq_none.mp hm)⟩
  | _ => cases h
section
variable {X : Cx} {cl : Cl} {W : WX} {k n : Nat} {c m : Str} {f : List D → R (Bool × D)} {o e : Expr} {es : List Expr} {mo : HEnv → R D} {ms : HEnv → R (List D)} {pos apos : Pos}
theorem d_meth {pl : Sem Bool} (F : Dm X.prog X.w X.K X.mg X.base cl k c m n f) (hr : Room k X.A) (tk : Takes X W) (ho : PE X o (tF cl W mo)) (ha : PA X (e :: es) (tA cl W ms)) (hn : Ln ms n := by repeat constructor)
    (hst : starEach (e :: es) X.env = (false, eval e X.env) :: starEach es X.env := by rfl) (hpl : (backTo pos (starEach es X.env)).any (·.1) = false := by rfl)
    (ht : eval (.Call (.Attribute o m apos) (e :: es) [] pos) X.env = (do
      let ov ← eval o X.env
      standAt apos.atName
      let (f, first) ← holding [ov] (getMethod ov m pl)
      callWith pos f first (backTo pos (starEach (e :: es) X.env)) (backToKw pos (keywordEach [] X.env))) := by rfl) :
    PE X (.Call (.Attribute o m apos) (e :: es) [] pos) (tF cl W (mMeth c m f mo ms)) := by
  obtain ⟨C, fa, fd, ps, hF, hM, hC, hcl, hb⟩ := F.ex
  refine pe_weak (pe_methS (pl := pl) ho hC hM hF hr hb (fun σ => passAt tk σ) ha hst hpl ht) fun σ H Q q => ?_
  refine bindG (k := fun o env => if isC c o = true ∧ noFld m o = true then (ms env).bind fun ds => (f (o :: ds)).bind fun r => .ok r.2 else .stuck) (rel := relF cl) oldF q fun d v F0 H0 F1 env Hs H1 s r1 p => ?_
  split at p
  case isFalse => exact p.elim
  rename_i hc
  obtain ⟨a, dx, gs, rfl, hH, hl⟩ := isC_rep2 s.sub hc.1 hc.2 r1 hcl
  refine ⟨a, dx, gs, rfl, hH, hl, F0, H0, F1, env, s, ?_⟩
  cases em : ms env with
  | er y => rw [em] at p; exact p
  | stuck => rw [em] at p; exact p.elim
  | ok ds =>
    rw [em] at p
    simp only [R.bind_ok] at p
    intro vs F2 H2 k2 s2 r2
    replace p := PostG.step oldF p k2
    refine ⟨by rw [List.length_cons, call_len_n r2 (hn.len em)], F2, d :: ds, s2, ?_, ?_⟩
    · simp only [RepL]
      exact ⟨_, _, rfl, Rep.ext k2.ext r1, r2⟩
    · cases ef : f (d :: ds) with
      | er z => rw [ef] at p; exact p
      | stuck => rw [ef] at p; exact p.elim
      | ok r =>
        rw [ef] at p
        simp only [R.bind_ok] at p
        intro v F' H' k' s' rr
        obtain ⟨F3, k3, s3, r3⟩ := ret_frz k' s' rr
        exact p v F3 H' k3 s3 r3
end
/-! ### o.f, a property -/
structure Dp (P : Program) (w : World) (K : PySem.W.Frag) (mg : Str → Option Value) (base : Heap) (cl : Cl) (k : Nat) (c f : Str) (g : List D → R (Bool × D)) : Prop where
  ex : ∃ (C p fa : Addr) (fd : FuncData) (ps : List Str), FnOk P w K mg base (L2.CX P w) k fa fd ps (spD cl 1 g) ∧ PropOf K C f p fa ∧ Cls K C ∧ cl c = some C ∧ Binds K fd ps []
def own1D (c : Str) (g : List D → R (Bool × D)) (d : D) : R D := if isC c d = true then ((g [d]).nr).bind fun r => .ok r.2 else .stuck
theorem own1_sp {cl : Cl} {W : WX} {c : Str} {C : Addr} {g : List D → R (Bool × D)} {F H : Hp} {d : D} {v : V} {Q : VK} {σ : L2.St} (hcl : cl c = some C) (s : Sub F H) (r : Rep cl F d v) (p : PostG cl (relF cl) W (own1D c g d) F σ H Q) {E : XK} :
    ∃ a dx fs, v = .ref a ∧ H a = some (.ins C dx fs) ∧ spD cl 1 g [.ref a] H Q E := by
  unfold own1D at p
  split at p
  case isFalse => exact p.elim
  rename_i hc
  obtain ⟨a, dx, gs, rfl, hH⟩ := isC_rep s hc r hcl
  refine ⟨a, dx, gs, rfl, hH, rfl, F, [d], s, by simp only [RepL]; exact ⟨_, _, rfl, r, rfl⟩, ?_⟩
  cases ef : g [d] with
  | er z => rw [ef] at p; exact p.elim
  | stuck => rw [ef] at p; exact p.elim
  | ok x =>
    rw [ef] at p
    simp only [R.nr_ok, R.bind_ok] at p
    intro v F' H' k' s' rr
    obtain ⟨F3, k3, s3, r3⟩ := ret_frz k' s' rr
    exact p v F3 H' k3 s3 r3
section
variable {X : Cx} {cl : Cl} {W : WX} {k n : Nat} {c f x : Str} {g : List D → R (Bool × D)} {o e : Expr} {m : HEnv → R D} {pos p : Pos}
theorem d_prop (F : Dp X.prog X.w X.K X.mg X.base cl k c f g) (hr : Room (k + 1) X.A) (ho : PE X o (tF cl W m)) (hab : attributeBase o f X.env (eval o X.env) = eval o X.env := by rfl) : PE X (.Attribute o f pos) (tF cl W (m1 (own1D c g) m)) := by
  obtain ⟨C, pa, fa, fd, ps, hF, hP, hC, hcl, hb⟩ := F.ex
  refine pe_weak (pe_prop (E := fun _ _ _ => False) (dvs := []) (ds := []) ho hC hP hF hr hb .nil (fun _ _ _ _ _ _ _ z => (cx_end z).elim) hab) fun σ H Q q => ?_
  refine read1 (rel := relF cl) (r := fun x H1 Q => ∃ a dx fs, x = .ref a ∧ H1 a = some (.ins C dx fs) ∧ spD cl 1 g [.ref a] H1 Q fun _ _ _ => False) oldF (fun Hs F H d v Q σ s r p => ?_) q
  exact own1_sp hcl s r p
/-! ### str(o) -/
structure Ds (P : Program) (w : World) (K : PySem.W.Frag) (mg : Str → Option Value) (base : Heap) (cl : Cl) (k : Nat) (c : Str) (g : List D → R (Bool × D)) : Prop where
  ex : ∃ (C fa : Addr) (fd : FuncData) (ps : List Str), FnOk P w K mg base (L2.CX P w) k fa fd ps (spD cl 1 g) ∧ PySem.W.findIn K (.ref C) "__str__" = some (some (.ref fa)) ∧ PySem.W.isFn K (.ref fa) = true ∧ cl c = some C ∧ Binds K fd ps []
def strOwnD (c : Str) (g : List D → R (Bool × D)) (d : D) : R D := (own1D c g d).bind fun r => match r with
  | .str y => .ok (.str y)
  | _ => .stuck
def rStrC (C : Addr) (sp : Sp) : List V → Hp → VK → Prop := fun xs H Q => ∃ a dx fs, xs = [V.ref a] ∧ H a = some (.ins C dx fs) ∧ sp [.ref a] H (fun z H' => ∃ y, z = .str y ∧ Q z H') fun _ _ _ => False
theorem call_strC {C fa : Addr} {fd : FuncData} {ps : List Str} {sp : Sp} (hs : PySem.W.findIn X.K (.ref C) "__str__" = some (some (.ref fa))) (hf : PySem.W.isFn X.K (.ref fa) = true) (F : FnOk X.prog X.w X.K X.mg X.base (L2.CX X.prog X.w) k fa fd ps sp) (hb : Binds X.K fd ps []) (hr : Room (k + 2) X.A) :
    CallR X (.type "str") (rStrC C sp) := by
  intro pins s σ H xs us Q I r h
  obtain ⟨a, dx, fs, rfl, hH, q⟩ := h
  obtain ⟨u, rfl, ru⟩ := r.one
  cases (show u = Value.ref a from ru)
  obtain ⟨mA, J, _⟩ := ins_get I.hok hH
  obtain ⟨od, J, _⟩ := J.look
  have hr2 : Room k X.A.in1.in1 := (show Room (k + 1) X.A.in1 from Room.in1 hr).in1
  refine PySem.W.kso_call (by have := hr2.un; omega) I.kIn J hs hf (wpAny_mono (wpAny_call (SlX.run_at (us := [.ref a]) (ws := [.ref a]) (E := fun _ _ _ => False) (FnOk.raw F hb .nil) hr2 I.env0.in1.in1 (fun _ _ _ _ _ _ _ z => (cx_end z).elim) I (.cons rfl .nil) q)) (fun w s' z => ?_) fun _ _ x => x)
  obtain ⟨z', H', I', rz, y, ey, qz⟩ := z
  subst ey
  obtain ⟨t, e⟩ := (show ∃ t, w = Value.str y t from rz)
  cases e
  exact ⟨.str y, H', I', ⟨t, rfl⟩, qz⟩
theorem d_strC (F : Ds X.prog X.w X.K X.mg X.base cl k c g) (hr : Room (k + 2) X.A) (hg : Gl X "str") (hm : X.mg "str" = none) (he : PE X e (tF cl W m))
    (h1 : starEach (e :: []) X.env = (false, eval e X.env) :: starEach [] X.env := by rfl) (h2 : (backTo pos (starEach [] X.env)).any (·.1) = false := by rfl) :
    PE X (.Call (.Name "str" p) [e] [] pos) (tF cl W (m1 (strOwnD c g) m)) := by
  obtain ⟨C, fa, fd, ps, hF, hs, hf, hcl, hb⟩ := F.ex
  refine pe_weak (pe_callTy (call_strC hs hf hF hb hr) hg hm (by decide +kernel) (pa_cons he pa_nil h1) (by decide) (by decide) h1 h2) fun σ H Q q => ?_
  refine read1 (rel := relF cl) (r := fun x H1 Q => rStrC C (spD cl 1 g) [x] H1 Q) oldF (fun Hs F H d v Q σ s r p => ?_) q
  have p' : PostG cl (relF cl) W (own1D c g d) F σ H fun z H' => ∃ y, z = .str y ∧ Q z H' := by
    unfold strOwnD at p
    cases e1 : own1D c g d with
    | er z => rw [e1] at p; exact p
    | stuck => rw [e1] at p; exact p.elim
    | ok x =>
      rw [e1] at p
      simp only [R.bind_ok] at p
      intro v F' H' k' s' rr
      cases x with
      | str y =>
        obtain rfl : v = .str y := by simpa only [relF, Rep] using rr
        exact ⟨y, rfl, p (.str y) F' H' k' s' (by simp only [relF, Rep])⟩
      | _ => exact p.elim
  obtain ⟨a, dx, fs, rfl, hH, q2⟩ := own1_sp hcl s r p'
  exact ⟨a, dx, fs, rfl, hH, q2⟩
end
/-! ### f-strings -/
/-- a part as a text -/
def fmtD : D → R D
  | .str y => if y.length ≤ sizeLine then .ok (.str y) else .stuck
  | .int i => if i.natAbs.log2 < 1920 then .ok (.str (toString i)) else .stuck
  | _ => .stuck
def mFmt (m : HEnv → R D) : HEnv → R D := m1 fmtD m
def mJoinS : List (HEnv → R D) → Str → HEnv → R D
  | [], acc => fun _ => .ok (.str acc)
  | m :: ms, acc => fun env => (m env).bind fun d => match d with
    | .str y => if (acc ++ y).length ≤ sizeLine then mJoinS ms (acc ++ y) env else .stuck
    | _ => .stuck
section
variable {X : Cx} {cl : Cl} {W : WX} {e : Expr} {pos : Pos} {m : HEnv → R D}
theorem d_fmt (he : PE X e (tF cl W m)) : PE X (.FormattedValue e (-1) none pos) (tF cl W (mFmt m)) := by
  refine pe_weak (pe_fmt he) fun σ H Q q => ?_
  refine read1 (rel := relF cl) (r := fun x H1 Q => (∃ y : Str, x = .str y ∧ y.length ≤ sizeLine ∧ Q (.str y) H1) ∨ ∃ i : Int, x = .int i ∧ i.natAbs.log2 < 1920 ∧ Q (.str (toString i)) H1) oldF (fun Hs F H d v Q σ s r p => ?_) q
  unfold fmtD at p
  split at p
  · obtain rfl : v = .str _ := by simpa only [relF, Rep] using r
    split at p
    · exact .inl ⟨_, rfl, by assumption, PostG.done p s (by simp only [relF, Rep])⟩
    · exact p.elim
  · obtain rfl : v = .int _ := by simpa only [relF, Rep] using r
    split at p
    · exact .inr ⟨_, rfl, by assumption, PostG.done p s (by simp only [relF, Rep])⟩
    · exact p.elim
  · exact p.elim
inductive PJm (X : Cx) (cl : Cl) (W : WX) : List Expr → List (HEnv → R D) → Prop where
  | nil : PJm X cl W [] []
  | cons {e : Expr} {m : HEnv → R D} {es : List Expr} {ms : List (HEnv → R D)} (h : PE X e (tF cl W m)) (r : PJm X cl W es ms) : PJm X cl W (e :: es) (m :: ms)
theorem PJm.pj {es : List Expr} {ms : List (HEnv → R D)} (h : PJm X cl W es ms) : PJ X es (ms.map fun m => tF cl W m) := by
  induction h with
  | nil => exact .nil
  | cons h _ ih => exact .cons h ih
theorem read_js : ∀ {ms : List (HEnv → R D)} {acc : Str} {σ : L2.St} {H : Hp} {Q : VK}, tG cl (relF cl) W (mJoinS ms acc) σ H Q → tJs (ms.map fun m => tF cl W m) acc σ H fun out H1 => Q (.str out) H1
  | [], acc, σ, H, Q, q => by
    obtain ⟨F0, H0, F, env, s, q⟩ := q
    exact PostG.done (rel := relF cl) (v := .str acc) q s.sub (by simp only [relF, Rep])
  | m :: ms, acc, σ, H, Q, q => by
    refine bindG (k := fun d env => match d with
      | .str y => if (acc ++ y).length ≤ sizeLine then mJoinS ms (acc ++ y) env else .stuck
      | _ => .stuck) (rel := relF cl) oldF q fun d v F0 H0 F1 env Hs H1 s r1 p => ?_
    cases d with
    | str y =>
      obtain rfl : v = .str y := by simpa only [relF, Rep] using r1
      replace p : PostG cl (relF cl) W (if (acc ++ y).length ≤ sizeLine then mJoinS ms (acc ++ y) env else .stuck) F1 σ H1 Q := p
      split at p
      case isFalse => exact p.elim
      rename_i hz
      exact ⟨y, rfl, hz, read_js (ms := ms) ⟨F0, H0, F1, env, s, p⟩⟩
    | _ => exact p.elim
theorem d_fstr {v1 v2 : Expr} {rest : List Expr} {ms : List (HEnv → R D)} (h : PJm X cl W (v1 :: v2 :: rest) ms) : PE X (.JoinedStr (v1 :: v2 :: rest) pos) (tF cl W (mJoinS ms Str.empty)) :=
  pe_weak (pe_joined h.pj) fun σ H Q q => read_js q
theorem d_fstr1 (he : PE X e (tF cl W m)) : PE X (.JoinedStr [e] pos) (tF cl W m) := pe_joined1 he
end
end HL

/-! Defs with *args; a def that is not covered; the facts of an own class. -/
namespace HL
open PySem PySem.Spec PyProof.Rows L2
section
variable {P : Program} {w : World} {K : PySem.W.Frag} {mg : Str → Option Value} {base : Heap} {cl : Cl}
/-- the start of a def's body -/
theorem spD_start {N : List Str} {n : Nat} {body : HEnv → SO} {vs : List V} {H : Hp} {Q : VK} {E : XK} (hn : n ≤ N.length) (h : spD cl n (fnS N.length body) vs H Q E) :
    tS cl (fun cls d _ H => E cls d H) body { nx := fun _ H' => Q .non H', rt := Q } (L2.start N vs) H := by
  obtain ⟨hl, F, ds, hs, r, q⟩ := h
  have dl : ds.length = n := by rw [← r.len]; exact hl
  refine ⟨(F, fun _ => none), H, F, ds.map Slot.val ++ List.replicate (N.length - ds.length) Slot.no, ⟨?_, hs, Kp.refl F H, fun i d e => ?_, fun i d e => ?_, fun i d e => ?_, fun i d e => ?_, fun i j d e p h1 => ?_⟩, ?_⟩
  · show (L2.start N vs).length = _
    unfold L2.start
    simp only [List.length_append, List.length_map, List.length_replicate]
    rw [r.len]
  · by_cases hi : i < ds.length
    · rw [List.getElem?_append_left (by simp; exact hi)] at e
      obtain ⟨v, a, b⟩ := RepL.vals i d r e
      exact ⟨v, start_get a (by rw [hl]; exact hn), b⟩
    · rw [List.getElem?_append_right (by simp; omega)] at e
      rw [List.getElem?_replicate] at e
      split at e <;> cases e
  · exact (no_own e).elim
  · exact (no_own (oL_lent e)).elim
  · by_cases hi : i < ds.length
    · rw [List.getElem?_append_left (by simp; exact hi), List.getElem?_map] at e
      cases q : ds[i]? with
      | none => rw [q] at e; cases e
      | some c => rw [q] at e; cases e
    · rw [List.getElem?_append_right (by simp; omega), List.getElem?_replicate] at e
      split at e <;> cases e
  · exact (no_own h1).elim
  · unfold fnS at q
    cases eb : body (ds.map Slot.val ++ List.replicate (N.length - ds.length) Slot.no) with
    | nx e =>
      simp only [eb] at q
      exact fun σ F' H' _ s' => q .non F' H' s'.kp s'.sub (by unfold RetR; rw [if_neg (by decide)]; simp only [Rep])
    | rt o d =>
      simp only [eb] at q
      exact q
    | er y e =>
      simp only [eb] at q
      exact fun cls dd σ F' H' _ s' r' => q cls dd F' H' s'.kp s'.sub r'
    | bk e => simp only [eb] at q
    | ct e => simp only [eb] at q
    | stuck => simp only [eb] at q
/-- what is asked of a def with np parameters and *v -/
def spV (cl : Cl) (np : Nat) (f : List D → R (Bool × D)) : Sp := fun vs H Q E => ∃ ws rest, vs = ws ++ rest ∧ ws.length = np ∧ rest.length ≤ sizeLine ∧ ∀ p, H p = Option.none → spD cl (np + 1) f (ws ++ [V.ref p]) (upd H p (.tup rest)) Q E
theorem fnDV {x qual pv : Str} {st : Stmt} {f : Addr} {fd : FuncData} {N ps : List Str} {k : Nat} {body : HEnv → SO} (F : Fun K x qual st f fd) (S : FnScope N (ps ++ [pv]) (defScope st)) (hn : ps.length + 1 ≤ N.length)
    (hbd : ∀ (kV doc pm : Value) (an : Option Addr) (cdv ct : Value) (us rest : List Value), us.length = ps.length → bindArgs (PySem.W.fnOf x qual (defArgs st) (defBody st) (defScope st) .none kV doc pm an cdv ct) ⟨us ++ rest, []⟩ = (newTuple rest >>= fun t => pure (ps.zip us ++ [(pv, t)])))
    (hb : ∀ (cdv : Value) (A : Around) (outer : List PySem.Env) (s : Shared) (H : Hp) (E : XK), Room k (A.deeper (envOfC qual (defScope st) s.heap.objs.size f cdv)) →
      PSs (cxOf (L2.CX P w) P w K mg base N qual (defScope st) f cdv A outer s H E) (defBody st) (tS cl (fun cls d _ H => E cls d H) body)) :
    FnR P w K mg base (L2.CX P w) (k + 1) f (spV cl ps.length (fnS N.length body)) := by
  obtain ⟨oc, od, kV, doc, pm, an, cdv, ct, osl, rfl, lk, hcd⟩ := F.ex
  exact StX.fn_star (sp := spD cl (ps.length + 1) (fnS N.length body)) lk hcd S StX.cxUp (hbd kV doc pm an cdv ct) fun A outer s H vs Q E hr hsp => ⟨_, hb cdv A outer s H E hr, spD_start hn hsp⟩
/-- a def that is not covered -/
theorem fn_stuck {f : Addr} {fd : FuncData} {ps : List Str} {k n : Nat} : FnOk P w K mg base (L2.CX P w) k f fd ps (spD cl n fun _ => .stuck) :=
  ⟨fun _ _ _ _ ⟨_, _, _, _, _, z⟩ => z.elim, fun _ _ _ _ _ _ _ _ _ _ _ _ _ ⟨_, _, _, _, _, z⟩ => z.elim⟩
end
/-! ### the call of a def with *args -/
structure DfV (P : Program) (w : World) (K : PySem.W.Frag) (mg : Str → Option Value) (base : Heap) (cl : Cl) (k : Nat) (x : Str) (np : Nat) (f : List D → R (Bool × D)) : Prop where
  ex : ∃ fa : Addr, FnR P w K mg base (L2.CX P w) k fa (spV cl np f) ∧ mg x = some (.ref fa) ∧ PySem.W.keepIn K (.ref fa) = true
def mCallV (np : Nat) (f : List D → R (Bool × D)) (ms : HEnv → R (List D)) : HEnv → R D := fun env => (ms env).bind fun ds => if np ≤ ds.length ∧ ds.length ≤ 1000 then (f (ds.take np ++ [.tup (ds.drop np)])).bind fun r => .ok r.2 else .stuck
theorem RepL.takeN {cl : Cl} {F : Hp} : ∀ (n : Nat) {ds : List D} {vs : List V}, RepL cl F ds vs → RepL cl F (ds.take n) (vs.take n) ∧ RepL cl F (ds.drop n) (vs.drop n)
  | 0, ds, vs, h => ⟨by simp only [List.take_zero, RepL], by simpa using h⟩
  | n + 1, [], vs, h => by
    simp only [RepL] at h
    subst h
    simp only [List.take_nil, List.drop_nil, RepL, and_self]
  | n + 1, d :: ds, vs, h => by
    simp only [RepL] at h
    obtain ⟨v, r, rfl, a, b⟩ := h
    obtain ⟨c, e⟩ := RepL.takeN n b
    refine ⟨?_, by simpa using e⟩
    simp only [List.take_succ_cons, RepL]
    exact ⟨v, _, rfl, a, c⟩
section
variable {X : Cx} {cl : Cl} {W : WX} {k np : Nat} {x : Str} {f : List D → R (Bool × D)} {e : Expr} {es : List Expr} {ms : HEnv → R (List D)} {pos p : Pos}
theorem run_fnRS {CX : CXT} {g : Addr} {sp : Sp} {E : XK} {Q : VK} {us : List Value} {vs : List V} {pins : List (Addr × Obj)} {σ : L2.St} {H : Hp} {s : Shared} (F : FnR X.prog X.w X.K X.mg X.base CX k g sp) (hr : Room k X.A) (hx : PassesAt CX X σ E) (I : L2.Inv X pins σ H s) (r : Vals vs us) (h : sp vs H Q E) :
    wpAny (model X.prog X.w) X.A (call (.ref g) us) (EP X pins σ Q) X.xe s := by
  refine wpAny_call (codeAny_mono (F X.A X.stack s H us vs Q E hr I.env0 r h) fun r s' hq => ?_)
  cases r with
  | error e => exact hx pins H s e s' I hq
  | ok fl =>
    cases fl with
    | ret u => exact I.after hq
    | next => exact False.elim hq
    | brk => exact False.elim hq
    | cont => exact False.elim hq
theorem spV_of {ds : List D} {vs : List V} {F H : Hp} {Q : VK} {σ : L2.St} (s : Sub F H) (r : RepL cl F ds vs) (hl : np ≤ ds.length ∧ ds.length ≤ 1000) (p : PostG cl (relF cl) W ((f (ds.take np ++ [.tup (ds.drop np)])).bind fun r => .ok r.2) F σ H Q) : spV cl np f vs H Q (WE W σ) := by
  have hlen : vs.length = ds.length := r.len
  obtain ⟨r1, r2⟩ := r.takeN np
  have hz : (ds.drop np).length ≤ sizeLine := by rw [List.length_drop, sizeLine_eq]; omega
  refine ⟨vs.take np, vs.drop np, (List.take_append_drop np vs).symm, by rw [List.length_take]; omega, by rw [r2.len]; exact hz, fun a ha => ?_⟩
  have hf : F a = none := sub_none s ha
  obtain ⟨F2, x2, k2, s2, rr2, _⟩ := freezeO (cl := cl) (d := .tup (ds.drop np)) (kp_new (F := F) (u := .tup (vs.drop np)) ha) (sub_upd s hf) ha hf upd_same ⟨_, rfl, r2, hz⟩
  replace p := PostG.step oldF p k2
  have r3 : RepL cl F2 [.tup (ds.drop np)] [V.ref a] := by
    simp only [RepL]
    exact ⟨_, _, rfl, rr2, rfl⟩
  refine ⟨by rw [List.length_append, List.length_take, List.length_singleton]; omega, F2, _, s2, RepL.app (r1.ext x2) r3, ?_⟩
  cases ef : f (ds.take np ++ [.tup (ds.drop np)]) with
  | er z => rw [ef] at p; exact p
  | stuck => rw [ef] at p; exact p.elim
  | ok r =>
    rw [ef] at p
    simp only [R.bind_ok] at p
    intro v F' H' k' s' rr
    obtain ⟨F3, k3, s3, r3⟩ := ret_frz k' s' rr
    exact p v F3 H' k3 s3 r3
theorem d_callV (F : DfV X.prog X.w X.K X.mg X.base cl k x np f) (hr : Room k X.A) (tk : Takes X W) (hg : Gl X x) (ha : PA X (e :: es) (tA cl W ms))
    (hdb : (x == ("__debug__" : Str)) = false := by decide) (he : starEach (e :: es) X.env = (false, eval e X.env) :: starEach es X.env := by rfl) (hpl : (backTo pos (starEach es X.env)).any (·.1) = false := by rfl) :
    PE X (.Call (.Name x p) (e :: es) [] pos) (tF cl W (mCallV np f ms)) := by
  obtain ⟨fa, hF, hm, hk⟩ := F.ex
  refine ⟨fun pins s σ H Q I q => ?_⟩
  have q2 : tA cl W ms σ H fun vs H1 => spV cl np f vs H1 Q (WE W σ) := by
    refine bindG (k := fun ds env => if np ≤ ds.length ∧ ds.length ≤ 1000 then (f (ds.take np ++ [.tup (ds.drop np)])).bind fun r => .ok r.2 else .stuck) (rel := fun _ F _ ds vs => RepL cl F ds vs) oldF q fun d v F0 H0 F1 env Hs H1 s r1 p => ?_
    split at p
    case isFalse => exact p.elim
    rename_i hc
    exact spV_of s.sub r1 hc p
  refine wpAny_Call_Name_kw (ld_glob I hg hm ?_ hdb)
  refine PySem.W.callWith_K (h₀ := X.base) I.ok.mod.kin hk (thn (ha.run pos pins s σ H _ I q2) fun us s1 ⟨vs, H1, I1, r, q⟩ => ⟨I1.kIn, ?_⟩) he hpl
  exact run_fnRS hF hr (passAt tk σ) I1 r q
/-- f() -/
theorem d_callV0 (F : DfV X.prog X.w X.K X.mg X.base cl k x 0 f) (hr : Room k X.A) (tk : Takes X W) (hg : Gl X x) (hdb : (x == ("__debug__" : Str)) = false := by decide) :
    PE X (.Call (.Name x p) [] [] pos) (tF cl W (mCallV 0 f mNil)) := by
  obtain ⟨fa, hF, hm, hk⟩ := F.ex
  refine ⟨fun pins s σ H Q I q => ?_⟩
  have q2 : spV cl 0 f [] H Q (WE W σ) := by
    obtain ⟨F0, H0, F, env, st, q⟩ := q
    have p : PostG cl (relF cl) W ((f (([] : List D).take 0 ++ [.tup (([] : List D).drop 0)])).bind fun r => .ok r.2) F σ H Q := q
    exact spV_of st.sub (by simp only [RepL]) ⟨Nat.le_refl _, by decide⟩ p
  refine wpAny_Call_Name_kw (ld_glob I hg hm ?_ hdb)
  exact PySem.W.callWith_K0 I.kIn hk (run_fnRS (us := []) hF hr (passAt tk σ) I .nil q2)
end
/-! ### the facts of an own class, asked of the table at once -/
open PySem.W in
def clsB (K : PySem.W.Frag) (C : Addr) : Bool := plainGet K C Str.empty && hasDictIn K C && plainOver K C && decide (findIn K (.ref C) "__setattr__" = some (some (.builtin "object.__setattr__"))) &&
  decide (findIn K (.ref C) "__class__" = some (some (.builtin "object.__class__"))) && decide (specialIn K (.builtin "object.__class__") "__get__" = some (some (.builtin "getset_descriptor.__get__"))) && decide (takesIn K (.builtin "object.__class__") = some true) && decide (mroIn K C (.type "object") = some true) &&
  makesIn K C && selfFirst K C && keepIn K (.ref C)
theorem clsB_ok {K : PySem.W.Frag} {C : Addr} (h : clsB K C = true) : InsK K C ∧ PySem.W.makesIn K C = true ∧ PySem.W.selfFirst K C = true ∧ PySem.W.keepIn K (.ref C) = true := by
  unfold clsB at h
  simp only [Bool.and_eq_true, decide_eq_true_eq] at h
  obtain ⟨⟨⟨⟨⟨⟨⟨⟨⟨⟨b1, b2⟩, b3⟩, b4⟩, b5⟩, b6⟩, b7⟩, b8⟩, b9⟩, b10⟩, b11⟩ := h
  exact ⟨⟨⟨b1, b2, b3, b4⟩, b5, b6, b7, b8⟩, b9, b10, b11⟩
end HL

/-! except X as e: return [(tag, e.f, isinstance(e, ..))]; the table of a law with own classes. -/
namespace HL
open PySem PySem.Spec PyProof.Rows L2
def toldLF (fld tag : Str) (x : Er) : Option (Bool × D) := if x.fld = fld then some (true, .lst [.tup [.str tag, x.arg, .bl false]]) else none
def toldTF (fld tag : Str) (x : Er) : Option (Bool × D) := if x.fld = fld then some (false, .tup [.str tag, x.arg, .bl false]) else none
section
variable {X : Cx} {a : Addr} {oe : Obj} {cls : Value} {d : Option Addr} {pn : List (Addr × Obj)} {cl : Cl} {W : WX}
theorem suite_toldL {i : Nat} {C : Addr} {fld tag : Str} {Cs : List Addr} {en1 en2 : Expr} {es : List Expr} {j : Nat} {ps p1 p2 p3 p4 p5 p6 p7 : Pos} {x1 x2 : _} (T : L2.XfC X.K C) (T2 : XkC X.K C) (hno : PySem.W.findIn X.K (.ref C) fld = some none) (hz : Zc cls d oe) (hf : ∃ vs, oe.data = .fields vs)
    (hk : PySem.W.kitAny X.K (.ref C) (Cs.map Value.ref) = some false)
    (h1 : PE (X.suite a ((a, oe) :: pn)) en1 (tVar i)) (h2 : PE (X.suite a ((a, oe) :: pn)) en2 (tVar i)) (hc : Clss (X.suite a ((a, oe) :: pn)) es Cs) (hg : Gl X "isinstance") (hm : X.mg "isinstance" = none) (few : decide (Cs.length ≤ 60) = true)
    (hb : attributeBase en1 fld X.env (eval en1 X.env) = eval en1 X.env := by rfl)
    (hs0 : starEach [.Tuple [.Constant (.str tag) j p1, .Attribute en1 fld p2, .Call (.Name "isinstance" p3) [en2, .Tuple es x1 p4] [] p5] x2 p6] X.env = (false, eval (.Tuple [.Constant (.str tag) j p1, .Attribute en1 fld p2, .Call (.Name "isinstance" p3) [en2, .Tuple es x1 p4] [] p5] x2 p6) X.env) :: starEach [] X.env := by rfl)
    (hs1 : starEach [.Constant (.str tag) j p1, .Attribute en1 fld p2, .Call (.Name "isinstance" p3) [en2, .Tuple es x1 p4] [] p5] X.env = (false, eval (.Constant (.str tag) j p1) X.env) :: starEach [.Attribute en1 fld p2, .Call (.Name "isinstance" p3) [en2, .Tuple es x1 p4] [] p5] X.env := by rfl)
    (hs2 : starEach [.Attribute en1 fld p2, .Call (.Name "isinstance" p3) [en2, .Tuple es x1 p4] [] p5] X.env = (false, eval (.Attribute en1 fld p2) X.env) :: starEach [.Call (.Name "isinstance" p3) [en2, .Tuple es x1 p4] [] p5] X.env := by rfl)
    (hs3 : starEach [.Call (.Name "isinstance" p3) [en2, .Tuple es x1 p4] [] p5] X.env = (false, eval (.Call (.Name "isinstance" p3) [en2, .Tuple es x1 p4] [] p5) X.env) :: starEach [] X.env := by rfl)
    (hs4 : starEach [en2, .Tuple es x1 p4] X.env = (false, eval en2 X.env) :: starEach [.Tuple es x1 p4] X.env := by rfl) (hs5 : starEach [.Tuple es x1 p4] X.env = (false, eval (.Tuple es x1 p4) X.env) :: starEach [] X.env := by rfl)
    (hpl : (backTo p5 (starEach [.Tuple es x1 p4] X.env)).any (·.1) = false := by rfl) :
    PSs (X.suite a ((a, oe) :: pn)) [.Return (some (.List [.Tuple [.Constant (.str tag) j p1, .Attribute en1 fld p2, .Call (.Name "isinstance" p3) [en2, .Tuple es x1 p4] [] p5] x2 p6] p7)) ps] (tSuite cl W (· = C) (toldLF fld tag) i 0 a cls d) := by
  refine pss_weak (pss_one (ps_ret (pe_lst (pa_cons (pe_tup (pa_cons pe_str (pa_cons (pe_xf T hno hz hf h1 hb) (pa_cons (pe_callB (call_isE hz hf) hg hm boot_isi (pa_cons h2 (pa_cons (pe_tup hc.pa) pa_nil hs5) hs4) (by decide) (by decide) hs4 hpl) pa_nil hs3) hs2) hs1)) pa_nil hs0)))) fun Dn σ H q => ?_
  obtain ⟨F0, H0, F, env, x, C', dd, v, hi, _, st, rfl, hcl, rfl, hxm, hne, rfl, hd, r, p⟩ := q
  unfold toldLF at p
  split at p
  case isFalse => exact p.elim
  rename_i hfld
  refine ⟨.ref a, hi, rfl, rfl, dd, _, v, rfl, hd, by rw [hfld]; simp [List.lookup], ?_⟩
  refine ⟨.ref a, hi, ?_⟩
  have zl : (Cs.map V.ref).length ≤ sizeLine := by rw [List.length_map]; exact few_line few
  refine ⟨zl, fun tp htp => ?_⟩
  have ft := sub_none st.sub htp
  have s1 : Sub F (upd H tp (.tup (Cs.map V.ref))) := sub_upd st.sub ft
  have k1 : Kp F0.1 H0 F (upd H tp (.tup (Cs.map V.ref))) := st.kp.trans (kp_new htp)
  have hdt : dd ≠ tp := ne_of_none hd htp
  refine ⟨tp, _, _, false, dd, _, C', rfl, upd_same, Clss.paired Cs, rfl, rfl, by rw [upd_ne hdt]; exact hd, hk, T, T2, ?_⟩
  refine ⟨by show 3 ≤ sizeLine; rw [sizeLine_eq]; omega, fun p' hp' => ?_⟩
  obtain ⟨F2, x2, k2, s2, r2, _⟩ := freezeO (u := .tup [.str tag, v, .bl false]) (cl := cl) (d := .tup [.str tag, x.arg, .bl false]) (k1.trans (kp_new hp')) (sub_upd s1 (sub_none s1 hp')) (k1.same.free hp') (sub_none s1 hp') upd_same
    ⟨_, rfl, by simp only [RepL, Rep]; exact ⟨_, _, rfl, rfl, _, _, rfl, r, _, _, rfl, rfl, rfl⟩, by show 3 ≤ sizeLine; rw [sizeLine_eq]; omega⟩
  refine ⟨by show 1 ≤ sizeLine; rw [sizeLine_eq]; omega, fun pl hpl' => ?_⟩
  have fp := sub_none s2 hpl'
  refine p _ F2 _ (k2.trans (kp_new hpl')) (sub_upd s2 fp) ?_
  unfold RetR
  rw [if_pos rfl]
  refine ⟨pl, rfl, k2.same.free hpl', fp, .lst [.ref p'], upd_same, ⟨_, rfl, ?_, by show 1 ≤ sizeLine; rw [sizeLine_eq]; omega⟩, rfl⟩
  simp only [RepL]
  exact ⟨_, _, rfl, r2, rfl⟩
end
theorem lookup_app {κ α : Type} [BEq κ] [LawfulBEq κ] {x : κ} {v : α} {l r : List (κ × α)} (h : (l ++ r).lookup x = some v) : l.lookup x = some v ∨ (x, v) ∈ r := by
  induction l with
  | nil => exact .inr (lookup_mem h)
  | cons p t ih =>
    obtain ⟨y, u⟩ := p
    rw [List.cons_append, List.lookup_cons] at h
    rw [List.lookup_cons]
    cases e : (x == y) with
    | true => rw [e] at h; exact .inl h
    | false => rw [e] at h; exact ih h
theorem errTab_mk2 {K : PySem.W.Frag} {le lc : List (Str × Addr)} (h : exB K le = true) (hx : ∀ p ∈ le, L2.XfC K p.2 ∧ XkC K p.2) (hn : lc.all (fun p => !errNames.contains p.1) = true) : ErrTab (clOf (le ++ lc)) K := by
  have back : ∀ c ∈ errNames, ∀ C, clOf (le ++ lc) c = some C → clOf le c = some C := fun c hc C e => by
    rcases lookup_app e with z | z
    · exact z
    · have := List.all_eq_true.mp hn _ z
      simp [hc] at this
  obtain ⟨⟨e1, e2⟩, e3⟩ := errTab_mk h hx
  exact ⟨⟨fun c hc c' hc' C C' e e' => e1 c hc c' hc' C C' (back c hc C e) (back c' hc' C' e'), fun c hc C e => e2 c hc C (back c hc C e)⟩, fun c hc c' hc' C C' e e' => e3 c hc c' hc' C C' (back c hc C e) (back c' hc' C' e')⟩
open PySem.W in
def fldB (K : PySem.W.Frag) (l : List (Str × Addr)) : Bool := l.all fun p => flds.all fun q => q.1 != p.1 || (clsB K p.2 && decide (findIn K (.ref p.2) q.2 = some none))
theorem fldTab_mk {K : PySem.W.Frag} {l : List (Str × Addr)} (h : fldB K l = true) : FldTab (clOf l) K := by
  refine ⟨fun c f C hc e => ?_⟩
  have h1 := List.all_eq_true.mp h _ (lookup_mem e)
  have h2 := List.all_eq_true.mp h1 (c, f) (by simpa using hc)
  simp only [bne_self_eq_false, Bool.false_or, Bool.and_eq_true, decide_eq_true_eq] at h2
  exact ⟨(clsB_ok h2.1).1.cl, h2.2⟩
open PySem.W in
/-- of isinstance(x, T): the classes of the program, the plain types -/
def isiB (K : PySem.W.Frag) (l : List (Str × Addr)) (T : Str) (CT : Addr) : Bool := (l.all fun p => !clsNames.contains p.1 || (clsB K p.2 && decide (kitOne K (.ref p.2) (.ref CT) = some (p.1 == T)))) &&
  (["NoneType", "bool", "int", "str", "tuple", "list", "dict"].all fun t => decide (kitOne K (.type t) (.ref CT) = some false))
theorem isiTab_mk {K : PySem.W.Frag} {l : List (Str × Addr)} {T : Str} {CT : Addr} (h : isiB K l T CT = true) : IsiTab (clOf l) K T CT := by
  unfold isiB at h
  rw [Bool.and_eq_true] at h
  refine ⟨fun c hc C e => ?_, fun t ht => ?_⟩
  · have h1 := List.all_eq_true.mp h.1 _ (lookup_mem e)
    have hc' : clsNames.contains c = true := by simpa using hc
    simp only [hc', Bool.not_true, Bool.false_or, Bool.and_eq_true, decide_eq_true_eq] at h1
    exact ⟨(clsB_ok h1.1).1, h1.2⟩
  · simpa using List.all_eq_true.mp h.2 t ht
/-! ### what the text asks of the classes' defs -/
section
variable {P : Program} {w : World} {K : PySem.W.Frag} {mg : Str → Option Value} {base : Heap} {cl : Cl} {C fa : Addr} {fd : FuncData} {ps : List Str} {k n : Nat} {c m : Str}
theorem dc_mk {f : List D → R (List (Str × D))} (b : clsB K C = true) (F : FnOk P w K mg base (L2.CX P w) k fa fd ps (spI cl c n f)) (hi : PySem.W.findIn K (.ref C) "__init__" = some (some (.ref fa))) (hf : PySem.W.isFn K (.ref fa) = true) (hm : mg c = some (.ref C)) (hcl : cl c = some C) (hb : Binds K fd ps []) : Dc P w K mg base cl k c n f :=
  ⟨_, _, _, _, F, ⟨(clsB_ok b).2.1, hi, hf, (clsB_ok b).2.2.2⟩, hm, hcl, hb⟩
theorem dm_mk {f : List D → R (Bool × D)} (b : clsB K C = true) (F : FnOk P w K mg base (L2.CX P w) k fa fd ps (spD cl (n + 1) f)) (hi : PySem.W.findIn K (.ref C) m = some (some (.ref fa))) (hf : PySem.W.isFn K (.ref fa) = true) (hk : PySem.W.keepIn K (.ref fa) = true) (hcl : cl c = some C) (hb : Binds K fd ps []) : Dm P w K mg base cl k c m n f :=
  ⟨_, _, _, _, F, ⟨hi, hf, hk⟩, (clsB_ok b).1.cl, hcl, hb⟩
theorem ds_mk {f : List D → R (Bool × D)} (F : FnOk P w K mg base (L2.CX P w) k fa fd ps (spD cl 1 f)) (hi : PySem.W.findIn K (.ref C) "__str__" = some (some (.ref fa))) (hf : PySem.W.isFn K (.ref fa) = true) (hcl : cl c = some C) (hb : Binds K fd ps []) : Ds P w K mg base cl k c f :=
  ⟨_, _, _, _, F, hi, hf, hcl, hb⟩
theorem do_mk {f : List D → R (Bool × D)} (b : clsB K C = true) {m' : Str} (em : m' = m) (F : FnOk P w K mg base (L2.CX P w) k fa fd ps (spD cl 2 f)) (hi : PySem.W.findIn K (.ref C) m = some (some (.ref fa))) (hf : PySem.W.isFn K (.ref fa) = true) (hcl : cl c = some C) (hb : Binds K fd ps []) : Do P w K mg base cl k c m' f := by
  subst em
  exact ⟨_, _, _, _, F, hi, hf, hcl, hb, (clsB_ok b).2.2.1⟩
open PySem.W in
def mroB (K : PySem.W.Frag) (C : Addr) (inm : Str) : Bool := (match clsIn K C with
  | some cd => decide (cd.mro = [.ref C, .type "object"])
  | none => false) && decide (findIn K (.ref C) inm = some none)
theorem di_mk {f : List D → R (Bool × D)} {m' im im' : Str} (O : Do P w K mg base cl k c m' f) (ei : im' = im) (b : mroB K C im = true) (hcl : cl c = some C) (hob : typeLookup (.type "object") im = pure none) : Di P w K mg base cl k c m' im' f := by
  subst ei
  unfold mroB at b
  rw [Bool.and_eq_true] at b
  refine ⟨O, fun C' e => ?_, fun C' e => ?_, hob⟩
  · rw [hcl] at e
    cases e
    cases h : PySem.W.clsIn K C with
    | none => rw [h] at b; cases b.1
    | some cd => rw [h] at b; exact ⟨cd, rfl, by simpa using b.1⟩
  · rw [hcl] at e
    cases e
    simpa using b.2
theorem dp_mk {f : List D → R (Bool × D)} {p : Addr} (b : clsB K C = true) (F : FnOk P w K mg base (L2.CX P w) k fa fd ps (spD cl 1 f)) (h1 : PySem.W.findIn K (.ref C) m = some (some (.ref p))) (h2 : PySem.W.specialIn K (.ref p) "__get__" = some (some (.builtin "property.__get__"))) (h3 : PySem.W.takesIn K (.ref p) = some true) (h4 : ∃ rest, PySem.W.recIn K p "property" = some (.ref fa :: rest)) (hcl : cl c = some C) (hb : Binds K fd ps []) : Dp P w K mg base cl k c m f :=
  ⟨_, _, _, _, _, F, ⟨h1, h2, h3, h4⟩, (clsB_ok b).1.cl, hcl, hb⟩
end
theorem dun_mul : PySem.dunder Operator.Mult.info.2 = "__mul__" := by rfl
theorem dun_add : PySem.dunder Operator.Add.info.2 = "__add__" := by rfl
theorem dun_imul : dunderI Operator.Mult.info.2 = "__imul__" := by rfl
theorem dun_iadd : dunderI Operator.Add.info.2 = "__iadd__" := by rfl
theorem ob_imul : typeLookup (.type "object") "__imul__" = pure none := by rfl
theorem ob_iadd : typeLookup (.type "object") "__iadd__" = pure none := by rfl
end HL

/-! Plain law: trees of terms. -/
namespace HL
open PySem L2
def bt_leaves (g : List D → R (Bool × D)) : HEnv → SO :=
  (mSeq (mIfS (m1 truD (m1 (isiD "str") (mOwn 0)))
  (mRetN (mLstE (mCons (mVar 0) mNil)))
  mNext)
  (mRet (m2 addD (mCall g (mCons (m2 ixD (mOwn 0) (mC (.int 1))) mNil)) (mCall g (mCons (m2 ixD (mOwn 0) (mC (.int 2))) mNil)))))
def bt_leaves2 (g : List D → R (Bool × D)) : HEnv → SO :=
  (mSeq (mIfS (m1 truD (m1 (isiD "str") (mOwn 0)))
  (mRetN (mLstE (mCons (mVar 0) mNil)))
  mNext)
  (mRet (m2 addD (mCall g (mCons (m2 ixD (mOwn 0) (mC (.int 1))) mNil)) (mCall g (mCons (m2 ixD (mOwn 0) (mC (.int 2))) mNil)))))
def bt_operand (g : List D → R (Bool × D)) : HEnv → SO :=
  (mSeq (mSet 3 (mCall g (mCons (mVar 0) mNil)))
  (mSeq (mIfS (mAndT (mNotT (m1 truD (m1 (isiD "str") (mOwn 0)))) (mOrT (mAndT (m1 truB (m2 eqD (m2 ixD (mOwn 0) (mC (.int 0))) (mC (.str "+")))) (m1 truB (m2 eqD (mOwn 1) (mC (.str "*"))))) (mAndT (m1 truD (mOwn 2)) (m1 truB (m2 eqD (m2 ixD (mOwn 0) (mC (.int 0))) (mOwn 1))))))
  (mRet (mJoinS [(mC (.str "(")), (mFmt (mVar 3)), (mC (.str ")"))] Str.empty))
  mNext)
  (mRet (mVar 3))))
def bt_written (g : List D → R (Bool × D)) : HEnv → SO :=
  (mSeq (mIfS (m1 truD (m1 (isiD "str") (mOwn 0)))
  (mRet (mVar 0))
  mNext)
  (mSeq (mAsg (mVar 0) (gTupD (gsCons (gN 1) (gsCons (gN 2) (gsCons (gN 3) gsNil)))))
  (mRet (mJoinS [(mFmt (mCall g (mCons (mVar 2) (mCons (mVar 1) (mCons (mC (.bl false)) mNil))))), (mC (.str " ")), (mFmt (mVar 1)), (mC (.str " ")), (mFmt (mCall g (mCons (mVar 3) (mCons (mVar 1) (mCons (mC (.bl true)) mNil)))))] Str.empty))))
def bt_written2 (g : List D → R (Bool × D)) : HEnv → SO :=
  (mSeq (mIfS (m1 truD (m1 (isiD "str") (mOwn 0)))
  (mRet (mVar 0))
  mNext)
  (mSeq (mSet 1 (mCall g (mCons (m2 ixD (mOwn 0) (mC (.int 1))) mNil)))
  (mSeq (mSet 2 (mCall g (mCons (m2 ixD (mOwn 0) (mC (.int 2))) mNil)))
  (mSeq (mIfS (mAndT (m1 truB (m2 eqD (m2 ixD (mOwn 0) (mC (.int 0))) (mC (.str "*")))) (mAndT (mNotT (m1 truD (m1 (isiD "str") (m2 ixD (mOwn 0) (mC (.int 1)))))) (m1 truB (m2 eqD (m2 ixD (m2 ixD (mOwn 0) (mC (.int 1))) (mC (.int 0))) (mC (.str "+"))))))
  (mSet 1 (m2 addD (m2 addD (mC (.str "(")) (mOwn 1)) (mC (.str ")"))))
  mNext)
  (mSeq (mIfS (mAndT (mNotT (m1 truD (m1 (isiD "str") (m2 ixD (mOwn 0) (mC (.int 2)))))) (mOrT (m1 truB (m2 eqD (m2 ixD (mOwn 0) (mC (.int 0))) (mC (.str "*")))) (m1 truB (m2 eqD (m2 ixD (m2 ixD (mOwn 0) (mC (.int 2))) (mC (.int 0))) (mC (.str "+"))))))
  (mSet 2 (m2 addD (m2 addD (mC (.str "(")) (mOwn 2)) (mC (.str ")"))))
  mNext)
  (mRet (m2 addD (m2 addD (m2 addD (m2 addD (mOwn 1) (mC (.str " "))) (m2 ixD (mOwn 0) (mC (.int 0)))) (mC (.str " "))) (mOwn 2))))))))
def bt_replaced (g : List D → R (Bool × D)) : HEnv → SO :=
  (mSeq (mIfS (m1 truD (m1 (isiD "str") (mOwn 0)))
  (mRet (mIfE (m1 truB (m2 eqD (mOwn 0) (mOwn 1))) (mVar 2) (mVar 0)))
  mNext)
  (mRet (mTupE (mCons (m2 ixD (mOwn 0) (mC (.int 0))) (mCons (mCall g (mCons (m2 ixD (mOwn 0) (mC (.int 1))) (mCons (mVar 1) (mCons (mVar 2) mNil)))) (mCons (mCall g (mCons (m2 ixD (mOwn 0) (mC (.int 2))) (mCons (mVar 1) (mCons (mVar 2) mNil)))) mNil))))))
def bt_replaced2 (g : List D → R (Bool × D)) : HEnv → SO :=
  (mSeq (mIfS (m1 truB (m2 eqD (mOwn 0) (mOwn 1)))
  (mRet (mVar 2))
  mNext)
  (mSeq (mIfS (m1 truD (m1 (isiD "str") (mOwn 0)))
  (mRet (mVar 0))
  mNext)
  (mSeq (mSet 3 (mCall g (mCons (m2 ixD (mOwn 0) (mC (.int 1))) (mCons (mVar 1) (mCons (mVar 2) mNil)))))
  (mRet (mTupE (mCons (m2 ixD (mOwn 0) (mC (.int 0))) (mCons (mVar 3) (mCons (mCall g (mCons (m2 ixD (mOwn 0) (mC (.int 2))) (mCons (mVar 1) (mCons (mVar 2) mNil)))) mNil))))))))
def bt_names_of (g : List D → R (Bool × D)) : HEnv → SO :=
  (mSeq (mSetN 1 (fun _ => .ok (.dic false [])))
  (mSeq (mFor (m1 itemsD (mVar 0)) (gN 2)
  (mFor (m1 itemsD (mCall g (mCons (mVar 2) mNil))) (gN 3)
  (mPutD 1 (mVar 3) (mC (.bl true)))))
  (mRet (m1 tupleD (mComp [4] (m1 itemsD (mC (.str "ABCDEFGHIJKLMNOPQRSTUVWXYZ"))) (gN 4) (m1 truB (m2 (inN false) (mOwn 4) (mOwn 1))) (mVar 4))))))
def bt_names_in (g : List D → R (Bool × D)) : HEnv → SO :=
  (mSeq (mSet 1 (mCall g (mCons (mVar 0) mNil)))
  (mRetN (mComp [2] (m1 itemsD (mC (.str "ABCDEFGHIJKLMNOPQRSTUVWXYZ"))) (gN 2) (m1 truB (m2 (inN false) (mOwn 2) (mOwn 1))) (mVar 2))))
def bt_tree_of  : HEnv → SO :=
  (mSeq (mSet 3 (m2 addD (mC (.int 1)) (m2 modD (m1 intD (m2 ixD (mOwn 0) (mC (.int 0)))) (mOwn 1))))
  (mSeq (mSet 4 (mComp [5] (m1 range1D (mCons (mVar 3) mNil)) (gN 5) mYes (m2 ixD (mOwn 2) (m2 modD (m1 intD (m2 ixD (mOwn 0) (m2 addD (mC (.int 1)) (mOwn 5)))) (m1 lenD (mOwn 2))))))
  (mSeq (mFor (m1 range1D (mCons (m2 subD (mOwn 3) (mC (.int 1))) mNil)) (gN 5)
  (mSeq (mSet 6 (m1 intD (m2 ixD (mOwn 0) (m2 addD (m2 addD (mC (.int 1)) (mOwn 1)) (mOwn 5)))))
  (mSeq (mSet 7 (m2 modD (m2 divD (mOwn 6) (mC (.int 2))) (m2 subD (m1 lenD (mOwn 4)) (mC (.int 1)))))
  (mSeq (mSet 8 (mTupE (mCons (m2 ixD (mC (.str "*+")) (m2 modD (mOwn 6) (mC (.int 2)))) (mCons (m2 ixD (mOwn 4) (mOwn 7)) (mCons (m2 ixD (mOwn 4) (m2 addD (mOwn 7) (mC (.int 1)))) mNil)))))
  (mSet 4 (m2 addD (m2 addD (mSl slD (mOwn 4) mNoPart (mPart (mVar 7))) (mLstE (mCons (mVar 8) mNil))) (mSl slD (mOwn 4) (mPart (m2 addD (mOwn 7) (mC (.int 2)))) mNoPart)))))))
  (mRet (m2 ixD (mOwn 4) (mC (.int 0)))))))
/-! ### small things -/
theorem andT_ok {t u : HEnv → R Bool} {env : HEnv} {a b : Bool} (h : t env = .ok a) (k : a = true → u env = .ok b) : mAndT t u env = .ok (a && b) := by
  unfold mAndT
  rw [h, R.bind_ok]
  cases a with
  | true => rw [if_pos rfl, k rfl]; rfl
  | false => rfl
theorem orT_ok {t u : HEnv → R Bool} {env : HEnv} {a b : Bool} (h : t env = .ok a) (k : a = false → u env = .ok b) : mOrT t u env = .ok (a || b) := by
  unfold mOrT
  rw [h, R.bind_ok]
  cases a with
  | true => rfl
  | false => rw [if_neg (by decide), k rfl]; rfl
theorem notT_ok {t : HEnv → R Bool} {env : HEnv} {b : Bool} (h : t env = .ok b) : mNotT t env = .ok (!b) := m1_ok h
theorem addS_ok {a b : Str} (h : a.length + b.length ≤ 1000000) : addD (.str a) (.str b) = .ok (.str (a ++ b)) := if_pos (le_line h)
theorem lit1 {x : Str} {c : Nat} (h : x = tx [c]) (env : HEnv) : mC (.str x) env = .ok (nm c) := by rw [h]; rfl
theorem c_star : (Str.ofString "*") = tx [42] := by decide +kernel
theorem c_plus : (Str.ofString "+") = tx [43] := by decide +kernel
theorem c_open : (Str.ofString "(") = tx [40] := by decide +kernel
theorem c_close : (Str.ofString ")") = tx [41] := by decide +kernel
theorem c_gap : (Str.ofString " ") = tx [32] := by decide +kernel
theorem eq_nm2 (a b : Nat) : eqD (nm a) (nm b) = .ok (.bl (decide (a = b))) := by
  show (if sim (nm a) = true ∧ sim (nm b) = true then R.ok (D.bl (deq (nm a) (nm b))) else R.stuck) = _
  rw [if_pos ⟨rfl, rfl⟩, deq_nm]
theorem t_eqn {ma mb : HEnv → R D} {env : HEnv} {a b : Nat} (h1 : ma env = .ok (nm a)) (h2 : mb env = .ok (nm b)) : m1 truB (m2 eqD ma mb) env = .ok (decide (a = b)) := by
  rw [m1_ok ((m2_ok h1 h2).trans (eq_nm2 a b))]
  rfl
theorem tupE_ok {ms : HEnv → R (List D)} {env : HEnv} {ds : List D} (h : ms env = .ok ds) : mTupE ms env = .ok (.tup ds) := m1_ok h
/-! ### trees -/
inductive Tr where
  | lf (c : Nat)
  | nd (s : Nat) (l r : Tr)
def Tr.d : Tr → D
  | .lf c => nm c
  | .nd s l r => .tup [nm s, l.d, r.d]
def Tr.dep : Tr → Nat
  | .lf _ => 0
  | .nd _ l r => max l.dep r.dep + 1
def Tr.ls : Tr → List Nat
  | .lf c => [c]
  | .nd _ l r => l.ls ++ r.ls
def Tr.isS (s : Nat) : Tr → Bool
  | .lf _ => false
  | .nd s' _ _ => s' == s
def Tr.isN : Tr → Bool
  | .lf _ => false
  | .nd _ _ _ => true
/-- each sign * or + -/
def Tr.ok : Tr → Bool
  | .lf _ => true
  | .nd s l r => (s == 42 || s == 43) && l.ok && r.ok
def par (b : Bool) (x : List Nat) : List Nat := if b = true then 40 :: x ++ [41] else x
def Tr.wr : Tr → List Nat
  | .lf c => [c]
  | .nd s l r => par (s == 42 && l.isS 43) l.wr ++ [32] ++ [s] ++ [32] ++ par (r.isN && (s == 42 || r.isS 43)) r.wr
def Tr.put : Tr → Nat → Tr → Tr
  | .lf c, n, u => if c = n then u else .lf c
  | .nd s l r, n, u => .nd s (l.put n u) (r.put n u)
def Tr.eqL (n : Nat) : Tr → Bool
  | .lf c => decide (c = n)
  | .nd _ _ _ => false
theorem Tr.ls_pos : ∀ t : Tr, 1 ≤ t.ls.length
  | .lf _ => Nat.le_refl _
  | .nd _ l r => by
    have := Tr.ls_pos l
    simp only [Tr.ls, List.length_append]
    omega
theorem Tr.dep_ls : ∀ t : Tr, t.dep + 1 ≤ t.ls.length
  | .lf _ => Nat.le_refl _
  | .nd _ l r => by
    have h1 := Tr.dep_ls l
    have h2 := Tr.dep_ls r
    have h3 := Tr.ls_pos l
    have h4 := Tr.ls_pos r
    simp only [Tr.ls, Tr.dep, List.length_append]
    omega
theorem Tr.simp_ok : ∀ (t : Tr) (n : Nat), t.dep ≤ n → simp? n t.d = true
  | .lf c, n, _ => by
    simp only [Tr.d, nm]
    unfold simp?
    rfl
  | .nd s l r, 0, h => by simp [Tr.dep] at h
  | .nd s l r, n + 1, h => by
    simp only [Tr.dep] at h
    simp only [Tr.d, simp?, simpL?, Tr.simp_ok l n (by omega), Tr.simp_ok r n (by omega), Bool.and_true]
    unfold nm simp?
    rfl
theorem Tr.sim_ok {t : Tr} (h : t.dep ≤ 50) : sim t.d = true := Tr.simp_ok t 50 h
theorem Tr.nd_dep {s : Nat} {l r : Tr} {n : Nat} (h : (Tr.nd s l r).dep < n + 1) : l.dep < n ∧ r.dep < n := by
  simp only [Tr.dep] at h
  omega
/-- a def that calls itself, n deep -/
def recF (B : (List D → R (Bool × D)) → List D → R (Bool × D)) : Nat → List D → R (Bool × D)
  | 0 => fun _ => .stuck
  | n + 1 => B (recF B n)
abbrev F1 := List D → R (Bool × D)
theorem isi_lf (c : Nat) {m : HEnv → R D} {env : HEnv} (h : m env = .ok (nm c)) : m1 truD (m1 (isiD "str") m) env = .ok true := (m1_ok (a := D.bl true) ((m1_ok h).trans rfl)).trans rfl
theorem isi_nd {xs : List D} {m : HEnv → R D} {env : HEnv} (h : m env = .ok (.tup xs)) : m1 truD (m1 (isiD "str") m) env = .ok false := (m1_ok (a := D.bl false) ((m1_ok h).trans rfl)).trans rfl
theorem isi_t (t : Tr) {m : HEnv → R D} {env : HEnv} (h : m env = .ok t.d) : m1 truD (m1 (isiD "str") m) env = .ok (!t.isN) := by
  cases t with
  | lf c => exact isi_lf c h
  | nd s l r => exact isi_nd h
/-! ### leaves -/
theorem leaves_step {g : F1} {t : Tr} (hz : t.ls.length ≤ 1000) (hg : ∀ s l r, t = .nd s l r → (∃ o, g [l.d] = .ok (o, .lst (l.ls.map nm))) ∧ ∃ o, g [r.d] = .ok (o, .lst (r.ls.map nm))) :
    ∃ o, fnS 1 (bt_leaves g) [t.d] = .ok (o, .lst (t.ls.map nm)) := by
  cases t with
  | lf c => exact ⟨true, fnS_rt (mSeq_rt ((mIf_tt (isi_lf c rfl)).trans (mRetN_ok rfl)))⟩
  | nd s l r =>
    obtain ⟨⟨o1, h1⟩, o2, h2⟩ := hg s l r rfl
    refine ⟨false, fnS_rt ((mSeq_nx ((mIf_ff (isi_nd rfl)).trans rfl)).trans (mRet_ok ((m2_ok (mCall_ok (mCons_ok rfl rfl) h1) (mCall_ok (mCons_ok rfl rfl) h2)).trans ?_)))⟩
    simp only [Tr.ls, List.length_append] at hz
    show (if (l.ls.map nm).length + (r.ls.map nm).length ≤ sizeLine then R.ok (D.lst (l.ls.map nm ++ r.ls.map nm)) else R.stuck) = _
    rw [if_pos (by rw [List.length_map, List.length_map]; exact le_line (by omega)), Tr.ls, List.map_append]
theorem leaves_rec {B : F1 → F1} (hB : ∀ g, B g = fnS 1 (bt_leaves g)) : ∀ (n : Nat) (t : Tr), t.dep < n → t.ls.length ≤ 1000 → ∃ o, recF B n [t.d] = .ok (o, .lst (t.ls.map nm))
  | 0, t, h, _ => absurd h (by omega)
  | n + 1, t, h, hz => by
    show ∃ o, B (recF B n) [t.d] = _
    rw [hB]
    refine leaves_step hz fun s l r e => ?_
    subst e
    obtain ⟨h1, h2⟩ := Tr.nd_dep h
    simp only [Tr.ls, List.length_append] at hz
    exact ⟨leaves_rec hB n l h1 (by omega), leaves_rec hB n r h2 (by omega)⟩
/-! ### replaced -/
theorem eq_tn (t : Tr) (c : Nat) (h : t.dep ≤ 50) : eqD t.d (nm c) = .ok (.bl (t.eqL c)) := by
  cases t with
  | lf x => exact eq_nm2 x c
  | nd s l r =>
    show (if sim (Tr.nd s l r).d = true ∧ sim (nm c) = true then R.ok (D.bl (deq (Tr.nd s l r).d (nm c))) else R.stuck) = _
    rw [if_pos ⟨Tr.sim_ok h, rfl⟩]
    rfl
theorem replaced_step {g : F1} {t u : Tr} {c : Nat} (ht : t.dep ≤ 50) (hg : ∀ s l r, t = .nd s l r → (∃ o, g [l.d, nm c, u.d] = .ok (o, (l.put c u).d)) ∧ ∃ o, g [r.d, nm c, u.d] = .ok (o, (r.put c u).d)) :
    ∃ o, fnS 3 (bt_replaced g) [t.d, nm c, u.d] = .ok (o, (t.put c u).d) := by
  cases t with
  | lf x =>
    refine ⟨false, fnS_rt (mSeq_rt ((mIf_tt (isi_lf x rfl)).trans (mRet_ok ?_)))⟩
    unfold mIfE
    rw [t_eqn (a := x) (b := c) rfl rfl, R.bind_ok]
    by_cases e : x = c
    · rw [if_pos (decide_eq_true e), Tr.put, if_pos e]; rfl
    · rw [if_neg (by simpa using e), Tr.put, if_neg e]; rfl
  | nd s l r =>
    obtain ⟨⟨o1, h1⟩, o2, h2⟩ := hg s l r rfl
    exact ⟨false, fnS_rt ((mSeq_nx ((mIf_ff (isi_nd rfl)).trans rfl)).trans (mRet_ok (tupE_ok (mCons_ok rfl (mCons_ok (mCall_ok (mCons_ok rfl rfl) h1) (mCons_ok (mCall_ok (mCons_ok rfl rfl) h2) rfl))))))⟩
theorem replaced2_step {g : F1} {t u : Tr} {c : Nat} (ht : t.dep ≤ 50) (hg : ∀ s l r, t = .nd s l r → (∃ o, g [l.d, nm c, u.d] = .ok (o, (l.put c u).d)) ∧ ∃ o, g [r.d, nm c, u.d] = .ok (o, (r.put c u).d)) :
    ∃ o, fnS 4 (bt_replaced2 g) [t.d, nm c, u.d] = .ok (o, (t.put c u).d) := by
  have he : m1 truB (m2 eqD (mOwn 0) (mOwn 1)) [.val t.d, .val (nm c), .val u.d, .no] = .ok (t.eqL c) := by
    rw [m1_ok (a := .bl (t.eqL c)) ((m2_ok (a := t.d) (b := nm c) rfl rfl).trans (eq_tn t c ht))]
    rfl
  cases t with
  | lf x =>
    by_cases e : x = c
    · refine ⟨false, fnS_rt (mSeq_rt ((mIf_tt (he.trans ?_)).trans (mRet_ok ?_)))⟩
      · rw [Tr.eqL, decide_eq_true e]
      · rw [Tr.put, if_pos e]; rfl
    · refine ⟨false, fnS_rt ((mSeq_nx ((mIf_ff (he.trans ?_)).trans rfl)).trans (mSeq_rt ((mIf_tt (isi_lf x rfl)).trans (mRet_ok ?_))))⟩
      · rw [Tr.eqL, decide_eq_false e]
      · rw [Tr.put, if_neg e]; rfl
  | nd s l r =>
    obtain ⟨⟨o1, h1⟩, o2, h2⟩ := hg s l r rfl
    exact ⟨false, fnS_rt ((mSeq_nx ((mIf_ff he).trans rfl)).trans ((mSeq_nx ((mIf_ff (isi_nd rfl)).trans rfl)).trans ((mSeq_nx (mSet_ok (mCall_ok (mCons_ok rfl rfl) h1))).trans (mRet_ok (tupE_ok (mCons_ok rfl (mCons_ok rfl (mCons_ok (mCall_ok (mCons_ok rfl rfl) h2) rfl))))))))⟩
theorem replaced_rec {B : F1 → F1} (hB : (∀ g, B g = fnS 3 (bt_replaced g)) ∨ ∀ g, B g = fnS 4 (bt_replaced2 g)) (c : Nat) (u : Tr) : ∀ (n : Nat) (t : Tr), t.dep < n → n ≤ 50 → ∃ o, recF B n [t.d, nm c, u.d] = .ok (o, (t.put c u).d)
  | 0, t, h, _ => absurd h (by omega)
  | n + 1, t, h, hn => by
    show ∃ o, B (recF B n) [t.d, nm c, u.d] = _
    have hs : ∀ s l r, t = .nd s l r → (∃ o, recF B n [l.d, nm c, u.d] = .ok (o, (l.put c u).d)) ∧ ∃ o, recF B n [r.d, nm c, u.d] = .ok (o, (r.put c u).d) := fun s l r e => by
      subst e
      obtain ⟨h1, h2⟩ := Tr.nd_dep h
      exact ⟨replaced_rec hB c u n l h1 (by omega), replaced_rec hB c u n r h2 (by omega)⟩
    rcases hB with hB' | hB'
    · rw [hB']
      exact replaced_step (by omega) hs
    · rw [hB']
      exact replaced2_step (by omega) hs
end HL

/-! Plain law: trees written, their names. -/
namespace HL
open PySem L2
theorem ixk {m : HEnv → R D} {env : HEnv} {xs : List D} (h : m env = .ok (.tup xs)) (k : Nat) {d : D} (hd : xs[k]? = some d) : m2 ixD m (mC (.int (k : Int))) env = .ok d := (m2_ok (f := ixD) (b := .int (k : Int)) h rfl).trans (ix_tup hd)
/-! ### f-strings -/
theorem empty_tx0 : Str.empty = tx [] := rfl
theorem joinS_cons {m : HEnv → R D} {ms : List (HEnv → R D)} {env : HEnv} {acc x : List Nat} {r : R D} (h : m env = .ok (.str (tx x))) (hz : acc.length + x.length ≤ 1000000) (k : mJoinS ms (tx (acc ++ x)) env = r) : mJoinS (m :: ms) (tx acc) env = r := by
  show ((m env).bind fun d => match d with
    | .str y => if (tx acc ++ y).length ≤ sizeLine then mJoinS ms (tx acc ++ y) env else .stuck
    | _ => .stuck) = r
  rw [h, R.bind_ok]
  show (if (tx acc ++ tx x).length ≤ sizeLine then mJoinS ms (tx acc ++ tx x) env else .stuck) = r
  rw [tx_app, if_pos (by rw [tx_len, List.length_append]; exact le_line hz), k]
theorem fmt_ok {m : HEnv → R D} {env : HEnv} {x : List Nat} (h : m env = .ok (.str (tx x))) (hz : x.length ≤ 1000000) : mFmt m env = .ok (.str (tx x)) := by
  refine (m1_ok h).trans ?_
  show (if (tx x).length ≤ sizeLine then R.ok (D.str (tx x)) else R.stuck) = _
  rw [if_pos (by rw [tx_len]; exact le_line hz)]
/-! ### written -/
theorem par_len (b : Bool) (x : List Nat) : (par b x).length ≤ x.length + 2 := by
  unfold par
  split <;> simp
theorem Tr.wr_len : ∀ t : Tr, t.wr.length + 7 ≤ 9 * t.ls.length
  | .lf _ => by simp [Tr.wr, Tr.ls]
  | .nd s l r => by
    have h1 := Tr.wr_len l
    have h2 := Tr.wr_len r
    have h3 := par_len (s == 42 && l.isS 43) l.wr
    have h4 := par_len (r.isN && (s == 42 || r.isS 43)) r.wr
    simp only [Tr.wr, Tr.ls, List.length_append, List.length_cons, List.length_nil]
    omega
/-- is the operand in parentheses -/
def Tr.opP (s : Nat) (b : Bool) : Tr → Bool
  | .lf _ => false
  | .nd s' _ _ => (decide (s' = 43) && decide (s = 42)) || (b && decide (s' = s))
theorem opP_left {s : Nat} (t : Tr) : t.opP s false = (s == 42 && t.isS 43) := by
  cases t with
  | lf c => simp [Tr.opP, Tr.isS]
  | nd s' l r => simp only [Tr.opP, Tr.isS, Bool.false_and, Bool.or_false]; exact Bool.and_comm _ _
theorem opP_right {s : Nat} (hs : (s == 42 || s == 43) = true) {t : Tr} (ht : t.ok = true) : t.opP s true = (t.isN && (s == 42 || t.isS 43)) := by
  cases t with
  | lf c => rfl
  | nd s' l r =>
    simp only [Tr.ok, Bool.and_eq_true, Bool.or_eq_true, beq_iff_eq] at ht hs
    obtain ⟨⟨h', _⟩, _⟩ := ht
    rcases h' with rfl | rfl <;> rcases hs with rfl | rfl <;> rfl
theorem operand_ok {g : F1} {t : Tr} {s : Nat} {b o : Bool} (hg : g [t.d] = .ok (o, .str (tx t.wr))) (hz : t.wr.length ≤ 10000) :
    fnS 4 (bt_operand g) [t.d, nm s, .bl b] = .ok (false, .str (tx (par (t.opP s b) t.wr))) := by
  have ht : mAndT (mNotT (m1 truD (m1 (isiD "str") (mOwn 0)))) (mOrT (mAndT (m1 truB (m2 eqD (m2 ixD (mOwn 0) (mC (.int 0))) (mC (.str "+")))) (m1 truB (m2 eqD (mOwn 1) (mC (.str "*"))))) (mAndT (m1 truD (mOwn 2)) (m1 truB (m2 eqD (m2 ixD (mOwn 0) (mC (.int 0))) (mOwn 1))))) [.val t.d, .val (nm s), .val (.bl b), .val (.str (tx t.wr))] = .ok (t.opP s b) := by
    cases t with
    | lf c => exact andT_ok (a := false) (b := false) (notT_ok (isi_lf c rfl)) fun z => nomatch z
    | nd s' l r =>
      refine andT_ok (a := true) (notT_ok (isi_nd rfl)) fun _ => ?_
      exact orT_ok (andT_ok (t_eqn (a := s') rfl (lit1 c_plus _)) fun _ => t_eqn (a := s) rfl (lit1 c_star _)) fun _ => andT_ok (a := b) rfl fun _ => t_eqn (a := s') (b := s) rfl rfl
  refine fnS_rt ((mSeq_nx (mSet_ok (mCall_ok (mCons_ok rfl rfl) hg))).trans ?_)
  cases hb : t.opP s b with
  | true =>
    refine mSeq_rt ((mIf_tt (ht.trans (congrArg R.ok hb))).trans (mRet_ok ?_))
    rw [empty_tx0]
    refine joinS_cons (x := [40]) (congrArg (fun s => R.ok (D.str s)) c_open) (by decide) ?_
    refine joinS_cons (x := t.wr) (fmt_ok rfl (by omega)) (by simp; omega) ?_
    refine joinS_cons (x := [41]) (congrArg (fun s => R.ok (D.str s)) c_close) (by simp; omega) ?_
    rfl
  | false => exact (mSeq_nx ((mIf_ff (ht.trans (congrArg R.ok hb))).trans rfl)).trans (mRet_ok rfl)
theorem written_step {g : F1} {t : Tr} (hk : t.ok = true) (hz : t.ls.length ≤ 1000) (hg : ∀ s l r, t = .nd s l r → (∃ o, g [l.d] = .ok (o, .str (tx l.wr))) ∧ ∃ o, g [r.d] = .ok (o, .str (tx r.wr))) :
    fnS 4 (bt_written (fnS 4 (bt_operand g))) [t.d] = .ok (false, .str (tx t.wr)) := by
  cases t with
  | lf c => exact fnS_rt (mSeq_rt ((mIf_tt (isi_lf c rfl)).trans (mRet_ok rfl)))
  | nd s l r =>
    obtain ⟨⟨o1, h1⟩, o2, h2⟩ := hg s l r rfl
    simp only [Tr.ok, Bool.and_eq_true] at hk
    have w1 := Tr.wr_len l
    have w2 := Tr.wr_len r
    simp only [Tr.ls, List.length_append] at hz
    have q1 := operand_ok (s := s) (b := false) h1 (by omega)
    have q2 := operand_ok (s := s) (b := true) h2 (by omega)
    rw [opP_left] at q1
    rw [opP_right hk.1.1 hk.2] at q2
    have p1 := par_len (s == 42 && l.isS 43) l.wr
    have p2 := par_len (r.isN && (s == 42 || r.isS 43)) r.wr
    refine fnS_rt ((mSeq_nx ((mIf_ff (isi_nd rfl)).trans rfl)).trans ((mSeq_nx (e := [.val (Tr.nd s l r).d, .val (nm s), .val l.d, .val r.d]) rfl).trans (mRet_ok ?_)))
    rw [empty_tx0]
    refine joinS_cons (fmt_ok (mCall_ok (mCons_ok rfl (mCons_ok rfl (mCons_ok rfl rfl))) q1) (by omega)) (by simp only [List.length_nil]; omega) ?_
    refine joinS_cons (x := [32]) (congrArg (fun s => R.ok (D.str s)) c_gap) (by simp only [List.length_append, List.length_nil, List.length_cons]; omega) ?_
    refine joinS_cons (x := [s]) (fmt_ok rfl (by simp)) (by simp only [List.length_append, List.length_nil, List.length_cons]; omega) ?_
    refine joinS_cons (x := [32]) (congrArg (fun s => R.ok (D.str s)) c_gap) (by simp only [List.length_append, List.length_nil, List.length_cons]; omega) ?_
    refine joinS_cons (fmt_ok (mCall_ok (mCons_ok rfl (mCons_ok rfl (mCons_ok rfl rfl))) q2) (by omega)) (by simp only [List.length_append, List.length_nil, List.length_cons]; omega) ?_
    show R.ok (D.str (tx ([] ++ par (s == 42 && l.isS 43) l.wr ++ [32] ++ [s] ++ [32] ++ par (r.isN && (s == 42 || r.isS 43)) r.wr))) = _
    rw [List.nil_append]
    rfl
theorem written2_step {g : F1} {t : Tr} (hk : t.ok = true) (hz : t.ls.length ≤ 1000) (hg : ∀ s l r, t = .nd s l r → (∃ o, g [l.d] = .ok (o, .str (tx l.wr))) ∧ ∃ o, g [r.d] = .ok (o, .str (tx r.wr))) :
    fnS 3 (bt_written2 g) [t.d] = .ok (false, .str (tx t.wr)) := by
  cases t with
  | lf c => exact fnS_rt (mSeq_rt ((mIf_tt (isi_lf c rfl)).trans (mRet_ok rfl)))
  | nd s l r =>
    obtain ⟨⟨o1, h1⟩, o2, h2⟩ := hg s l r rfl
    simp only [Tr.ok, Bool.and_eq_true] at hk
    have w1 := Tr.wr_len l
    have w2 := Tr.wr_len r
    simp only [Tr.ls, List.length_append] at hz
    have p1 := par_len (s == 42 && l.isS 43) l.wr
    have p2 := par_len (r.isN && (s == 42 || r.isS 43)) r.wr
    have adds : ∀ (a b : List Nat), a.length + b.length ≤ 1000000 → ∀ {m k : HEnv → R D} {env : HEnv}, m env = .ok (.str (tx a)) → k env = .ok (.str (tx b)) → m2 addD m k env = .ok (.str (tx (a ++ b))) := fun a b h m k env e1 e2 => (m2_ok e1 e2).trans (add_tx h)
    have paren : ∀ (x : List Nat), x.length ≤ 10000 → ∀ {m : HEnv → R D} {env : HEnv}, m env = .ok (.str (tx x)) → m2 addD (m2 addD (mC (.str "(")) m) (mC (.str ")")) env = .ok (.str (tx (par true x))) := fun x h m env e =>
      adds ([40] ++ x) [41] (by simp; omega) (adds [40] x (by simp; omega) (congrArg (fun s => R.ok (D.str s)) c_open) e) (congrArg (fun s => R.ok (D.str s)) c_close)
    refine fnS_rt ((mSeq_nx ((mIf_ff (isi_nd rfl)).trans rfl)).trans ((mSeq_nx (mSet_ok (mCall_ok (mCons_ok rfl rfl) h1))).trans ((mSeq_nx (mSet_ok (mCall_ok (mCons_ok rfl rfl) h2))).trans ?_)))
    have t1 : ∀ env : HEnv, env[0]? = some (.val (Tr.nd s l r).d) → mAndT (m1 truB (m2 eqD (m2 ixD (mOwn 0) (mC (.int 0))) (mC (.str "*")))) (mAndT (mNotT (m1 truD (m1 (isiD "str") (m2 ixD (mOwn 0) (mC (.int 1)))))) (m1 truB (m2 eqD (m2 ixD (m2 ixD (mOwn 0) (mC (.int 1))) (mC (.int 0))) (mC (.str "+"))))) env = .ok (s == 42 && l.isS 43) := fun env he => by
      have h0 : mOwn 0 env = .ok (.tup [nm s, l.d, r.d]) := own_val he
      refine andT_ok (t_eqn (a := s) (ixk h0 0 rfl) (lit1 c_star _)) fun _ => ?_
      have hl1 : m2 ixD (mOwn 0) (mC (.int 1)) env = .ok l.d := ixk h0 1 rfl
      cases l with
      | lf c => exact andT_ok (a := false) (b := false) (notT_ok (isi_lf c hl1)) fun z => nomatch z
      | nd s' l1 r1 => exact andT_ok (a := true) (notT_ok (isi_nd hl1)) fun _ => t_eqn (a := s') (ixk (xs := [nm s', l1.d, r1.d]) hl1 0 rfl) (lit1 c_plus _)
    have t2 : ∀ env : HEnv, env[0]? = some (.val (Tr.nd s l r).d) → mAndT (mNotT (m1 truD (m1 (isiD "str") (m2 ixD (mOwn 0) (mC (.int 2)))))) (mOrT (m1 truB (m2 eqD (m2 ixD (mOwn 0) (mC (.int 0))) (mC (.str "*")))) (m1 truB (m2 eqD (m2 ixD (m2 ixD (mOwn 0) (mC (.int 2))) (mC (.int 0))) (mC (.str "+"))))) env = .ok (r.isN && (s == 42 || r.isS 43)) := fun env he => by
      have h0 : mOwn 0 env = .ok (.tup [nm s, l.d, r.d]) := own_val he
      have hl1 : m2 ixD (mOwn 0) (mC (.int 2)) env = .ok r.d := ixk h0 2 rfl
      cases r with
      | lf c => exact andT_ok (a := false) (b := false) (notT_ok (isi_lf c hl1)) fun z => nomatch z
      | nd s' l1 r1 => exact andT_ok (a := true) (notT_ok (isi_nd hl1)) fun _ => orT_ok (t_eqn (a := s) (ixk h0 0 rfl) (lit1 c_star _)) fun _ => t_eqn (a := s') (ixk (xs := [nm s', l1.d, r1.d]) hl1 0 rfl) (lit1 c_plus _)
    refine (mSeq_nx (e := [.val (Tr.nd s l r).d, .val (.str (tx (par (s == 42 && l.isS 43) l.wr))), .val (.str (tx r.wr))]) ?_).trans ?_
    · cases hb : (s == 42 && l.isS 43) with
      | true => exact (mIf_tt ((t1 _ rfl).trans (congrArg R.ok hb))).trans (mSet_ok (paren l.wr (by omega) rfl))
      | false => exact (mIf_ff ((t1 _ rfl).trans (congrArg R.ok hb))).trans rfl
    refine (mSeq_nx (e := [.val (Tr.nd s l r).d, .val (.str (tx (par (s == 42 && l.isS 43) l.wr))), .val (.str (tx (par (r.isN && (s == 42 || r.isS 43)) r.wr)))]) ?_).trans ?_
    · cases hb : (r.isN && (s == 42 || r.isS 43)) with
      | true => exact (mIf_tt ((t2 _ rfl).trans (congrArg R.ok hb))).trans (mSet_ok (paren r.wr (by omega) rfl))
      | false => exact (mIf_ff ((t2 _ rfl).trans (congrArg R.ok hb))).trans rfl
    refine mRet_ok (adds (par (s == 42 && l.isS 43) l.wr ++ [32] ++ [s] ++ [32]) _ (by simp; omega) (adds (par (s == 42 && l.isS 43) l.wr ++ [32] ++ [s]) [32] (by simp; omega) (adds (par (s == 42 && l.isS 43) l.wr ++ [32]) [s] (by simp; omega) (adds _ [32] (by simp; omega) rfl (congrArg (fun s => R.ok (D.str s)) c_gap)) rfl) (congrArg (fun s => R.ok (D.str s)) c_gap)) rfl)
theorem written_rec {B : F1 → F1} (hB : (∀ g, B g = fnS 4 (bt_written (fnS 4 (bt_operand g)))) ∨ ∀ g, B g = fnS 3 (bt_written2 g)) : ∀ (n : Nat) (t : Tr), t.ok = true → t.dep < n → t.ls.length ≤ 1000 → recF B n [t.d] = .ok (false, .str (tx t.wr))
  | 0, t, _, h, _ => absurd h (by omega)
  | n + 1, t, hk, h, hz => by
    show B (recF B n) [t.d] = _
    have hs : ∀ s l r, t = .nd s l r → (∃ o, recF B n [l.d] = .ok (o, .str (tx l.wr))) ∧ ∃ o, recF B n [r.d] = .ok (o, .str (tx r.wr)) := fun s l r e => by
      subst e
      obtain ⟨h1, h2⟩ := Tr.nd_dep h
      simp only [Tr.ok, Bool.and_eq_true] at hk
      simp only [Tr.ls, List.length_append] at hz
      exact ⟨⟨_, written_rec hB n l hk.1.2 h1 (by omega)⟩, _, written_rec hB n r hk.2 h2 (by omega)⟩
    rcases hB with hB' | hB'
    · rw [hB']
      exact written_step hk hz hs
    · rw [hB']
      exact written2_step hk hz hs
end HL

/-! Plain law: the names of trees; how a law makes a tree. -/
namespace HL
open PySem L2
/-- a loop, by what has been gone through -/
theorem forL_pre {α : Type} {g : D → HEnv → R HEnv} {b : HEnv → SO} {f : α → D} (P : List α → HEnv → Prop) : ∀ {xs pre : List α} {env : HEnv}, P pre env → (∀ (pre : List α) (x : α) (env : HEnv), x ∈ xs → P pre env → ∃ e1 e, g (f x) env = .ok e1 ∧ b e1 = .nx e ∧ P (pre ++ [x]) e) →
    ∃ e, forL g b (xs.map f) env = .nx e ∧ P (pre ++ xs) e
  | [], pre, env, h, _ => ⟨env, rfl, by rw [List.append_nil]; exact h⟩
  | x :: xs, pre, env, h, hs => by
    obtain ⟨e1, e, h1, h2, h3⟩ := hs pre x env List.mem_cons_self h
    obtain ⟨e', k1, k2⟩ := forL_pre P (xs := xs) h3 fun p y v hy hp => hs p y v (List.mem_cons_of_mem _ hy) hp
    refine ⟨e', ?_, by rw [List.append_assoc] at k2; exact k2⟩
    rw [List.map_cons]
    unfold forL
    simp only [h1, h2]
    exact k1
def tt1 : Nat → D := fun _ => .bl true
/-- the dict with all leaves so far -/
def NmP (acc : List Nat) (env : HEnv) : Prop := ∃ ks : List Nat, env[1]? = some (.own (.dic false (dicN tt1 ks))) ∧ (∀ c, c ∈ ks ↔ c ∈ acc) ∧ ks.length ≤ acc.length ∧ env.length = 5
theorem set_len {env : HEnv} {i n : Nat} {z : Slot} (h : env.length = n) : (env.set i z).length = n := by rw [List.length_set, h]
theorem at_self {env : HEnv} {i : Nat} {z : Slot} (h : i < env.length) : (env.set i z)[i]? = some z := List.getElem?_set_self h
theorem at_ne {env : HEnv} {i j : Nat} {z : Slot} (h : i ≠ j) : (env.set i z)[j]? = env[j]? := List.getElem?_set_ne h
theorem NmP.put {acc : List Nat} {env : HEnv} (h : NmP acc env) (hz : acc.length ≤ 100000) (c : Nat) : ∃ e, mPutD 1 (mVar 3) (mC (.bl true)) (env.set 3 (.val (nm c))) = .nx e ∧ NmP (acc ++ [c]) e := by
  obtain ⟨ks, h1, h2, h3, h4⟩ := h
  have hk : mVar 3 (env.set 3 (.val (nm c))) = .ok (nm c) := var_val (at_self (by omega))
  have he : (env.set 3 (.val (nm c)))[1]? = some (.own (.dic false (dicN tt1 ks))) := by rw [at_ne (by decide)]; exact h1
  refine ⟨_, put_ok he hk rfl rfl (by unfold dicN; rw [List.length_map]; omega), ?_⟩
  have l2 : 1 < (env.set 3 (.val (nm c))).length := by rw [List.length_set]; omega
  by_cases hc : c ∈ ks
  · refine ⟨ks, ?_, fun d => ?_, by rw [List.length_append]; omega, by rw [List.length_set, List.length_set]; exact h4⟩
    · rw [at_self l2]
      exact congrArg (fun x => some (Slot.own (D.dic false x))) (putD_old (v := tt1) (w := tt1) hc fun _ _ => rfl)
    · rw [List.mem_append, List.mem_singleton, h2]
      constructor
      · exact .inl
      · rintro (z | rfl)
        · exact z
        · exact (h2 _).mp hc
  · refine ⟨ks ++ [c], ?_, fun d => ?_, by rw [List.length_append, List.length_append]; exact Nat.add_le_add_right h3 1, by rw [List.length_set, List.length_set]; exact h4⟩
    · rw [at_self l2]
      exact congrArg (fun x => some (Slot.own (D.dic false x))) (putD_new (v := tt1) hc)
    · rw [List.mem_append, List.mem_append, h2]
theorem filter_rising {p q : List Nat} (h : ∀ c, c ∈ p ↔ c ∈ q) : rising p = rising q := by
  unfold rising
  congr 1
  funext c
  exact decide_eq_decide.mpr (h c)
theorem nm_loop : ∀ (cs acc : List Nat) (env : HEnv), NmP acc env → acc.length + cs.length ≤ 100000 → ∃ e, forL (gN 3) (mPutD 1 (mVar 3) (mC (.bl true))) (cs.map nm) env = .nx e ∧ NmP (acc ++ cs) e
  | [], acc, env, h, _ => ⟨env, rfl, by rw [List.append_nil]; exact h⟩
  | c :: cs, acc, env, h, hz => by
    simp only [List.length_cons] at hz
    obtain ⟨e1, h1, h2⟩ := h.put (by omega) c
    obtain ⟨e, h3, h4⟩ := nm_loop cs (acc ++ [c]) e1 h2 (by simp only [List.length_append, List.length_cons, List.length_nil]; omega)
    refine ⟨e, ?_, by rw [List.append_assoc] at h4; exact h4⟩
    rw [List.map_cons]
    unfold forL
    simp only [gN, h1]
    exact h3
theorem nm_loops {fl : F1} : ∀ (ts : List Tr) (acc : List Nat) (env : HEnv), (∀ t ∈ ts, ∃ o, fl [t.d] = .ok (o, .lst (t.ls.map nm))) → NmP acc env → acc.length + (ts.flatMap Tr.ls).length ≤ 100000 →
    ∃ e, forL (gN 2) (mFor (m1 itemsD (mCall fl (mCons (mVar 2) mNil))) (gN 3) (mPutD 1 (mVar 3) (mC (.bl true)))) (ts.map Tr.d) env = .nx e ∧ NmP (acc ++ ts.flatMap Tr.ls) e
  | [], acc, env, _, h, _ => ⟨env, rfl, by rw [List.flatMap_nil, List.append_nil]; exact h⟩
  | t :: ts, acc, env, hl, h, hz => by
    rw [List.flatMap_cons, List.length_append] at hz
    obtain ⟨o, hf⟩ := hl t List.mem_cons_self
    obtain ⟨ks, k1, k2, k3, k4⟩ := h
    have hv : mVar 2 (env.set 2 (.val t.d)) = .ok t.d := var_val (at_self (by omega))
    obtain ⟨e1, h1, h2⟩ := nm_loop t.ls acc (env.set 2 (.val t.d)) ⟨ks, by rw [at_ne (by decide)]; exact k1, k2, k3, set_len k4⟩ (by omega)
    obtain ⟨e, h3, h4⟩ := nm_loops ts (acc ++ t.ls) e1 (fun x hx => hl x (List.mem_cons_of_mem _ hx)) h2 (by rw [List.length_append]; omega)
    refine ⟨e, ?_, by rw [List.flatMap_cons, ← List.append_assoc]; exact h4⟩
    rw [List.map_cons]
    unfold forL
    have h5 : mFor (m1 itemsD (mCall fl (mCons (mVar 2) mNil))) (gN 3) (mPutD 1 (mVar 3) (mC (.bl true))) (env.set 2 (.val t.d)) = .nx e1 := by
      refine (mFor_ok (ds := t.ls.map nm) ?_).trans h1
      exact (m1_ok (f := itemsD) (mCall_ok (mCons_ok hv rfl) hf)).trans rfl
    simp only [gN, h5]
    exact h3
theorem names_of_ok {fl : F1} {ts : List Tr} (hl : ∀ t ∈ ts, ∃ o, fl [t.d] = .ok (o, .lst (t.ls.map nm))) (hz : (ts.flatMap Tr.ls).length ≤ 100000) :
    fnS 5 (bt_names_of fl) [.tup (ts.map Tr.d)] = .ok (false, .tup ((rising (ts.flatMap Tr.ls)).map nm)) := by
  refine fnS_rt ((mSeq_nx (mSetN_ok rfl)).trans ?_)
  obtain ⟨e, h1, ks, k1, k2, k3, k4⟩ := nm_loops ts [] [.val (.tup (ts.map Tr.d)), .own (.dic false []), .no, .no, .no] hl ⟨[], rfl, fun c => Iff.rfl, Nat.le_refl _, rfl⟩ (by rw [List.length_nil]; omega)
  refine (mSeq_nx ((mFor_ok (ds := ts.map Tr.d) rfl).trans h1)).trans (mRet_ok ((m1_ok (f := tupleD) (a := D.lst ((rising (ts.flatMap Tr.ls)).map nm)) ?_).trans rfl))
  have hi : m1 itemsD (mC (.str "ABCDEFGHIJKLMNOPQRSTUVWXYZ")) e = .ok (letters.map nm) := by
    rw [m1_ok (show mC (.str "ABCDEFGHIJKLMNOPQRSTUVWXYZ") e = .ok (.str (tx letters)) from congrArg (fun s => R.ok (D.str s)) abc), items_tx (by decide)]
  refine mComp_ok hi ?_
  have hw : wipeE e [4] = e.set 4 .no := rfl
  rw [hw]
  refine (compL_filter (p := fun c => decide (c ∈ ks)) (h := nm) (fun c _ => ?_) fun c _ _ => var_val (at_self (by rw [List.length_set]; omega))).trans ?_
  · refine (m1_ok ((m2_ok (own_val (at_self (by rw [List.length_set]; omega))) ?_).trans (in_dicN tt1 c ks))).trans rfl
    unfold mOwn
    rw [at_ne (by decide), at_ne (by decide), k1]
  · show R.ok ((rising ks).map nm) = _
    rw [filter_rising (q := ts.flatMap Tr.ls) fun c => by rw [k2, List.nil_append]]
theorem names_in_ok {fl : F1} {t : Tr} {o : Bool} (hl : fl [t.d] = .ok (o, .lst (t.ls.map nm))) : fnS 3 (bt_names_in fl) [t.d] = .ok (true, .lst ((rising t.ls).map nm)) := by
  refine fnS_rt ((mSeq_nx (mSet_ok (mCall_ok (mCons_ok rfl rfl) hl))).trans (mRetN_ok ?_))
  have hi : m1 itemsD (mC (.str "ABCDEFGHIJKLMNOPQRSTUVWXYZ")) [.val t.d, .val (.lst (t.ls.map nm)), .no] = .ok (letters.map nm) := by
    rw [m1_ok (show mC (.str "ABCDEFGHIJKLMNOPQRSTUVWXYZ") [.val t.d, .val (.lst (t.ls.map nm)), .no] = .ok (.str (tx letters)) from congrArg (fun s => R.ok (D.str s)) abc), items_tx (by decide)]
  refine mComp_ok hi ?_
  exact compL_filter (p := fun c => decide (c ∈ t.ls)) (h := nm) (fun c _ => (m1_ok (f := truB) ((m2_ok (f := inN false) (a := nm c) (b := .lst (t.ls.map nm)) rfl rfl).trans (in_nms c t.ls))).trans rfl) fun c _ _ => rfl
/-! ### how a law makes a tree -/
structure TrIn (menu : List Nat) (t : Tr) : Prop where
  ok : t.ok = true
  mem : ∀ c ∈ t.ls, c ∈ menu
theorem slTo {m l : HEnv → R D} {env : HEnv} {ds : List D} {k : Nat} (h : m env = .ok (.lst ds)) (k1 : l env = .ok (.int (k : Int))) : mSl slD m mNoPart (mPart l) env = .ok (.lst (ds.take k)) := sl_to h k1 (by show R.ok (D.lst (cutL ds none (some (k : Int)))) = _; rw [cutL_to])
theorem slFrom {m l : HEnv → R D} {env : HEnv} {ds : List D} {k : Nat} (h : m env = .ok (.lst ds)) (k1 : l env = .ok (.int (k : Int))) : mSl slD m (mPart l) mNoPart env = .ok (.lst (ds.drop k)) := sl_from h k1 (by show R.ok (D.lst (cutL ds (some (k : Int)) none)) = _; rw [cutL_from])
theorem addL_ok {xs ys : List D} (h : xs.length + ys.length ≤ 1000000) : addD (.lst xs) (.lst ys) = .ok (.lst (xs ++ ys)) := if_pos (le_line h)
theorem split2 {α : Type} {ts : List α} {a : Nat} {x y : α} (h1 : ts[a]? = some x) (h2 : ts[a + 1]? = some y) : ts = ts.take a ++ x :: y :: ts.drop (a + 2) := by
  obtain ⟨l1, e1⟩ := List.getElem?_eq_some_iff.mp h1
  obtain ⟨l2, e2⟩ := List.getElem?_eq_some_iff.mp h2
  have q : ts.drop a = x :: y :: ts.drop (a + 2) := by
    rw [List.drop_eq_getElem_cons l1, e1, List.drop_eq_getElem_cons l2, e2]
  rw [← q, List.take_append_drop]
/-- one step: two neighbours become one -/
def RowP (menu : List Nat) (many : Nat) (c0 c1 c2 : D) (j : Nat) (env : HEnv) : Prop := ∃ ts : List Tr, ts.length + j = many ∧ (ts.flatMap Tr.ls).length = many ∧ (∀ t ∈ ts, TrIn menu t) ∧ env.length = 9 ∧ env[0]? = some (.val c0) ∧ env[1]? = some (.val c1) ∧ env[2]? = some (.val c2) ∧ env[4]? = some (.val (.lst (ts.map Tr.d)))
theorem tree_of_ok {cs : List Int} {most : Nat} {menu : List Nat} (hc : ∀ c ∈ cs, 0 ≤ c) (hl : 2 * most ≤ cs.length) (h1 : 1 ≤ most) (h2 : most ≤ 100) (hm : 1 ≤ menu.length) (hm2 : menu.length ≤ 1000) :
    ∃ t : Tr, TrIn menu t ∧ t.ls.length ≤ most ∧ fnS 9 bt_tree_of [.lst (cs.map D.int), .int (most : Int), .str (tx menu)] = .ok (false, t.d) := by
  have hm0 : (0 : Int) < (most : Int) := by omega
  have l0 : 0 < cs.length := by omega
  have c0 := hc cs[0] (List.getElem_mem l0)
  have r1 := Int.emod_nonneg cs[0] (b := (most : Int)) (by omega)
  have r2 := Int.emod_lt_of_pos cs[0] hm0
  have hmany : ∃ many : Nat, (1 : Int) + cs[0] % (most : Int) = (many : Int) ∧ 1 ≤ many ∧ many ≤ most := ⟨(1 + cs[0] % (most : Int)).toNat, by omega, by omega, by omega⟩
  obtain ⟨many, em, m1', m2'⟩ := hmany
  have hmen : (0 : Int) < (menu.length : Int) := by omega
  -- the leaves
  let pk : Nat → Nat := fun i => menu.getD (cs.getD (1 + i) 0 % (menu.length : Int)).toNat 0
  have hpk : ∀ i, i < many → pk i ∈ menu ∧ ∀ env : HEnv, env[0]? = some (.val (.lst (cs.map D.int))) → env[2]? = some (.val (.str (tx menu))) → env[5]? = some (.val (.int (i : Int))) →
      m2 ixD (mOwn 2) (m2 modD (m1 intD (m2 ixD (mOwn 0) (m2 addD (mC (.int 1)) (mOwn 5)))) (m1 lenD (mOwn 2))) env = .ok (nm (pk i)) := by
    intro i hi
    have li : 1 + i < cs.length := by omega
    have ci := hc cs[1 + i] (List.getElem_mem li)
    have eg : cs.getD (1 + i) 0 = cs[1 + i] := by rw [List.getD_eq_getElem?_getD, List.getElem?_eq_getElem li]; rfl
    have q1 := Int.emod_nonneg cs[1 + i] (b := (menu.length : Int)) (by omega)
    have q2 := Int.emod_lt_of_pos cs[1 + i] hmen
    have lt : (cs[1 + i] % (menu.length : Int)).toNat < menu.length := by omega
    have ep : pk i = menu[(cs[1 + i] % (menu.length : Int)).toNat] := by
      show menu.getD (cs.getD (1 + i) 0 % (menu.length : Int)).toNat 0 = _
      rw [eg, List.getD_eq_getElem?_getD, List.getElem?_eq_getElem lt]
      rfl
    refine ⟨by rw [ep]; exact List.getElem_mem lt, fun env e0 e2 e5 => ?_⟩
    have h0 : m1 intD (m2 ixD (mOwn 0) (m2 addD (mC (.int 1)) (mOwn 5))) env = .ok (.int cs[1 + i]) := int_of ((m2_ok (f := ixD) (b := .int ((1 + i : Nat) : Int)) (own_val e0) ((m2_ok (f := addD) (a := .int 1) (b := .int (i : Int)) rfl (own_val e5)).trans (by show R.ok (D.int (1 + (i : Int))) = _; congr 2))).trans (ix_lst (by rw [List.getElem?_map, List.getElem?_eq_getElem li]; rfl)))
    have hl : m1 lenD (mOwn 2) env = .ok (.int (menu.length : Int)) := (m1_ok (own_val e2)).trans (len_tx (by omega))
    have hmod := mod_of h0 hl hmen
    rw [show cs[1 + i] % (menu.length : Int) = (((cs[1 + i] % (menu.length : Int)).toNat : Nat) : Int) from by omega] at hmod
    rw [ep]
    exact (m2_ok (own_val e2) hmod).trans (ix_tx (by omega) (List.getElem?_eq_getElem lt))
  let c0' : D := .lst (cs.map D.int)
  let c1' : D := .int (most : Int)
  let c2' : D := .str (tx menu)
  let ts0 : List Tr := (List.range many).map fun i => Tr.lf (pk i)
  have hrow : mComp [5] (m1 range1D (mCons (mVar 3) mNil)) (gN 5) mYes (m2 ixD (mOwn 2) (m2 modD (m1 intD (m2 ixD (mOwn 0) (m2 addD (mC (.int 1)) (mOwn 5)))) (m1 lenD (mOwn 2)))) [.val c0', .val c1', .val c2', .val (.int (many : Int)), .no, .no, .no, .no, .no] = .ok (.lst (ts0.map Tr.d)) := by
    refine mComp_ok (range_of (n := many) rfl (by omega)) ?_
    refine (compL_map (f := fun i : Nat => D.int (i : Int)) (h := fun i => nm (pk i)) fun i hi => (hpk i (List.mem_range.mp hi)).2 _ rfl rfl rfl).trans ?_
    show R.ok ((List.range many).map fun i => nm (pk i)) = R.ok (((List.range many).map fun i => Tr.lf (pk i)).map Tr.d)
    rw [List.map_map]
    rfl
  have hfl : ∀ xs : List Nat, ((xs.map fun i => Tr.lf (pk i)).flatMap Tr.ls).length = xs.length := by
    intro xs
    induction xs with
    | nil => rfl
    | cons x xs ih =>
      rw [List.map_cons, List.flatMap_cons, List.length_append, ih, List.length_cons]
      show 1 + xs.length = _
      omega
  let bd : HEnv → SO := (mSeq (mSet 6 (m1 intD (m2 ixD (mOwn 0) (m2 addD (m2 addD (mC (.int 1)) (mOwn 1)) (mOwn 5)))))
    (mSeq (mSet 7 (m2 modD (m2 divD (mOwn 6) (mC (.int 2))) (m2 subD (m1 lenD (mOwn 4)) (mC (.int 1)))))
    (mSeq (mSet 8 (mTupE (mCons (m2 ixD (mC (.str "*+")) (m2 modD (mOwn 6) (mC (.int 2)))) (mCons (m2 ixD (mOwn 4) (mOwn 7)) (mCons (m2 ixD (mOwn 4) (m2 addD (mOwn 7) (mC (.int 1)))) mNil)))))
    (mSet 4 (m2 addD (m2 addD (mSl slD (mOwn 4) mNoPart (mPart (mVar 7))) (mLstE (mCons (mVar 8) mNil))) (mSl slD (mOwn 4) (mPart (m2 addD (mOwn 7) (mC (.int 2)))) mNoPart))))))
  have hloop : ∃ e, forL (gN 5) bd ((List.range (many - 1)).map fun i => D.int (i : Nat)) [.val c0', .val c1', .val c2', .val (.int (many : Int)), .val (.lst (ts0.map Tr.d)), .no, .no, .no, .no] = .nx e ∧ RowP menu many c0' c1' c2' (0 + ((List.range (many - 1)).map fun i => D.int (i : Nat)).length) e := by
    refine forL_ind (j := 0) (RowP menu many c0' c1' c2') ?_ ?_
    · refine ⟨ts0, by simp [ts0], by rw [hfl, List.length_range], fun t ht => ?_, rfl, rfl, rfl, rfl, rfl⟩
      obtain ⟨i, hi, rfl⟩ := List.mem_map.mp ht
      refine ⟨rfl, fun c hc => ?_⟩
      rw [show (Tr.lf (pk i)).ls = [pk i] from rfl, List.mem_singleton] at hc
      rw [hc]
      exact (hpk i (List.mem_range.mp hi)).1
    · intro i d env hd ⟨ts, t1, t2, t3, t4, t5, t6, t7, t8⟩
      rw [List.getElem?_map] at hd
      have hi : i < many - 1 := by
        by_cases z : i < many - 1
        · exact z
        · rw [List.getElem?_eq_none (by rw [List.length_range]; omega)] at hd
          cases hd
      rw [List.getElem?_range hi] at hd
      cases hd
      rw [Nat.zero_add] at t1 ⊢
      have g5 : ∀ j, j ≠ 5 → (env.set 5 (.val (.int (i : Int))))[j]? = env[j]? := fun j hj => at_ne (Ne.symm hj)
      let env1 := env.set 5 (.val (.int (i : Int)))
      have e5 : env1[5]? = some (.val (.int (i : Int))) := at_self (by omega)
      have e0 : env1[0]? = some (.val c0') := (g5 0 (by decide)).trans t5
      have e1 : env1[1]? = some (.val c1') := (g5 1 (by decide)).trans t6
      have e2 : env1[2]? = some (.val c2') := (g5 2 (by decide)).trans t7
      have e4 : env1[4]? = some (.val (.lst (ts.map Tr.d))) := (g5 4 (by decide)).trans t8
      have n1 : env1.length = 9 := set_len t4
      -- pick
      have lp : 1 + most + i < cs.length := by omega
      have cp := hc cs[1 + most + i] (List.getElem_mem lp)
      have hp : m1 intD (m2 ixD (mOwn 0) (m2 addD (m2 addD (mC (.int 1)) (mOwn 1)) (mOwn 5))) env1 = .ok (.int cs[1 + most + i]) := int_of ((m2_ok (f := ixD) (b := .int ((1 + most + i : Nat) : Int)) (own_val e0) ((m2_ok (f := addD) (a := .int (1 + (most : Int))) (b := .int (i : Int)) ((m2_ok (f := addD) (a := .int 1) (b := .int (most : Int)) rfl (own_val e1)).trans rfl) (own_val e5)).trans (by show R.ok (D.int (1 + (most : Int) + (i : Int))) = _; congr 2))).trans (ix_lst (by rw [List.getElem?_map, List.getElem?_eq_getElem lp]; rfl)))
      generalize hpv : cs[1 + most + i] = p at hp cp
      let env2 := env1.set 6 (.val (.int p))
      have f4 : env2[4]? = some (.val (.lst (ts.map Tr.d))) := (at_ne (by decide)).trans e4
      have f6 : env2[6]? = some (.val (.int p)) := at_self (by omega)
      -- at
      have hlen : m1 lenD (mOwn 4) env2 = .ok (.int (ts.length : Int)) := (m1_ok (own_val f4)).trans (by show R.ok (D.int ((ts.map Tr.d).length : Int)) = _; rw [List.length_map])
      have hsub : m2 subD (m1 lenD (mOwn 4)) (mC (.int 1)) env2 = .ok (.int ((ts.length : Int) - 1)) := (m2_ok (f := subD) (a := .int (ts.length : Int)) (b := .int 1) hlen rfl).trans rfl
      have hmod := mod_of (div_lit (own_val f6) (b := 2) (by decide) (by decide)) hsub (by omega)
      have q1 := Int.emod_nonneg (p / 2) (b := (ts.length : Int) - 1) (by omega)
      have q2 := Int.emod_lt_of_pos (p / 2) (b := (ts.length : Int) - 1) (by omega)
      obtain ⟨a, ea⟩ : ∃ a : Nat, p / 2 % ((ts.length : Int) - 1) = (a : Int) := ⟨(p / 2 % ((ts.length : Int) - 1)).toNat, by omega⟩
      rw [ea] at hmod
      have la : a + 1 < ts.length := by omega
      let env3 := env2.set 7 (.val (.int (a : Int)))
      have k4 : env3[4]? = some (.val (.lst (ts.map Tr.d))) := (at_ne (by decide)).trans f4
      have k6 : env3[6]? = some (.val (.int p)) := (at_ne (by decide)).trans f6
      have n2 : env2.length = 9 := set_len n1
      have k7 : env3[7]? = some (.val (.int (a : Int))) := at_self (by omega)
      have n3 : env3.length = 9 := set_len n2
      -- the sign
      have hsg : ∃ s : Nat, (s == 42 || s == 43) = true ∧ m2 ixD (mC (.str "*+")) (m2 modD (mOwn 6) (mC (.int 2))) env3 = .ok (nm s) := by
        have z := mod_lit (own_val k6) (b := 2) (by decide)
        have lit : mC (.str "*+") env3 = .ok (.str (tx [42, 43])) := congrArg (fun s => R.ok (D.str s)) (by decide +kernel)
        rcases (by omega : p % 2 = 0 ∨ p % 2 = 1) with h | h
        · rw [h] at z
          exact ⟨42, rfl, (m2_ok (f := ixD) (b := .int ((0 : Nat) : Int)) lit z).trans (ix_tx (by decide) rfl)⟩
        · rw [h] at z
          exact ⟨43, rfl, (m2_ok (f := ixD) (b := .int ((1 : Nat) : Int)) lit z).trans (ix_tx (by decide) rfl)⟩
      obtain ⟨s, hs, hsg⟩ := hsg
      have ga : ts[a]? = some ts[a] := List.getElem?_eq_getElem (by omega)
      have gb : ts[a + 1]? = some ts[a + 1] := List.getElem?_eq_getElem la
      have ha : m2 ixD (mOwn 4) (mOwn 7) env3 = .ok ts[a].d := (m2_ok (f := ixD) (b := .int (a : Int)) (own_val k4) (own_val k7)).trans (ix_lst (by rw [List.getElem?_map, ga]; rfl))
      have hadd : ∀ k : Nat, m2 addD (mOwn 7) (mC (.int (k : Int))) env3 = .ok (.int ((a + k : Nat) : Int)) := fun k => (m2_ok (f := addD) (a := .int (a : Int)) (b := .int (k : Int)) (own_val k7) rfl).trans (by show R.ok (D.int ((a : Int) + (k : Int))) = _; congr 2)
      have hb : m2 ixD (mOwn 4) (m2 addD (mOwn 7) (mC (.int 1))) env3 = .ok ts[a + 1].d := (m2_ok (f := ixD) (b := .int ((a + 1 : Nat) : Int)) (own_val k4) (hadd 1)).trans (ix_lst (by rw [List.getElem?_map, gb]; rfl))
      let nt : Tr := .nd s ts[a] ts[a + 1]
      let env4 := env3.set 8 (.val nt.d)
      have w4 : env4[4]? = some (.val (.lst (ts.map Tr.d))) := (at_ne (by decide)).trans k4
      have w7 : env4[7]? = some (.val (.int (a : Int))) := (at_ne (by decide)).trans k7
      have w8 : env4[8]? = some (.val nt.d) := at_self (by omega)
      have n4 : env4.length = 9 := set_len n3
      let ts' : List Tr := ts.take a ++ nt :: ts.drop (a + 2)
      have hz : ts.length ≤ 100 := by omega
      have hset : m2 addD (m2 addD (mSl slD (mOwn 4) mNoPart (mPart (mVar 7))) (mLstE (mCons (mVar 8) mNil))) (mSl slD (mOwn 4) (mPart (m2 addD (mOwn 7) (mC (.int 2)))) mNoPart) env4 = .ok (.lst (ts'.map Tr.d)) := by
        have s1 := slTo (own_val w4) (var_val w7)
        have s2 : mSl slD (mOwn 4) (mPart (m2 addD (mOwn 7) (mC (.int 2)))) mNoPart env4 = .ok (.lst ((ts.map Tr.d).drop (a + 2))) := slFrom (own_val w4) ((m2_ok (f := addD) (a := .int (a : Int)) (b := .int 2) (own_val w7) rfl).trans (by show R.ok (D.int ((a : Int) + 2)) = _; congr 2))
        have s3 : m2 addD (mSl slD (mOwn 4) mNoPart (mPart (mVar 7))) (mLstE (mCons (mVar 8) mNil)) env4 = .ok (.lst ((ts.map Tr.d).take a ++ [nt.d])) := (m2_ok (f := addD) (b := .lst [nt.d]) s1 (show mLstE (mCons (mVar 8) mNil) env4 = .ok (.lst [nt.d]) from m1_ok (f := fun ds => R.ok (D.lst ds)) (a := [nt.d]) (mCons_ok (var_val w8) rfl))).trans (addL_ok (by rw [List.length_take, List.length_map, List.length_singleton]; omega))
        refine (m2_ok s3 s2).trans ((addL_ok (by rw [List.length_append, List.length_take, List.length_drop, List.length_map, List.length_singleton]; omega)).trans ?_)
        show _ = R.ok (D.lst ((ts.take a ++ nt :: ts.drop (a + 2)).map Tr.d))
        rw [List.map_append, List.map_cons, List.map_take, List.map_drop, List.append_assoc]
        rfl
      have sp := split2 ga gb
      refine ⟨env1, env4.set 4 (.val (.lst (ts'.map Tr.d))), rfl, .inl ?_, ts', ?_, ?_, ?_, set_len n4, ?_, ?_, ?_, at_self (by omega)⟩
      · exact (mSeq_nx (mSet_ok hp)).trans ((mSeq_nx (mSet_ok hmod)).trans ((mSeq_nx (mSet_ok (tupE_ok (mCons_ok hsg (mCons_ok ha (mCons_ok hb rfl)))))).trans (mSet_ok hset)))
      · show (ts.take a ++ nt :: ts.drop (a + 2)).length + (i + 1) = many
        rw [List.length_append, List.length_cons, List.length_take, List.length_drop]
        omega
      · rw [← t2]
        conv => rhs; rw [sp]
        show ((ts.take a ++ nt :: ts.drop (a + 2)).flatMap Tr.ls).length = _
        rw [List.flatMap_append, List.flatMap_append, List.flatMap_cons, List.flatMap_cons, List.flatMap_cons]
        simp only [List.length_append]
        show _ + ((ts[a].ls ++ ts[a + 1].ls).length + _) = _
        rw [List.length_append]
        omega
      · intro t ht
        have mem : ∀ x, x ∈ ts.take a ∨ x ∈ ts.drop (a + 2) → TrIn menu x := fun x hx => t3 x (hx.elim List.mem_of_mem_take List.mem_of_mem_drop)
        rcases List.mem_append.mp ht with h | h
        · exact mem t (.inl h)
        · rcases List.mem_cons.mp h with rfl | h
          · have x1 := t3 _ (List.getElem_mem (by omega : a < ts.length))
            have x2 := t3 _ (List.getElem_mem la)
            refine ⟨by show (_ && _ && _) = true; rw [hs, x1.ok, x2.ok]; rfl, fun c hc => ?_⟩
            rcases List.mem_append.mp (show c ∈ ts[a].ls ++ ts[a + 1].ls from hc) with h | h
            · exact x1.mem c h
            · exact x2.mem c h
          · exact mem t (.inr h)
      · exact (at_ne (by decide)).trans ((at_ne (by decide)).trans ((at_ne (by decide)).trans ((at_ne (by decide)).trans e0)))
      · exact (at_ne (by decide)).trans ((at_ne (by decide)).trans ((at_ne (by decide)).trans ((at_ne (by decide)).trans e1)))
      · exact (at_ne (by decide)).trans ((at_ne (by decide)).trans ((at_ne (by decide)).trans ((at_ne (by decide)).trans e2)))
  obtain ⟨e, he, ts, t1, t2, t3, t4, t5, t6, t7, t8⟩ := hloop
  rw [Nat.zero_add, List.length_map, List.length_range] at t1
  have one : ∃ t, ts = [t] := by
    match ts, t1 with
    | [], h => simp at h; omega
    | [t], _ => exact ⟨t, rfl⟩
    | _ :: _ :: _, h => simp at h; omega
  obtain ⟨t, rfl⟩ := one
  refine ⟨t, t3 t List.mem_cons_self, ?_, fnS_rt ?_⟩
  · rw [List.flatMap_cons, List.flatMap_nil, List.append_nil] at t2
    omega
  · have h3 : m2 addD (mC (.int 1)) (m2 modD (m1 intD (m2 ixD (mOwn 0) (mC (.int 0)))) (mOwn 1)) [.val c0', .val c1', .val c2', .no, .no, .no, .no, .no, .no] = .ok (.int (many : Int)) := by
      have z := mod_of (int_of (cell_at (i := 0) (env := [.val c0', .val c1', .val c2', .no, .no, .no, .no, .no, .no]) rfl 0 l0)) (k := mOwn 1) (b := (most : Int)) rfl hm0
      refine (m2_ok (f := addD) (a := .int 1) rfl z).trans ?_
      exact congrArg (fun i => R.ok (D.int i)) em
    refine (mSeq_nx (mSet_ok h3)).trans ((mSeq_nx (mSet_ok hrow)).trans ((mSeq_nx ((mFor_ok (ds := (List.range (many - 1)).map fun i => D.int (i : Nat)) ?_).trans he)).trans (mRet_ok ?_)))
    · refine range_of (n := many - 1) ((m2_ok (f := subD) (a := .int (many : Int)) (b := .int 1) rfl rfl).trans ?_) (by omega)
      show R.ok (D.int ((many : Int) - 1)) = _
      rw [show (many : Int) - 1 = ((many - 1 : Nat) : Int) from by omega]
    · exact (m2_ok (f := ixD) (b := .int ((0 : Nat) : Int)) (own_val t8) rfl).trans (ix_lst rfl)
end HL

/-! list.pop, two new lists at once, x += e, replace within an f-string, classmethods. -/
namespace HL
open PySem PySem.Spec PyProof.Rows L2
section
variable {X : Cx} {cl : Cl} {W : WX}
/-! ### pop -/
theorem HSt.pop {F0 : Bs} {H0 F H : Hp} {env : HEnv} {σ : L2.St} (s : HSt cl F0 H0 F env σ H) {i : Nat} {ds : List D} {d : D} (he : env[i]? = some (.own (.lst ds))) (hd : ds.getLast? = some d) :
    ∃ p vs y, σ[i]? = some (some (V.ref p)) ∧ H p = some (.lst vs) ∧ vs[vs.length - 1]? = some y ∧ Rep cl F d y ∧ HSt cl F0 H0 F (env.set i (.own (.lst ds.dropLast))) σ (upd H p (.lst vs.dropLast)) := by
  obtain ⟨p, hp, hf, h0, u, hu, ob, mu⟩ := s.own i _ (oL_own he)
  obtain ⟨vs, rfl, rl, z⟩ := ob
  rw [List.getLast?_eq_getElem?] at hd
  obtain ⟨y, hy, ry⟩ := rl.at hd
  refine ⟨p, vs, y, hp, hu, by rw [rl.len]; exact hy, ry, s.writeOwn he hp hf h0 (d' := .lst ds.dropLast) ⟨_, rfl, ?_, ?_⟩ rfl⟩
  · rw [List.dropLast_eq_take, List.dropLast_eq_take, rl.len]
    exact (rl.takeN _).1
  · rw [List.length_dropLast]
    omega
def mPop (i : Nat) : HEnv → SO := fun env => match env[i]? with
  | some (.own (.lst ds)) => match ds.getLast? with
    | some _ => .nx (env.set i (.own (.lst ds.dropLast)))
    | none => .stuck
  | _ => .stuck
def mPopSet (j i : Nat) : HEnv → SO := fun env => match env[i]? with
  | some (.own (.lst ds)) => match ds.getLast? with
    | some d => .nx ((env.set i (.own (.lst ds.dropLast))).set j (.val d))
    | none => .stuck
  | _ => .stuck
variable {o e : Expr} {pos apos cpos : Pos} {m : HEnv → R D} {i j : Nat}
theorem ds_pop (ho : PE X o (tVar i)) (h1 : attributeBase o "pop" X.env (eval o X.env) = eval o X.env := by rfl) (h3 : (apos.endLine == cpos.line) = true := by rfl)
    (hs : swapsWith (.Call (.Attribute o "pop" apos) [] [] cpos) none pos.line X.env = pure false := by rfl) : PS X (.Expr (.Call (.Attribute o "pop" apos) [] [] cpos) pos) (tS cl W (mPop i)) := by
  refine ps_weak (ps_expr (pe_bm0 PySem.F.plainAttrs_list PySem.F.slot_list_pop PySem.F.type_list_pop mt_pop ho h1 h3) hs) fun Dn σ H q => ?_
  obtain ⟨F0, H0, F, env, s, q⟩ := q
  unfold mPop at q
  split at q
  case h_2 => exact q.elim
  rename_i ds ei
  split at q
  case h_2 => exact q.elim
  rename_i d hd
  obtain ⟨p, vs, y, hp, hH, hy, ry, s2⟩ := s.pop ei hd
  exact ⟨.ref p, hp, .inl ⟨rfl, vs, .inl (.inl hH)⟩, p, vs, y, rfl, rfl, hH, hy, HSt.get (W := W) s2 q⟩
theorem ds_popSet {x : Str} {pos' : Pos} (hN : X.N.Nodup) (hj : X.N[j]? = some x) (hx : Loc X.env.scope x) (ho : PE X o (tVar i)) (h1 : attributeBase o "pop" X.env (eval o X.env) = eval o X.env := by rfl) (h3 : (apos.endLine == cpos.line) = true := by rfl)
    (hs : swapsWith (.Call (.Attribute o "pop" apos) [] [] cpos) (some (.Name x pos')) pos.line X.env = pure false := by rfl) (hf : X.fn x = true ∨ X.env.scope.names.lookup x = some .local := by first | exact .inl rfl | exact .inr rfl | assumption) :
    PS X (.Assign [.Name x pos'] (.Call (.Attribute o "pop" apos) [] [] cpos) pos) (tS cl W (mPopSet j i)) := by
  refine ps_weak (ps_set hN hj hx (pe_bm0 PySem.F.plainAttrs_list PySem.F.slot_list_pop PySem.F.type_list_pop mt_pop ho h1 h3) hs hf) fun Dn σ H q => ?_
  obtain ⟨F0, H0, F, env, s, q⟩ := q
  unfold mPopSet at q
  split at q
  case h_2 => exact q.elim
  rename_i ds ei
  split at q
  case h_2 => exact q.elim
  rename_i d hd
  obtain ⟨p, vs, y, hp, hH, hy, ry, s2⟩ := s.pop ei hd
  exact ⟨.ref p, hp, .inl ⟨rfl, vs, .inl (.inl hH)⟩, p, vs, y, rfl, rfl, hH, hy, HSt.get (W := W) (s2.set ry) q⟩
/-- a.append((b.pop(), e, ..)) -/
def mApPop (a b : Nat) (ms : HEnv → R (List D)) : HEnv → SO := fun env => match env[b]? with
  | some (.own (.lst db)) => match db.getLast? with
    | some d => (fun env1 => match env1[a]? with
      | some (.own (.lst da)) => match ms env1 with
        | .ok ds => if da.length < sizeLine ∧ ds.length < 1000 then .nx (env1.set a (.own (.lst (da ++ [.tup (d :: ds)])))) else .stuck
        | _ => .stuck
      | _ => .stuck) (env.set b (.own (.lst db.dropLast)))
    | none => .stuck
  | _ => .stuck
theorem ds_apPop {a b : Nat} {oa ob : Expr} {es : List Expr} {ms : HEnv → R (List D)} {apos1 apos2 cpos1 cpos2 tp : Pos} {x1 : _} (hab : a ≠ b) (ha : PE X oa (tVar a)) (hb : PE X ob (tVar b)) (he : PA X es (tA cl W ms))
    (hs : swapsWith (.Call (.Attribute oa "append" apos1) [.Tuple (.Call (.Attribute ob "pop" apos2) [] [] cpos2 :: es) x1 tp] [] cpos1) none pos.line X.env = pure false := by rfl)
    (h1 : attributeBase oa "append" X.env (eval oa X.env) = eval oa X.env := by rfl) (k1 : attributeBase ob "pop" X.env (eval ob X.env) = eval ob X.env := by rfl) (k3 : (apos2.endLine == cpos2.line) = true := by rfl)
    (k4 : starEach (.Call (.Attribute ob "pop" apos2) [] [] cpos2 :: es) X.env = (false, eval (.Call (.Attribute ob "pop" apos2) [] [] cpos2) X.env) :: starEach es X.env := by rfl)
    (h2 : (((backTo cpos1 (starEach [.Tuple (.Call (.Attribute ob "pop" apos2) [] [] cpos2 :: es) x1 tp] X.env)).all (!·.1)) && (backToKw cpos1 (keywordEach [] X.env)).all (·.1.isSome) && decide (([Expr.Tuple (.Call (.Attribute ob "pop" apos2) [] [] cpos2 :: es) x1 tp]).length + ([] : List Keyword).length + (if ([] : List Keyword).isEmpty = true then 0 else 1) < 30)) = true := by rfl)
    (h3 : (apos1.endLine == cpos1.line) = true := by rfl) (h4 : starEach [.Tuple (.Call (.Attribute ob "pop" apos2) [] [] cpos2 :: es) x1 tp] X.env = (false, eval (.Tuple (.Call (.Attribute ob "pop" apos2) [] [] cpos2 :: es) x1 tp) X.env) :: starEach [] X.env := by rfl) (h5 : (backTo cpos1 (starEach [] X.env)).any (·.1) = false := by rfl) :
    PS X (.Expr (.Call (.Attribute oa "append" apos1) [.Tuple (.Call (.Attribute ob "pop" apos2) [] [] cpos2 :: es) x1 tp] [] cpos1) pos) (tS cl W (mApPop a b ms)) := by
  refine ps_weak (ps_expr (pe_bm PySem.F.plainAttrs_list PySem.F.slot_list_append PySem.F.type_list_append mt_append ha (pa_cons (pe_tup (pa_cons (pe_bm0 PySem.F.plainAttrs_list PySem.F.slot_list_pop PySem.F.type_list_pop mt_pop hb k1 k3) he k4)) pa_nil h4) h1 h2 h3 h4 h5) hs) fun Dn σ H q => ?_
  obtain ⟨F0, H0, F, env, s, q⟩ := q
  unfold mApPop at q
  split at q
  case h_2 => exact q.elim
  rename_i db eb
  split at q
  case h_2 => exact q.elim
  rename_i d hd
  simp only at q
  split at q
  case h_2 => exact q.elim
  rename_i da ea
  have ea0 : env[a]? = some (.own (.lst da)) := by rw [List.getElem?_set_ne (Ne.symm hab)] at ea; exact ea
  obtain ⟨p, vs, y, hp, hH, hy, ry, s2⟩ := s.pop eb hd
  obtain ⟨pa', hpa, hfa, h0a, ua, hua, oba, mua⟩ := s2.own a _ (oL_own ea)
  obtain ⟨pa0, hpa0, _, _, ua0, hua0, oba0, _⟩ := s.own a _ (oL_own ea0)
  have epa : pa0 = pa' := by rw [hpa0] at hpa; exact (V.ref.inj (Option.some.inj (Option.some.inj hpa)))
  subst epa
  obtain ⟨va0, rfl, _, _⟩ := oba0
  refine ⟨.ref pa0, hpa, .inl ⟨rfl, va0, .inl (.inl hua0)⟩, ?_⟩
  refine ⟨.ref p, hp, .inl ⟨rfl, vs, .inl (.inl hH)⟩, p, vs, y, rfl, rfl, hH, hy, ?_⟩
  split at q
  case h_2 => exact q.elim
  rename_i ds em
  split at q
  case isFalse => exact q.elim
  rename_i hz
  refine ⟨F0, H0, F, _, s2, ?_⟩
  rw [em]
  intro ws F1 H1 kk1 ss1 r1
  have hl : ws.length = ds.length := r1.len
  refine ⟨by rw [List.length_cons, hl, sizeLine_eq]; omega, fun q' hq' => ?_⟩
  have hfq := sub_none ss1 hq'
  obtain ⟨va, rfl, rla, zla⟩ := oba
  have hHa := kk1.same _ _ hua
  have nea : pa0 ≠ q' := ne_of_none hHa hq'
  obtain ⟨F2, x2, k2, s2', r2, _⟩ := freezeO (u := .tup (y :: ws)) (cl := cl) (d := .tup (d :: ds)) (kp_new (F := F1) hq') (sub_upd ss1 hfq) hq' hfq upd_same
    ⟨_, rfl, by simp only [RepL]; exact ⟨_, _, rfl, ry.ext kk1.ext, r1⟩, by rw [List.length_cons, sizeLine_eq]; omega⟩
  have st := (s2.step kk1 ss1).step k2 s2'
  have hHa2 : (upd H1 q' (.tup (y :: ws))) pa0 = some (.lst va) := by rw [upd_ne nea]; exact hHa
  refine ⟨pa0, va, .ref q', rfl, rfl, hHa2, by rw [rla.len]; exact hz.1, ?_⟩
  have f1 : F1 pa0 = none := kk1.fr pa0 _ hua hfa
  have f2 : F2 pa0 = none := k2.fr pa0 _ hHa f1
  exact q σ F2 _ (kk1.ext.trans k2.ext) (st.writeOwn ea hpa f2 h0a (d' := .lst (da ++ [.tup (d :: ds)])) ⟨_, rfl, (rla.ext (kk1.ext.trans k2.ext)).app (by simp only [RepL]; exact ⟨_, _, rfl, r2, rfl⟩), by rw [List.length_append]; exact hz.1⟩ rfl)
end
/-! ### a, b = [..], [..] -/
def mParN (i j : Nat) (ma mb : HEnv → R D) : HEnv → SO := fun env => match ma env with
  | .ok d => match mb env with
    | .ok e => .nx ((env.set i (.own d)).set j (.own e))
    | _ => .stuck
  | _ => .stuck
section
variable {X : Cx} {cl : Cl} {W : WX} {pos : Pos}
theorem ds_parN {i j : Nat} {x y : Str} {a b : Expr} {ma mb : HEnv → R D} {px py pt : Pos} {kt k2 pt2} (hc : X.calm = true) (hN : X.N.Nodup) (hi : X.N[i]? = some x) (hj : X.N[j]? = some y) (hij : i ≠ j)
    (hx : X.env.scope.names.lookup x = some .local) (hy : X.env.scope.names.lookup y = some .local) (ha : PE X a (tN cl W ma)) (hb : PE X b (tN cl W mb))
    (hw : swappedStores [.Tuple [.Name x px, .Name y py] kt pt] (.Tuple [a, b] k2 pt2) X.env = pure (some [x, y]))
    (hs : swapsWithSole [.Tuple [.Name x px, .Name y py] kt pt] (.Tuple [a, b] k2 pt2) pos.line X.env = pure false := by rfl)
    (h1 : starEach [a, b] X.env = (false, eval a X.env) :: starEach [b] X.env := by rfl) (h2 : starEach [b] X.env = (false, eval b X.env) :: starEach [] X.env := by rfl) :
    PS X (.Assign [.Tuple [.Name x px, .Name y py] kt pt] (.Tuple [a, b] k2 pt2) pos) (tS cl W (mParN i j ma mb)) := by
  refine ps_weak (ps_par hc hN hi hj hij hx hy (pa_cons ha (pa_cons hb pa_nil h2) h1) hw hs) fun Dn σ H q => ?_
  obtain ⟨F0, H0, F, env, s, q⟩ := q
  unfold mParN at q
  split at q
  case h_2 => exact q.elim
  rename_i d ed
  split at q
  case h_2 => exact q.elim
  rename_i e ee
  refine ⟨F0, H0, F, env, s, ?_⟩
  rw [ed]
  intro v F1 H1 k1 s1 r1
  obtain ⟨p, rfl, hp, fp, op⟩ := r1
  have st1 := s.step k1 s1
  refine ⟨F0, H0, F1, env, st1, ?_⟩
  rw [ee]
  intro w F2 H2 k2 s2 r2
  obtain ⟨p2, rfl, hp2, fp2, op2⟩ := r2
  have st2 := st1.step k2 s2
  obtain ⟨u, hu, _⟩ := id op
  have f1 : F2 p = none := k2.fr p u hu fp
  have ne : p ≠ p2 := ne_of_none hu hp2
  have s3 := st2.setOwn (i := i) f1 (s.kp.same.free hp) (op.kp k2) fun j' e' _ h => s.newOwn hp j' e' h
  have s4 := s3.setOwn (i := j) fp2 (st1.kp.same.free hp2) op2 fun j' e' hj' h => by
    by_cases q' : i = j'
    · subst q'
      intro z
      rw [List.getElem?_set_self (by
        by_cases hl : i < σ.length
        · exact hl
        · rw [List.getElem?_eq_none (by rw [List.length_set]; omega)] at z
          cases z)] at z
      cases z
      exact ne rfl
    · rw [List.getElem?_set_ne q'] at h ⊢
      exact st1.newOwn hp2 j' e' h
  refine ⟨.ref p, .ref p2, rfl, HSt.get (W := W) s4 (q.ext (k1.ext.trans k2.ext))⟩
end
/-! ### x += e of ints -/
def addI : D → D → R D
  | .int i, .int j => .ok (.int (i + j))
  | _, _ => .stuck
def subI : D → D → R D
  | .int i, .int j => .ok (.int (i - j))
  | _, _ => .stuck
def mAugI (f : D → D → R D) (i : Nat) (m : HEnv → R D) : HEnv → SO := sB (m2 f (mVar i) m) fun d env => match env[i]? with
  | some (.val _) => .nx (env.set i (.val d))
  | _ => .stuck
section
variable {X : Cx} {cl : Cl} {W : WX} {e : Expr} {m : HEnv → R D} {pos pos' : Pos} {i : Nat} {x : Str}
theorem addI_2 : ∀ (W : WX) (F H : Hp) (d e : D) (v u : V) (Q : VK) (σ : L2.St), Sub F H → Rep cl F d v → Rep cl F e u → PostG cl (relF cl) W (addI d e) F σ H Q → rI0 (fun i j => V.int (i + j)) v u H Q := by
  intro W F H d e v u Q σ s r1 r2 p
  unfold addI at p
  split at p
  · simp only [Rep] at r1 r2
    subst r1 r2
    exact ⟨_, _, rfl, rfl, PostG.done p s (by simp only [relF, Rep])⟩
  · exact p.elim
theorem subI_2 : ∀ (W : WX) (F H : Hp) (d e : D) (v u : V) (Q : VK) (σ : L2.St), Sub F H → Rep cl F d v → Rep cl F e u → PostG cl (relF cl) W (subI d e) F σ H Q → rI0 (fun i j => V.int (i - j)) v u H Q := by
  intro W F H d e v u Q σ s r1 r2 p
  unfold subI at p
  split at p
  · simp only [Rep] at r1 r2
    subst r1 r2
    exact ⟨_, _, rfl, rfl, PostG.done p s (by simp only [relF, Rep])⟩
  · exact p.elim
theorem ds_augI {op : Operator} {f : D → D → R D} {r : R2} (ho : OpR X (inplaceOp op) r) (hf : ∀ (W : WX) (F H : Hp) (d e : D) (v u : V) (Q : VK) (σ : L2.St), Sub F H → Rep cl F d v → Rep cl F e u → PostG cl (relF cl) W (f d e) F σ H Q → r v u H Q)
    (hN : X.N.Nodup) (hi : X.N[i]? = some x) (hx : X.env.scope.names.lookup x = some .local) (he : PE X e (tF cl W m)) : PS X (.AugAssign (.Name x pos') op e pos) (tS cl W (mAugI f i m)) := by
  refine ps_weak (ps_augL (ti := fun σ v y H Q => r v y H Q) hN hi hx he fun pins s σ H v y u w Q I rx ry h => ho pins s σ H v y u w Q I rx ry h) fun Dn σ H q => ?_
  have q' : tG cl (relF cl) W (m2 f (mVar i) m) σ H fun z H2 => Dn.nx (σ.set i (some z)) H2 := stB (k := fun d env => match env[i]? with
    | some (.val _) => .nx (env.set i (.val d))
    | _ => .stuck) q fun d v F0 H0 F env Hs H1 s0 F1 kp s r p => by
      split at p
      case h_2 => exact p.elim
      rename_i c' ec
      exact HSt.get (W := W) (s.set r) p
  have q2 := read2 (rel := relF cl) (rel1 := relF cl) (r := r) oldF carF (fun Hs F H d v e u Q σ s r1 r2 p => hf W F H d e v u Q σ s r1 r2 p) q'
  obtain ⟨F0, H0, F, env, s, q2⟩ := q2
  unfold mVar at q2
  split at q2
  case h_2 => exact q2.elim
  rename_i d ed
  obtain ⟨v, hv, rv⟩ := s.val i d ed
  exact ⟨v, hv, q2 v F H (Kp.refl F H) s.sub rv⟩
/-- -k -/
theorem d_negc {k : Int} {j : Nat} {p : Pos} : PE X (.UnaryOp .USub (.Constant (.int k) j p) pos) (tF cl W (mC (.int (-k)))) := by
  refine pe_weak (pe_un un_neg pe_int) fun σ H Q ⟨F0, H0, F, env, s, q⟩ => ?_
  exact ⟨k, rfl, PostG.done (rel := relF cl) (v := .int (-k)) q s.sub (by simp only [relF, Rep])⟩
end
/-! ### f"({x.replace(a, b)})" -/
def replD (y z : Str) : D → R D
  | .str x => if x.length + (x.length + 1) * z.length ≤ 16777216 then .ok (.str (Txt.replace x y z)) else .stuck
  | _ => .stuck
section
variable {X : Cx} {cl : Cl} {W : WX} {o : Expr} {mo : HEnv → R D} {pos fp cp1 cp2 c0 c1 apos cpos : Pos} {y z ta tb : Str} {j k j1 j2 : Nat}
theorem d_fstrR (ho : PE X o (tF cl W mo)) (hz1 : ta.length ≤ 100) (hyz : (y == z) = false := by decide)
    (hst : starEach [.Constant (.str y) j c0, .Constant (.str z) k c1] X.env = [(false, eval (.Constant (.str y) j c0) X.env), (false, eval (.Constant (.str z) k c1) X.env)] := by rfl)
    (hbase : attributeBase o "replace" X.env (eval o X.env) = eval o X.env := by rfl) (hline : (apos.endLine == cpos.line) = true := by rfl) :
    PE X (.JoinedStr [.Constant (.str ta) j1 cp1, .FormattedValue (.Call (.Attribute o "replace" apos) [.Constant (.str y) j c0, .Constant (.str z) k c1] [] cpos) (-1) none fp, .Constant (.str tb) j2 cp2] pos)
      (tF cl W (mJoinS [mC (.str ta), mFmt (m1 (replD y z) mo), mC (.str tb)] Str.empty)) := by
  refine ⟨fun pins s σ H Q I q => wpAny_JoinedStr ?_⟩
  have q1 := read_js q
  refine Calls.Constant_str ?_
  obtain ⟨F0, H0, F, env, st, q1⟩ := q1
  have q2 := q1 (.str ta) F H (Kp.refl F H) st.sub (by simp only [relF, Rep])
  obtain ⟨y1, e1, hz, q3⟩ := q2
  cases e1
  refine ⟨ta, _, rfl, hz, ?_⟩
  have q4 : tF cl W (mFmt (m1 (replD y z) mo)) σ H fun x H1 => ∃ y : Str, x = .str y ∧ ((Str.empty ++ ta) ++ y).length ≤ sizeLine ∧ tJs ([mC (.str tb)].map fun m => tF cl W m) ((Str.empty ++ ta) ++ y) σ H1 fun out H1 => Q (.str out) H1 := q3
  have q5 := read1 (f := fmtD) (rel := relF cl) (r := fun x H1 Q => (∃ y : Str, x = .str y ∧ y.length ≤ sizeLine ∧ Q (.str y) H1) ∨ ∃ i : Int, x = .int i ∧ i.natAbs.log2 < 1920 ∧ Q (.str (toString i)) H1) oldF (fun Hs F H d v Q σ s r p => by
    unfold fmtD at p
    split at p
    · obtain rfl : v = .str _ := by simpa only [relF, Rep] using r
      split at p
      · exact .inl ⟨_, rfl, by assumption, PostG.done p s (by simp only [relF, Rep])⟩
      · exact p.elim
    · obtain rfl : v = .int _ := by simpa only [relF, Rep] using r
      split at p
      · exact .inr ⟨_, rfl, by assumption, PostG.done p s (by simp only [relF, Rep])⟩
      · exact p.elim
    · exact p.elim) q4
  have q6 := read1 (f := replD y z) (rel := relF cl) (r := fun x H1 Q => ∃ t, x = V.str t ∧ t.length + (t.length + 1) * z.length ≤ 16777216 ∧ Q (.str (Txt.replace t y z)) H1) oldF (fun Hs F H d v Q σ s r p => by
    unfold replD at p
    split at p
    · obtain rfl : v = .str _ := by simpa only [relF, Rep] using r
      split at p
      · exact ⟨_, rfl, by assumption, PostG.done p s (by simp only [relF, Rep])⟩
      · exact p.elim
    · exact p.elim) q5
  have q8 : CwR.tReplC (tF cl W mo) y z σ H fun x H1 => ∃ y2 : Str, x = .str y2 ∧ y2.length ≤ sizeLine ∧ ∃ y' : Str, V.str y2 = .str y' ∧ ((Str.empty ++ ta) ++ y').length ≤ sizeLine ∧ tJs ([mC (.str tb)].map fun m => tF cl W m) ((Str.empty ++ ta) ++ y') σ H1 fun out H1 => Q (.str out) H1 := by
    obtain ⟨F0, H0, F, env, st, p⟩ := q6
    refine ⟨F0, H0, F, env, st, ?_⟩
    cases em : mo env with
    | er x => rw [em] at p; exact p
    | stuck => rw [em] at p; exact p.elim
    | ok d =>
      rw [em] at p
      intro v F' H' k s' r
      obtain ⟨t, e1, e2, e3⟩ := p v F' H' k s' r
      refine ⟨t, e1, e2, ?_⟩
      rcases e3 with ⟨y2, f1, f2, f3⟩ | ⟨i, f1, _⟩
      · exact ⟨y2, f1, f2, f3⟩
      · cases f1
  refine wpAny_FormattedValue_plain (thn (CwR.pet_replC (X := X) (o := o) ho hyz hst hbase hline pins _ σ H _ (by show 1 ≤ s.toks + 1; omega) (I.tok _) q8) fun v s1 hv => ?_)
  obtain ⟨x, H1, I1, r1, q7⟩ := hv
  have fin : ∀ (y2 : Str) (tk : Tok) (s2 : Shared), Inv X pins σ H1 s2 → (∃ y : Str, V.str y2 = .str y ∧ ((Str.empty ++ ta) ++ y).length ≤ sizeLine ∧ tJs ([mC (.str tb)].map fun m => tF cl W m) ((Str.empty ++ ta) ++ y) σ H1 fun out H1 => Q (.str out) H1) →
      ∃ y t, Value.str y2 tk = .str y t ∧ ((Str.empty ++ ta) ++ y).length ≤ sizeLine ∧ Joins (model X.prog X.w) X.A X.xe (evalEach [.Constant (.str tb) j2 cp2] X.env) ((Str.empty ++ ta) ++ y) (fun out s₁ => out.length ≤ sizeLine ∧ EP X pins σ Q (.str out s₁.toks) { s₁ with toks := s₁.toks + 1 }) s2 := by
    rintro y2 tk s2 I2 ⟨y', ey, hz', q8⟩
    cases ey
    refine ⟨y2, tk, rfl, hz', ?_⟩
    refine Calls.Constant_str ?_
    obtain ⟨F0', H0', F', env', st', q9⟩ := q8
    have q10 := q9 (.str tb) F' H1 (Kp.refl F' H1) st'.sub (by simp only [relF, Rep])
    obtain ⟨y3, e3, hz3, q11⟩ := q10
    cases e3
    exact ⟨tb, _, rfl, hz3, hz3, .str _, H1, (I2.tok _).tok _, ⟨_, rfl⟩, q11⟩
  obtain ⟨y2, rfl, hz2, q7⟩ := q7
  obtain ⟨tk, rfl⟩ := r1
  exact wpAny_formatField_str (fin y2 tk s1 I1 q7) (fin y2 s1.toks _ (I1.tok _) q7) hz2
end
end HL

/-! Classmethods: C.m(e); def m(cls, ..): return cls(e). -/
namespace HL
open PySem PySem.Spec PyProof.Rows L2 ClX
/-- what is known of a classmethod -/
structure Dk (P : Program) (w : World) (K : PySem.W.Frag) (mg : Str → Option Value) (base : Heap) (cl : Cl) (k : Nat) (c m : Str) (n : Nat) (f : List D → R (Bool × D)) : Prop where
  ex : ∃ (C p g : Addr) (mc : Value), FnR P w K mg base (L2.CX P w) k g (fun vs H Q E => ∃ ws, vs = .ref C :: ws ∧ spD cl n f ws H Q E) ∧ CRead K C mc ∧ CMet K C mc m p g ∧ mg c = some (.ref C)
section
variable {X : Cx} {CX : CXT} {k : Nat} {C p g : Addr} {mc : Value} {sp : Sp} {E : L2.St → XK} {o e : Expr} {es : List Expr} {m : Str} {pos apos : Pos} {ta : TE} {t : TA}
theorem run_cmS {k : Nat} {q : Addr} {sp : Sp} {E : XK} {Q : VK} {us : List Value} {vs : List V} {pins : List (Addr × Obj)} {σ : L2.St} {H : Hp} {s : Shared} (F : FnR X.prog X.w X.K X.mg X.base CX k g sp) (hr : Room k X.A) (hx : PassesAt CX X σ E) (I : Inv X ((q, PySem.W.methodObj (.ref g) (.ref C)) :: pins) σ H s)
    (r : Vals vs us) (h : sp (.ref C :: vs) H Q E) : wpAny (model X.prog X.w) X.A (call (.ref q) us) (EP X pins σ Q) X.xe s := by
  have z : wpAny (model X.prog X.w) X.A (call (.ref q) us) (EP X ((q, PySem.W.methodObj (.ref g) (.ref C)) :: pins) σ Q) X.xe s := by
    refine wpAny_call (PySem.W.method_call (pin_at I) ?_)
    refine codeAny_mono (F X.A X.stack s H (.ref C :: us) (.ref C :: vs) Q E hr I.env0 (.cons rfl r) h) fun r s' hq => ?_
    cases r with
    | error e => exact hx _ H s e s' I hq
    | ok fl =>
      cases fl with
      | ret u => exact I.after hq
      | next => exact False.elim hq
      | brk => exact False.elim hq
      | cont => exact False.elim hq
  exact thn z fun _ _ y => unpinE y
def tCMethS (C : Addr) (sp : Sp) (E : L2.St → XK) (ta : TE) (t : TA) : TE := fun σ H Q => ta σ H fun x H1 => x = .ref C ∧ t σ H1 fun vs H2 => sp (.ref C :: vs) H2 Q (E σ)
theorem pe_cmethS {pl : Sem Bool} (he : PE X o ta) (r : CRead X.K C mc) (c : CMet X.K C mc m p g) (F : FnR X.prog X.w X.K X.mg X.base CX k g sp) (hr : Room k X.A) (hx : ∀ σ, PassesAt CX X σ (E σ)) (ha : PA X (e :: es) t)
    (hst : starEach (e :: es) X.env = (false, eval e X.env) :: starEach es X.env := by rfl) (hpl : (backTo pos (starEach es X.env)).any (·.1) = false := by rfl)
    (ht : eval (.Call (.Attribute o m apos) (e :: es) [] pos) X.env = (do
      let ov ← eval o X.env
      standAt apos.atName
      let (f, first) ← holding [ov] (getMethod ov m pl)
      callWith pos f first (backTo pos (starEach (e :: es) X.env)) (backToKw pos (keywordEach [] X.env))) := by rfl) :
    PE X (.Call (.Attribute o m apos) (e :: es) [] pos) (tCMethS C sp E ta t) := by
  refine ⟨fun pins s σ H Q I h => ?_⟩
  refine PySem.W.methodCall_KW (pl := pl) (thn (he.run pins s σ H _ I h) fun u s1 ⟨x, H1, I1, rx, ex, q⟩ => ?_) ht
  subst ex
  obtain rfl : u = Value.ref C := rx
  refine getmethcm_ok I1 r c fun s2 I2 => ?_
  refine callwith_cm I2 (base_none I1 (Nat.le_refl _)) c.fi (thn (ha.run pos _ s2 σ H1 _ I2 q) fun us s3 ⟨vs, H2, I3, rv, q2⟩ => ⟨⟨pin_at I3, I3.kIn⟩, ?_⟩) hst hpl
  exact run_cmS F hr (hx σ) I3 rv q2
end
section
variable {X : Cx} {cl : Cl} {W : WX} {k n : Nat} {c m : Str} {f : List D → R (Bool × D)} {e : Expr} {es : List Expr} {ms : HEnv → R (List D)} {pos apos p0 : Pos}
theorem d_cmeth {pl : Sem Bool} (F : Dk X.prog X.w X.K X.mg X.base cl k c m n f) (hr : Room k X.A) (tk : Takes X W) (hg : Gl X c) (ha : PA X (e :: es) (tA cl W ms)) (hn : Ln ms n := by repeat constructor)
    (hd : (c == ("__debug__" : Str)) = false := by decide) (hst : starEach (e :: es) X.env = (false, eval e X.env) :: starEach es X.env := by rfl) (hpl : (backTo pos (starEach es X.env)).any (·.1) = false := by rfl)
    (ht : eval (.Call (.Attribute (.Name c p0) m apos) (e :: es) [] pos) X.env = (do
      let ov ← eval (.Name c p0) X.env
      standAt apos.atName
      let (f, first) ← holding [ov] (getMethod ov m pl)
      callWith pos f first (backTo pos (starEach (e :: es) X.env)) (backToKw pos (keywordEach [] X.env))) := by rfl) :
    PE X (.Call (.Attribute (.Name c p0) m apos) (e :: es) [] pos) (tF cl W (mCall f ms)) := by
  obtain ⟨C, p, g, mc, hF, hR, hM, hm⟩ := F.ex
  refine pe_weak (pe_cmethS (pl := pl) (pe_glob (v := .ref C) hg hm rfl hd) hR hM hF hr (fun σ => passAt tk σ) ha hst hpl ht) fun σ H Q q => ?_
  refine ⟨rfl, ?_⟩
  have q2 := read_call (gg := fun r => .ok r.2) (rel := relF cl) oldF hn (fun Hs F1 H1 F' H' r d v eg k' s' rr => by cases eg; exact ret_frz k' s' rr) (fun _ _ z => nomatch z) q
  obtain ⟨F0, H0, F, env, s, q2⟩ := q2
  refine ⟨F0, H0, F, env, s, ?_⟩
  cases em : ms env with
  | er y => rw [em] at q2; exact q2
  | stuck => rw [em] at q2; exact q2.elim
  | ok ds =>
    rw [em] at q2
    exact fun vs F1 H1 k1 s1 r1 => ⟨vs, rfl, q2 vs F1 H1 k1 s1 r1⟩
end
/-! ### def m(cls, ..): return cls(e) -/
section
variable {X : Cx} {k i : Nat} {f C : Addr} {fd : FuncData} {ps : List Str} {sp : Sp} {E : L2.St → XK} {x : Str} {p pos : Pos} {e : Expr} {es : List Expr} {t : TA}
theorem pe_makeL (M : Mk X.K C f) (F : FnOk X.prog X.w X.K X.mg X.base (L2.CX X.prog X.w) k f fd ps sp) (hr : Room (k + 1) X.A) (hN : X.N[i]? = some x) (hv : Vis X.env.scope x) (hb : Binds X.K fd ps []) (hx : ∀ σ, PassesAt (L2.CX X.prog X.w) X σ (E σ))
    (ha : PA X (e :: es) t) (hdb : (x == ("__debug__" : Str)) = false := by decide) (hcd : (x == ("__classdict__" : Str)) = false := by decide) (he : starEach (e :: es) X.env = (false, eval e X.env) :: starEach es X.env := by rfl) (hpl : (backTo pos (starEach es X.env)).any (·.1) = false := by rfl) :
    PE X (.Call (.Name x p) (e :: es) [] pos) (fun σ H Q => σ[i]? = some (some (.ref C)) ∧ tMakeS C sp E t σ H Q) := by
  refine ⟨fun pins s σ H Q I h => ?_⟩
  obtain ⟨hs, ht⟩ := h
  refine wpAny_Call_Name_kw (thn ((pe_var (pos := p) hN hv hdb hcd).run pins s σ H (fun v H1 => v = .ref C ∧ H1 = H) I ⟨.ref C, hs, rfl, rfl⟩) fun u s1 ⟨v, H1, I1, r1, q1⟩ => ?_)
  obtain ⟨rfl, rfl⟩ := q1
  cases r1
  refine PySem.W.callWith_K (h₀ := X.base) I.ok.mod.kin M.kp (thn (ha.run pos pins s1 σ _ _ I1 ht) fun us s2 ⟨vs, H2, I2, r, q⟩ => ⟨I2.kIn, ?_⟩) he hpl
  exact run_makeS M F hr hb (hx σ) I2 r q
end
def fnC (n : Nat) (c : Str) (ms : HEnv → R (List D)) (fI : List D → R (List (Str × D))) (ds : List D) : R (Bool × D) := (ms (Slot.no :: (ds.map Slot.val ++ List.replicate (n - 1 - ds.length) Slot.no))).bind fun xs => (fI xs).bind fun fs => .ok (true, .ins c fs)
section
variable {P : Program} {w : World} {K : PySem.W.Frag} {mg : Str → Option Value} {base : Heap} {cl : Cl}
/-- the start of a classmethod's body: the class's own slot tells nothing -/
theorem cls_start {N : List Str} {C : Addr} {n : Nat} {ds : List D} {ws : List V} {F H : Hp} (hs : Sub F H) (r : RepL cl F ds ws) (hn : ws.length + 1 ≤ N.length) : HSt cl (F, fun _ => none) H F (Slot.no :: (ds.map Slot.val ++ List.replicate (N.length - 1 - ds.length) Slot.no)) (L2.start N (V.ref C :: ws)) H := by
  have hl := r.len
  have slot : ∀ (i : Nat) (z : Slot), (Slot.no :: (ds.map Slot.val ++ List.replicate (N.length - 1 - ds.length) Slot.no))[i]? = some z → (∃ j d, i = j + 1 ∧ z = .val d ∧ ds[j]? = some d) ∨ z = .no := fun i z e => by
    cases i with
    | zero => exact .inr (Option.some.inj e).symm
    | succ j =>
      rw [List.getElem?_cons_succ] at e
      by_cases hj : j < ds.length
      · rw [List.getElem?_append_left (by rw [List.length_map]; exact hj), List.getElem?_map] at e
        cases q : ds[j]? with
        | none => rw [q] at e; cases e
        | some d =>
          rw [q] at e
          exact .inl ⟨j, d, rfl, (Option.some.inj e).symm, q⟩
      · rw [List.getElem?_append_right (by rw [List.length_map]; omega), List.getElem?_replicate] at e
        split at e
        · exact .inr (Option.some.inj e).symm
        · cases e
  have ownOf : ∀ (i : Nat) (d : D), (Slot.no :: (ds.map Slot.val ++ List.replicate (N.length - 1 - ds.length) Slot.no))[i]?.bind oL = some d → False := fun i d e => by
    cases h : (Slot.no :: (ds.map Slot.val ++ List.replicate (N.length - 1 - ds.length) Slot.no))[i]? with
    | none => rw [h] at e; cases e
    | some z =>
      rw [h] at e
      rcases slot i z h with ⟨j, d', _, rfl, _⟩ | rfl <;> cases e
  refine ⟨?_, hs, Kp.refl F H, fun i d e => ?_, fun i d e => (ownOf i d e).elim, fun i d e => (ownOf i d (oL_lent e)).elim, fun i d e => ?_, fun i j d e p h1 => (ownOf i d h1).elim⟩
  · show (L2.start N (V.ref C :: ws)).length = _
    unfold L2.start
    simp only [List.length_append, List.length_map, List.length_replicate, List.length_cons]
    omega
  · rcases slot i _ e with ⟨j, d', rfl, z, hd⟩ | z
    · cases z
      obtain ⟨v, hv, rv⟩ := r.at hd
      exact ⟨v, start_get (by rw [List.getElem?_cons_succ]; exact hv) (by rw [List.length_cons]; exact hn), rv⟩
    · cases z
  · rcases slot i _ e with ⟨j, d', _, z, _⟩ | z <;> cases z
theorem fnDC {x qual c cv : Str} {st : Stmt} {f C fa : Addr} {fd fdI : FuncData} {N ps psI : List Str} {k k2 n nI : Nat} {ms : HEnv → R (List D)} {fI : List D → R (List (Str × D))} {e : Expr} {es : List Expr} {p cpos pos : Pos} (F : Fun K x qual st f fd) (S : FnScope N ps (defScope st)) (hps : ps.length = n + 1) (hn : ps.length ≤ N.length)
    (M : Mk K C fa) (hI : FnOk P w K mg base (L2.CX P w) k2 fa fdI psI (spI cl c nI fI)) (hcl : cl c = some C) (hbI : Binds K fdI psI []) (hk : k2 + 1 ≤ k) (hbody : defBody st = [.Return (some (.Call (.Name cv p) (e :: es) [] cpos)) pos]) (hN0 : N[0]? = some cv) (hlen : Ln ms nI)
    (hv : Vis (defScope st) cv) (hdb : (cv == ("__debug__" : Str)) = false) (hcd : (cv == ("__classdict__" : Str)) = false)
    (hb : ∀ (cdv : Value) (A : Around) (outer : List PySem.Env) (s : Shared) (H : Hp) (E : XK), Room k (A.deeper (envOfC qual (defScope st) s.heap.objs.size f cdv)) →
      PA (cxOf (L2.CX P w) P w K mg base N qual (defScope st) f cdv A outer s H E) (e :: es) (tA cl (fun cls d _ H => E cls d H) ms) ∧
      starEach (e :: es) (cxOf (L2.CX P w) P w K mg base N qual (defScope st) f cdv A outer s H E).env = (false, eval e (cxOf (L2.CX P w) P w K mg base N qual (defScope st) f cdv A outer s H E).env) :: starEach es (cxOf (L2.CX P w) P w K mg base N qual (defScope st) f cdv A outer s H E).env ∧
      (backTo cpos (starEach es (cxOf (L2.CX P w) P w K mg base N qual (defScope st) f cdv A outer s H E).env)).any (·.1) = false) (hbd : Binds K fd ps []) :
    FnR P w K mg base (L2.CX P w) (k + 1) f (fun vs H Q E => ∃ ws, vs = .ref C :: ws ∧ spD cl n (fnC N.length c ms fI) ws H Q E) := by
  have main : FnOk P w K mg base (L2.CX P w) (k + 1) f fd ps (fun vs H Q E => ∃ ws, vs = .ref C :: ws ∧ spD cl n (fnC N.length c ms fI) ws H Q E) := by
    refine F.okX S (fun vs H Q E ⟨ws, e1, h⟩ => by rw [e1, List.length_cons, h.1, hps]) fun cdv A outer s H vs Q E hr ⟨ws, e1, hl, F1, ds, hs, r, q⟩ => ?_
    subst e1
    obtain ⟨b1, b2, b3⟩ := hb cdv A outer s H E hr
    rw [hbody]
    have tk : Takes (cxOf (L2.CX P w) P w K mg base N qual (defScope st) f cdv A outer s H E) (fun cls d _ H => E cls d H) := takes_of rfl rfl rfl rfl
    refine ⟨_, pss_one (ps_ret (pe_makeL (i := 0) (C := C) M hI (hr.mono hk) hN0 hv hbI (fun σ => passAt tk σ) b1 hdb hcd b2 b3)), ?_⟩
    refine ⟨start_get rfl (by rw [List.length_cons]; omega), ?_⟩
    have st0 := cls_start (C := C) (n := n) hs r (N := N) (by omega)
    refine ⟨(F1, fun _ => none), H, F1, _, st0, ?_⟩
    unfold fnC at q
    cases em : ms (Slot.no :: (ds.map Slot.val ++ List.replicate (N.length - 1 - ds.length) Slot.no)) with
    | er y =>
      rw [em] at q
      exact fun cls dd F' H' k' s' r' => q cls dd F' H' k' s' r'
    | stuck => rw [em] at q; exact q.elim
    | ok xs =>
      rw [em] at q
      simp only [R.bind_ok] at q
      intro us F2 H2 k2' s2 r2 a dx na nd ne
      refine ⟨by rw [List.length_cons, call_len_n r2 (hlen.len em)], F2, H2, a, dx, C, xs, us, rfl, na, nd, ne, rfl, hcl, s2, r2, ?_⟩
      cases ef : fI xs with
      | er y =>
        rw [ef] at q
        exact fun cls dd F' H' k' s' r' => q cls dd F' H' (k2'.trans k') s' r'
      | stuck => rw [ef] at q; exact q.elim
      | ok fs =>
        rw [ef] at q
        simp only [R.bind_ok] at q
        exact fun F' H' k' s' fx o => ⟨rfl, q (.ref a) F' H' (k2'.trans k') s' (by unfold RetR; rw [if_pos rfl]; exact ⟨a, rfl, k2'.same.free na, fx, o⟩)⟩
  intro A outer s H us vs Q E hr e0 rv h
  have F' := FnOk.raw main hbd .nil
  exact F' A outer s H us vs Q E hr e0 rv (by show ∃ ws, vs ++ [] = V.ref C :: ws ∧ _; rw [List.append_nil]; exact h)
end
end HL

/-! Plain law: how a text is parsed, in plain Lean. -/
namespace HL
/-! ### the reader -/
def red (sg : Nat) : List Nat → List Tr → Option (List Nat × List Tr)
  | [], _ => none
  | o :: S, V => if o ≠ 40 ∧ (o = 42 ∨ sg ≠ 42) then (match V with
    | r :: l :: V' => red sg S (.nd o l r :: V')
    | _ => none) else some (o :: S, V)
def rstep (sg : Nat) (S : List Nat) (V : List Tr) : Option (List Nat × List Tr) :=
  if sg = 40 then some (40 :: S, V) else if sg ≠ 42 ∧ sg ≠ 43 ∧ sg ≠ 41 then some (S, .lf sg :: V) else
    (match red sg S V with
    | some (S', V') => if sg = 41 then (match S' with
      | _ :: S'' => some (S'', V')
      | [] => none) else some (sg :: S', V')
    | none => none)
def rrun : List Nat → List Nat → List Tr → Option (List Nat × List Tr)
  | [], S, V => some (S, V)
  | c :: cs, S, V => match rstep c S V with
    | some (S', V') => rrun cs S' V'
    | none => none
/-- may stand as a leaf -/
def isLeaf (c : Nat) : Bool := (decide (65 ≤ c) && decide (c ≤ 90)) || c == 48 || c == 49
/-- 0 a factor, 1 a term, 2 all: the letters w stand for the tree t -/
inductive Par : Nat → List Nat → Tr → Prop where
  | lf {c : Nat} (h : isLeaf c = true) : Par 0 [c] (.lf c)
  | par {w : List Nat} {t : Tr} (h : Par 2 w t) : Par 0 (40 :: (w ++ [41])) t
  | fac {w : List Nat} {t : Tr} (h : Par 0 w t) : Par 1 w t
  | mul {w v : List Nat} {l r : Tr} (h : Par 1 w l) (k : Par 0 v r) : Par 1 (w ++ 42 :: v) (.nd 42 l r)
  | trm {w : List Nat} {t : Tr} (h : Par 1 w t) : Par 2 w t
  | add {w v : List Nat} {l r : Tr} (h : Par 2 w l) (k : Par 1 v r) : Par 2 (w ++ 43 :: v) (.nd 43 l r)
def pend1 (S : List Nat) (V : List Tr) (t : Tr) : Prop := (S = [] ∧ V = [t]) ∨ ∃ l r, S = [42] ∧ V = [r, l] ∧ t = .nd 42 l r
def pend2 (S : List Nat) (V : List Tr) (t : Tr) : Prop := pend1 S V t ∨ ∃ S' V' l r, pend1 S' V' r ∧ S = S' ++ [43] ∧ V = V' ++ [l] ∧ t = .nd 43 l r
theorem leaf_ne {c : Nat} (h : isLeaf c = true) : c ≠ 40 ∧ c ≠ 41 ∧ c ≠ 42 ∧ c ≠ 43 ∧ c ≠ 32 := by
  unfold isLeaf at h
  simp only [Bool.or_eq_true, Bool.and_eq_true, decide_eq_true_eq, beq_iff_eq] at h
  omega
theorem red1 {S1 S : List Nat} {V1 V : List Tr} {t : Tr} (h : pend1 S1 V1 t) (sg : Nat) : red sg (S1 ++ S) (V1 ++ V) = red sg S (t :: V) := by
  rcases h with ⟨rfl, rfl⟩ | ⟨l, r, rfl, rfl, rfl⟩
  · rfl
  · show (if (42 : Nat) ≠ 40 ∧ ((42 : Nat) = 42 ∨ sg ≠ 42) then _ else _) = _
    rw [if_pos ⟨by decide, .inl rfl⟩]
    rfl
theorem red_top {o sg : Nat} {S : List Nat} {V : List Tr} (h : o = 40 ∨ (o = 43 ∧ sg = 42)) : red sg (o :: S) V = some (o :: S, V) := by
  show (if o ≠ 40 ∧ (o = 42 ∨ sg ≠ 42) then _ else _) = _
  rw [if_neg (by omega)]
theorem red2 {S1 S : List Nat} {V1 V : List Tr} {t : Tr} (h : pend2 S1 V1 t) {sg : Nat} (hs : sg ≠ 42) : red sg (S1 ++ 40 :: S) (V1 ++ V) = some (40 :: S, t :: V) := by
  rcases h with h | ⟨S', V', l, r, h, rfl, rfl, rfl⟩
  · rw [red1 h, red_top (.inl rfl)]
  · rw [List.append_assoc, List.append_assoc, red1 h]
    show (if (43 : Nat) ≠ 40 ∧ ((43 : Nat) = 42 ∨ sg ≠ 42) then _ else _) = _
    rw [if_pos ⟨by decide, .inr hs⟩]
    exact red_top (.inl rfl)
theorem rrun_cons {c : Nat} {cs S S' : List Nat} {V V' : List Tr} (h : rstep c S V = some (S', V')) : rrun (c :: cs) S V = rrun cs S' V' := by
  show (match rstep c S V with | some (S', V') => rrun cs S' V' | none => none) = _
  rw [h]
theorem par_run {k : Nat} {w : List Nat} {t : Tr} (h : Par k w t) : (k = 0 → ∀ S V rest, rrun (w ++ rest) S V = rrun rest S (t :: V)) ∧
    (k = 1 → ∀ o S V rest, (o = 40 ∨ o = 43) → ∃ S1 V1, pend1 S1 V1 t ∧ rrun (w ++ rest) (o :: S) V = rrun rest (S1 ++ o :: S) (V1 ++ V)) ∧
    (k = 2 → ∀ S V rest, ∃ S1 V1, pend2 S1 V1 t ∧ rrun (w ++ rest) (40 :: S) V = rrun rest (S1 ++ 40 :: S) (V1 ++ V)) := by
  induction h with
  | @lf c h =>
    refine ⟨fun _ S V rest => ?_, fun z => by omega, fun z => by omega⟩
    have n := leaf_ne h
    refine rrun_cons ?_
    unfold rstep
    rw [if_neg n.1, if_pos ⟨n.2.2.1, n.2.2.2.1, n.2.1⟩]
  | @par w t h ih =>
    refine ⟨fun _ S V rest => ?_, fun z => by omega, fun z => by omega⟩
    obtain ⟨S1, V1, p, e⟩ := ih.2.2 rfl S V (41 :: rest)
    have e1 : 40 :: (w ++ [41]) ++ rest = 40 :: (w ++ 41 :: rest) := by simp
    rw [e1, rrun_cons (S' := 40 :: S) (V' := V) (by unfold rstep; rw [if_pos rfl]), e]
    refine rrun_cons ?_
    unfold rstep
    rw [if_neg (by decide), if_neg (by decide), red2 p (by decide)]
    rfl
  | fac h ih => exact ⟨fun z => by omega, fun _ o S V rest _ => ⟨[], [_], .inl ⟨rfl, rfl⟩, ih.1 rfl (o :: S) V rest⟩, fun z => by omega⟩
  | @mul w v l r h k ih1 ih2 =>
    refine ⟨fun z => by omega, fun _ o S V rest ho => ?_, fun z => by omega⟩
    obtain ⟨S1, V1, p, e⟩ := ih1.2.1 rfl o S V (42 :: (v ++ rest)) ho
    refine ⟨[42], [r, l], .inr ⟨l, r, rfl, rfl, rfl⟩, ?_⟩
    have e1 : w ++ 42 :: v ++ rest = w ++ 42 :: (v ++ rest) := by simp
    rw [e1, e, rrun_cons (S' := 42 :: o :: S) (V' := l :: V) ?_]
    · exact ih2.1 rfl (42 :: o :: S) (l :: V) rest
    · unfold rstep
      rw [if_neg (by decide), if_neg (by decide), red1 p, red_top (by omega)]
      rfl
  | trm h ih => exact ⟨fun z => by omega, fun z => by omega, fun _ S V rest => by
      obtain ⟨S1, V1, p, e⟩ := ih.2.1 rfl 40 S V rest (.inl rfl)
      exact ⟨S1, V1, .inl p, e⟩⟩
  | @add w v l r h k ih1 ih2 =>
    refine ⟨fun z => by omega, fun z => by omega, fun _ S V rest => ?_⟩
    obtain ⟨S1, V1, p, e⟩ := ih1.2.2 rfl S V (43 :: (v ++ rest))
    obtain ⟨S2, V2, p2, e2⟩ := ih2.2.1 rfl 43 (40 :: S) (l :: V) rest (.inr rfl)
    refine ⟨S2 ++ [43], V2 ++ [l], .inr ⟨S2, V2, l, r, p2, rfl, rfl, rfl⟩, ?_⟩
    have e1 : w ++ 43 :: v ++ rest = w ++ 43 :: (v ++ rest) := by simp
    rw [e1, e, rrun_cons (S' := 43 :: 40 :: S) (V' := l :: V) ?_, e2]
    · simp
    · unfold rstep
      rw [if_neg (by decide), if_neg (by decide), red2 p (by decide)]
      rfl
theorem par_read {w : List Nat} {t : Tr} (h : Par 2 w t) : rrun (40 :: (w ++ [41])) [] [] = some ([], [t]) := by
  have := (par_run (.par h)).1 rfl [] [] []
  rw [List.append_nil] at this
  exact this
/-! ### the check -/
def cstep (c dep : Nat) (due : Bool) : Option (Nat × Bool) := if (due && isLeaf c) = true then some (dep, false) else if (due && c == 40) = true then some (dep + 1, true) else if (!due && (c == 42 || c == 43)) = true then some (dep, true) else
  if (!due && (c == 41 && decide (0 < dep))) = true then some (dep - 1, false) else none
/-- the place of the first letter that cannot stand there, if there is one -/
def chk : List Nat → Nat → Nat → Bool → Option Nat
  | [], i, dep, due => if (due || decide (0 < dep)) = true then some i else none
  | c :: cs, i, dep, due => if c = 32 then chk cs (i + 1) dep due else match cstep c dep due with
    | some (d', u') => chk cs (i + 1) d' u'
    | none => some i
/-- accepted, spaces left out -/
def acc : List Nat → Nat → Bool → Option (Nat × Bool)
  | [], dep, due => some (dep, due)
  | c :: cs, dep, due => match cstep c dep due with
    | some (d', u') => acc cs d' u'
    | none => none
theorem acc_app : ∀ (a b : List Nat) (dep : Nat) (due : Bool), acc (a ++ b) dep due = (acc a dep due).bind fun p => acc b p.1 p.2
  | [], b, dep, due => rfl
  | c :: a, b, dep, due => by
    show (match cstep c dep due with | some (d', u') => acc (a ++ b) d' u' | none => none) = (match cstep c dep due with | some (d', u') => acc a d' u' | none => none).bind _
    cases cstep c dep due with
    | none => rfl
    | some p => exact acc_app a b p.1 p.2
theorem par_acc {k : Nat} {w : List Nat} {t : Tr} (h : Par k w t) : ∀ dep, acc w dep true = some (dep, false) := by
  induction h with
  | @lf c h =>
    intro dep
    show (match cstep c dep true with | some (d', u') => acc [] d' u' | none => none) = _
    unfold cstep
    rw [h]
    rfl
  | @par w t h ih =>
    intro dep
    show (match cstep 40 dep true with | some (d', u') => acc (w ++ [41]) d' u' | none => none) = _
    rw [show cstep 40 dep true = some (dep + 1, true) from rfl]
    show acc (w ++ [41]) (dep + 1) true = _
    rw [acc_app, ih]
    show (match cstep 41 (dep + 1) false with | some (d', u') => acc [] d' u' | none => none) = _
    rw [show cstep 41 (dep + 1) false = some (dep, false) from by simp [cstep]]
    rfl
  | fac h ih => exact ih
  | @mul w v l r h k ih1 ih2 =>
    intro dep
    rw [acc_app, ih1]
    show (match cstep 42 dep false with | some (d', u') => acc v d' u' | none => none) = _
    rw [show cstep 42 dep false = some (dep, true) from rfl]
    exact ih2 dep
  | trm h ih => exact ih
  | @add w v l r h k ih1 ih2 =>
    intro dep
    rw [acc_app, ih1]
    show (match cstep 43 dep false with | some (d', u') => acc v d' u' | none => none) = _
    rw [show cstep 43 dep false = some (dep, true) from rfl]
    exact ih2 dep
theorem chk_acc : ∀ (u : List Nat) (i dep : Nat) (due : Bool), acc (u.filter (· != 32)) dep due = some (0, false) → chk u i dep due = none
  | [], i, dep, due, h => by
    cases h
    rfl
  | c :: u, i, dep, due, h => by
    by_cases hc : c = 32
    · subst hc
      show (if (32 : Nat) = 32 then _ else _) = _
      rw [if_pos rfl]
      exact chk_acc u (i + 1) dep due h
    · have e : (c :: u).filter (· != 32) = c :: u.filter (· != 32) := by rw [List.filter_cons, if_pos (by simpa using hc)]
      rw [e] at h
      show (if c = 32 then _ else match cstep c dep due with | some (d', u') => chk u (i + 1) d' u' | none => some i) = _
      rw [if_neg hc]
      replace h : (match cstep c dep due with | some (d', u') => acc (u.filter (· != 32)) d' u' | none => none) = some (0, false) := h
      cases hs : cstep c dep due with
      | none => rw [hs] at h; cases h
      | some p =>
        rw [hs] at h
        exact chk_acc u (i + 1) p.1 p.2 h
/-! ### written trees -/
def cwr : Tr → List Nat
  | .lf c => [c]
  | .nd s l r => par (s == 42 && l.isS 43) (cwr l) ++ s :: par (r.isN && (s == 42 || r.isS 43)) (cwr r)
/-- each leaf a name or a constant, each sign * or + -/
def Tr.good : Tr → Bool
  | .lf c => isLeaf c
  | .nd s l r => (s == 42 || s == 43) && l.good && r.good
theorem good_of : ∀ {t : Tr}, t.ok = true → (∀ c ∈ t.ls, isLeaf c = true) → t.good = true
  | .lf c, _, h => h c (by simp [Tr.ls])
  | .nd s l r, h, k => by
    simp only [Tr.ok, Bool.and_eq_true] at h
    simp only [Tr.good, Bool.and_eq_true]
    exact ⟨⟨h.1.1, good_of h.1.2 fun c hc => k c (by simp [Tr.ls, hc])⟩, good_of h.2 fun c hc => k c (by simp [Tr.ls, hc])⟩
theorem par_filter (b : Bool) (x : List Nat) : (par b x).filter (· != 32) = par b (x.filter (· != 32)) := by
  unfold par
  cases b <;> simp
theorem wr_cwr : ∀ t : Tr, t.good = true → t.wr.filter (· != 32) = cwr t
  | .lf c, h => by
    have := (leaf_ne h).2.2.2.2
    simp [Tr.wr, cwr, this]
  | .nd s l r, h => by
    simp only [Tr.good, Bool.and_eq_true, Bool.or_eq_true, beq_iff_eq] at h
    have hs : s ≠ 32 := by omega
    simp only [Tr.wr, cwr, List.filter_append, par_filter, wr_cwr l h.1.2, wr_cwr r h.2]
    simp [hs]
theorem cwr_par : ∀ t : Tr, t.good = true → (t.isN = false → Par 0 (cwr t) t) ∧ (t.isS 43 = false → Par 1 (cwr t) t) ∧ Par 2 (cwr t) t
  | .lf c, h => ⟨fun _ => .lf h, fun _ => .fac (.lf h), .trm (.fac (.lf h))⟩
  | .nd s l r, h => by
    simp only [Tr.good, Bool.and_eq_true, Bool.or_eq_true, beq_iff_eq] at h
    have hl := cwr_par l h.1.2
    have hr := cwr_par r h.2
    rcases h.1.1 with rfl | rfl
    · have pr : Par 0 (par (r.isN && ((42 : Nat) == 42 || r.isS 43)) (cwr r)) r := by
        cases hn : r.isN with
        | true => exact .par hr.2.2
        | false => exact hr.1 hn
      have pl : Par 1 (par ((42 : Nat) == 42 && l.isS 43) (cwr l)) l := by
        cases hn : l.isS 43 with
        | true => exact .fac (.par hl.2.2)
        | false => exact hl.2.1 hn
      have m : Par 1 (cwr (.nd 42 l r)) (.nd 42 l r) := .mul pl pr
      exact ⟨fun z => (nomatch z), fun _ => m, .trm m⟩
    · have pr : Par 1 (par (r.isN && ((43 : Nat) == 42 || r.isS 43)) (cwr r)) r := by
        cases hn : r.isS 43 with
        | true =>
          have : r.isN = true := by cases r with | lf c => cases hn | nd _ _ _ => rfl
          rw [this]
          exact .fac (.par hr.2.2)
        | false =>
          rw [show (r.isN && ((43 : Nat) == 42 || false)) = false from by simp]
          exact hr.2.1 hn
      have m : Par 2 (cwr (.nd 43 l r)) (.nd 43 l r) := .add hl.2.2 pr
      exact ⟨fun z => (nomatch z), fun z => (nomatch z), m⟩
/-- what the written form of a tree is read as -/
theorem wr_ok {t : Tr} (h : t.good = true) : chk t.wr 0 0 true = none ∧ rrun (40 :: (t.wr.filter (· != 32) ++ [41])) [] [] = some ([], [t]) := by
  have p := (cwr_par t h).2.2
  rw [← wr_cwr t h] at p
  exact ⟨chk_acc _ 0 0 true (par_acc p 0), par_read p⟩
end HL

/-! Plain law: check_text and read_tree. -/
namespace HL
open PySem L2
def bt_check : HEnv → SO :=
  (mSeq (mAsg (mTupE (mCons (mC (.int 0)) (mCons (mC (.bl true)) mNil))) (gTupD (gsCons (gN 1) (gsCons (gN 2) gsNil))))
  (mSeq (mFor (m1 range1D (mCons (m1 lenD (mOwn 0)) mNil)) (gN 3)
  (mSeq (mSet 4 (m2 ixD (mOwn 0) (mOwn 3)))
  (mSeq (mIfS (m1 truB (m2 eqD (mOwn 4) (mC (.str " "))))
  mCont
  mNext)
  (mIfS (mAndT (m1 truD (mOwn 2)) (mOrT (m1 truB (m2 (inN false) (mOwn 4) (mC (.str "ABCDEFGHIJKLMNOPQRSTUVWXYZ")))) (m1 truB (m2 (inN false) (mOwn 4) (mC (.str "01"))))))
  (mSet 2 (mC (.bl false)))
  (mIfS (mAndT (m1 truD (mOwn 2)) (m1 truB (m2 eqD (mOwn 4) (mC (.str "(")))))
  (mAugI addI 1 (mC (.int 1)))
  (mIfS (mAndT (mNotT (m1 truD (mOwn 2))) (m1 truB (m2 (inN false) (mOwn 4) (mC (.str "*+")))))
  (mSet 2 (mC (.bl true)))
  (mIfS (mAndT (mNotT (m1 truD (mOwn 2))) (mAndT (m1 truB (m2 eqD (mOwn 4) (mC (.str ")")))) (m1 truB (m2 (cmpI fun i j => decide (j < i)) (mOwn 1) (mC (.int 0))))))
  (mAugI subI 1 (mC (.int 1)))
  (mRaise "Unread" "at" (mVar 3)))))))))
  (mIfS (mOrT (m1 truD (mOwn 2)) (m1 truB (m2 (cmpI fun i j => decide (j < i)) (mOwn 1) (mC (.int 0)))))
  (mRaise "Unread" "at" (m1 lenD (mOwn 0)))
  mNext)))
def bt_read (fc : F1) (fl : F1) : HEnv → SO :=
  (mSeq (mIfS (m1 truB (m2 (cmpI fun i j => decide (j < i)) (m1 lenD (mOwn 0)) (mC (.int 80))))
  (mRaise "TooMany" "limit" (mC (.int 80)))
  mNext)
  (mSeq (mDo (mCall fc (mCons (mVar 0) mNil)))
  (mSeq (mParN 1 2 (mLstE mNil) (mLstE mNil))
  (mSeq (mFor (m1 itemsD (mJoinS [(mC (.str "(")), (mFmt (m1 (replD " " "") (mVar 0))), (mC (.str ")"))] Str.empty)) (gN 3)
  (mIfS (m1 truB (m2 eqD (mOwn 3) (mC (.str "("))))
  (mOwn1 2 (tyL "list") appD (mVar 3))
  (mIfS (m1 truB (m2 (inN true) (mOwn 3) (mC (.str "*+)"))))
  (mOwn1 1 (tyL "list") appD (mVar 3))
  (mSeq (whileL (mAndT (m1 truB (m2 neD (m2 ixD (mOwn 2) (mC (.int (-1)))) (mC (.str "(")))) (mOrT (m1 truB (m2 eqD (m2 ixD (mOwn 2) (mC (.int (-1)))) (mC (.str "*")))) (m1 truB (m2 neD (mOwn 3) (mC (.str "*"))))))
  (mSeq (mPopSet 4 1)
  (mSeq (mPopSet 5 1)
  (mApPop 1 2 (mCons (mVar 5) (mCons (mVar 4) mNil))))) 1000)
  (mIfS (m1 truB (m2 eqD (mOwn 3) (mC (.str ")"))))
  (mPop 2)
  (mOwn1 2 (tyL "list") appD (mVar 3)))))))
  (mSeq (mIfS (m1 truB (m2 (cmpI fun i j => decide (j < i)) (m1 lenD (mCall fl (mCons (m2 ixD (mOwn 1) (mC (.int 0))) mNil))) (mC (.int 7))))
  (mRaise "TooMany" "limit" (mC (.int 7)))
  mNext)
  (mRet (m2 ixD (mOwn 1) (mC (.int 0)))))))))
/-! ### small things -/
theorem range128 {p : Nat → Bool} (h : ((List.range 128).all p) = true) {c : Nat} (hc : c < 128) : p c = true := List.all_eq_true.mp h c (List.mem_range.mpr hc)
theorem tab_abc : ((List.range 128).all fun c => inS (tx [c]) (Str.ofString "ABCDEFGHIJKLMNOPQRSTUVWXYZ") == (decide (65 ≤ c) && decide (c ≤ 90))) = true := by decide +kernel
theorem tab_01 : ((List.range 128).all fun c => inS (tx [c]) (Str.ofString "01") == (c == 48 || c == 49)) = true := by decide +kernel
theorem tab_mp : ((List.range 128).all fun c => inS (tx [c]) (Str.ofString "*+") == (c == 42 || c == 43)) = true := by decide +kernel
theorem tab_mpc : ((List.range 128).all fun c => inS (tx [c]) (Str.ofString "*+)") == (c == 42 || (c == 43 || c == 41))) = true := by decide +kernel
theorem in_str {x : Str} {c : Nat} {b : Bool} {m : HEnv → R D} {env : HEnv} (h : m env = .ok (nm c)) (k : (inS (tx [c]) x == b) = true) : m1 truB (m2 (inN false) m (mC (.str x))) env = .ok b := by
  have e : inS (tx [c]) x = b := eq_of_beq k
  rw [m1_ok (a := D.bl b) ((m2_ok (f := inN false) (a := nm c) (b := .str x) h rfl).trans (by show R.ok (D.bl (inS (tx [c]) x)) = _; rw [e]))]
  rfl
theorem nin_str {x : Str} {c : Nat} {b : Bool} {m : HEnv → R D} {env : HEnv} (h : m env = .ok (nm c)) (k : (inS (tx [c]) x == b) = true) : m1 truB (m2 (inN true) m (mC (.str x))) env = .ok (!b) := by
  have e : inS (tx [c]) x = b := eq_of_beq k
  rw [m1_ok (a := D.bl (!b)) ((m2_ok (f := inN true) (a := nm c) (b := .str x) h rfl).trans (by show R.ok (D.bl (!inS (tx [c]) x)) = _; rw [e]))]
  rfl
theorem ne_nm2 (a b : Nat) : neD (nm a) (nm b) = .ok (.bl (!decide (a = b))) := by
  show (if sim (nm a) = true ∧ sim (nm b) = true then R.ok (D.bl (!deq (nm a) (nm b))) else R.stuck) = _
  rw [if_pos ⟨rfl, rfl⟩, deq_nm]
theorem t_nen {ma mb : HEnv → R D} {env : HEnv} {a b : Nat} (h1 : ma env = .ok (nm a)) (h2 : mb env = .ok (nm b)) : m1 truB (m2 neD ma mb) env = .ok (!decide (a = b)) := by
  rw [m1_ok ((m2_ok h1 h2).trans (ne_nm2 a b))]
  rfl
theorem raise_int {nm' fld : Str} {m : HEnv → R D} {env : HEnv} {i : Nat} (h : m env = .ok (.int (i : Int))) (hi : i ≤ 1000) : mRaise nm' fld m env = .er ⟨nm', fld, .int (i : Int)⟩ env := by
  refine (sB_ok h).trans (if_pos ?_)
  show decide (((i : Int).natAbs).log2 < 1920) = true
  rw [Int.natAbs_natCast]
  refine decide_eq_true (Nat.lt_of_le_of_lt (Nat.log2_le_self i) (by omega))
/-! ### check_text -/
def lp : List Nat → Nat → Nat → Bool → Nat × Bool × Option Nat
  | [], _, dep, due => (dep, due, none)
  | c :: cs, i, dep, due => if c = 32 then lp cs (i + 1) dep due else match cstep c dep due with
    | some (d', u') => lp cs (i + 1) d' u'
    | none => (dep, due, some i)
theorem chk_lp : ∀ (cs : List Nat) (i dep : Nat) (due : Bool), chk cs i dep due = match lp cs i dep due with
    | (d', u', none) => if (u' || decide (0 < d')) = true then some (i + cs.length) else none
    | (_, _, some j) => some j
  | [], i, dep, due => rfl
  | c :: cs, i, dep, due => by
    unfold chk lp
    have e : ∀ d u, chk cs (i + 1) d u = match lp cs (i + 1) d u with
      | (d', u', none) => if (u' || decide (0 < d')) = true then some (i + (c :: cs).length) else none
      | (_, _, some j) => some j := fun d u => by
      rw [chk_lp cs (i + 1) d u, List.length_cons, show i + (cs.length + 1) = i + 1 + cs.length from by omega]
    by_cases hc : c = 32
    · rw [if_pos hc, if_pos hc]
      exact e dep due
    · rw [if_neg hc, if_neg hc]
      cases cstep c dep due with
      | none => rfl
      | some p => exact e p.1 p.2
def cbody : HEnv → SO := (mSeq (mSet 4 (m2 ixD (mOwn 0) (mOwn 3)))
  (mSeq (mIfS (m1 truB (m2 eqD (mOwn 4) (mC (.str " "))))
  mCont
  mNext)
  (mIfS (mAndT (m1 truD (mOwn 2)) (mOrT (m1 truB (m2 (inN false) (mOwn 4) (mC (.str "ABCDEFGHIJKLMNOPQRSTUVWXYZ")))) (m1 truB (m2 (inN false) (mOwn 4) (mC (.str "01"))))))
  (mSet 2 (mC (.bl false)))
  (mIfS (mAndT (m1 truD (mOwn 2)) (m1 truB (m2 eqD (mOwn 4) (mC (.str "(")))))
  (mAugI addI 1 (mC (.int 1)))
  (mIfS (mAndT (mNotT (m1 truD (mOwn 2))) (m1 truB (m2 (inN false) (mOwn 4) (mC (.str "*+")))))
  (mSet 2 (mC (.bl true)))
  (mIfS (mAndT (mNotT (m1 truD (mOwn 2))) (mAndT (m1 truB (m2 eqD (mOwn 4) (mC (.str ")")))) (m1 truB (m2 (cmpI fun i j => decide (j < i)) (mOwn 1) (mC (.int 0))))))
  (mAugI subI 1 (mC (.int 1)))
  (mRaise "Unread" "at" (mVar 3))))))))
section
variable {u : List Nat}
abbrev Ec (u : List Nat) (dep : Nat) (due : Bool) (s3 s4 : Slot) : HEnv := [.val (.str (tx u)), .val (.int (dep : Int)), .val (.bl due), s3, s4]
theorem gt0_int {m : HEnv → R D} {env : HEnv} {n : Nat} (h : m env = .ok (.int (n : Int))) : m1 truB (m2 (cmpI fun i j => decide (j < i)) m (mC (.int 0))) env = .ok (decide (0 < n)) := by
  refine (m1_ok (a := D.bl (decide (0 < n))) ((m2_ok (a := D.int n) (b := D.int 0) h rfl).trans ?_)).trans rfl
  have e : decide ((0 : Int) < (n : Int)) = decide (0 < n) := by
    rw [decide_eq_decide]
    omega
  rw [← e]
  rfl
theorem cbody_ok {i c dep : Nat} {due : Bool} {s4 : Slot} (hu : u.length ≤ 1000) (hi : u[i]? = some c) (hc : c < 128) :
    (c = 32 → cbody (Ec u dep due (.val (.int (i : Int))) s4) = .ct (Ec u dep due (.val (.int (i : Int))) (.val (nm c)))) ∧
    (c ≠ 32 → ∀ d' u', cstep c dep due = some (d', u') → cbody (Ec u dep due (.val (.int (i : Int))) s4) = .nx (Ec u d' u' (.val (.int (i : Int))) (.val (nm c)))) ∧
    (c ≠ 32 → cstep c dep due = none → cbody (Ec u dep due (.val (.int (i : Int))) s4) = .er ⟨"Unread", "at", .int (i : Int)⟩ (Ec u dep due (.val (.int (i : Int))) (.val (nm c)))) := by
  have hi' : i < u.length := (List.getElem?_eq_some_iff.mp hi).1
  have e0 : ∀ b : HEnv → SO, mSeq (mSet 4 (m2 ixD (mOwn 0) (mOwn 3))) b (Ec u dep due (.val (.int (i : Int))) s4) = b (Ec u dep due (.val (.int (i : Int))) (.val (nm c))) := fun b =>
    mSeq_nx (mSet_ok ((m2_ok (f := ixD) (a := .str (tx u)) (b := .int (i : Int)) rfl rfl).trans (ix_tx (by omega) hi)))
  unfold cbody
  rw [e0]
  have t0 : m1 truB (m2 eqD (mOwn 4) (mC (.str " "))) (Ec u dep due (.val (.int (i : Int))) (.val (nm c))) = .ok (decide (c = 32)) := t_eqn rfl (lit1 c_gap _)
  refine ⟨fun h => ?_, fun h d' u' hs => ?_, fun h hs => ?_⟩
  · unfold mSeq
    rw [mIf_tt (t0.trans (congrArg R.ok (decide_eq_true h)))]
    rfl
  all_goals
    refine (mSeq_nx ((mIf_ff (t0.trans (congrArg R.ok (decide_eq_false h)))).trans rfl)).trans ?_
    have t1 : mAndT (m1 truD (mOwn 2)) (mOrT (m1 truB (m2 (inN false) (mOwn 4) (mC (.str "ABCDEFGHIJKLMNOPQRSTUVWXYZ")))) (m1 truB (m2 (inN false) (mOwn 4) (mC (.str "01"))))) (Ec u dep due (.val (.int (i : Int))) (.val (nm c))) = .ok (due && ((decide (65 ≤ c) && decide (c ≤ 90)) || (c == 48 || c == 49))) :=
      andT_ok rfl fun _ => orT_ok (in_str rfl (range128 tab_abc hc)) fun _ => in_str rfl (range128 tab_01 hc)
    have t2 : mAndT (m1 truD (mOwn 2)) (m1 truB (m2 eqD (mOwn 4) (mC (.str "(")))) (Ec u dep due (.val (.int (i : Int))) (.val (nm c))) = .ok (due && decide (c = 40)) := andT_ok rfl fun _ => t_eqn rfl (lit1 c_open _)
    have t3 : mAndT (mNotT (m1 truD (mOwn 2))) (m1 truB (m2 (inN false) (mOwn 4) (mC (.str "*+")))) (Ec u dep due (.val (.int (i : Int))) (.val (nm c))) = .ok (!due && (c == 42 || c == 43)) := andT_ok (notT_ok rfl) fun _ => in_str rfl (range128 tab_mp hc)
    have t4 : mAndT (mNotT (m1 truD (mOwn 2))) (mAndT (m1 truB (m2 eqD (mOwn 4) (mC (.str ")")))) (m1 truB (m2 (cmpI fun i j => decide (j < i)) (mOwn 1) (mC (.int 0))))) (Ec u dep due (.val (.int (i : Int))) (.val (nm c))) = .ok (!due && (decide (c = 41) && decide (0 < dep))) := andT_ok (notT_ok rfl) fun _ => andT_ok (t_eqn rfl (lit1 c_close _)) fun _ => gt0_int rfl
    have b1 : (due && ((decide (65 ≤ c) && decide (c ≤ 90)) || (c == 48 || c == 49))) = (due && isLeaf c) := by unfold isLeaf; rw [Bool.or_assoc]
    rw [b1] at t1
    unfold cstep at hs
    cases h1 : (due && isLeaf c) with
    | true =>
      rw [h1] at hs t1
      first
      | (cases hs; exact (mIf_tt t1).trans rfl)
      | (exact nomatch hs)
    | false =>
      rw [h1] at hs t1
      rw [if_neg (by decide)] at hs
      refine (mIf_ff t1).trans ?_
      cases h2 : (due && c == 40) with
      | true =>
        rw [h2] at hs
        have t2' := t2.trans (congrArg R.ok (show (due && decide (c = 40)) = true from h2))
        have hdue : due = true := by
          cases due with
          | true => rfl
          | false => simp at h2
        subst hdue
        first
        | (cases hs; exact (mIf_tt t2').trans rfl)
        | (exact nomatch hs)
      | false =>
        rw [h2] at hs
        rw [if_neg (by decide)] at hs
        refine (mIf_ff (t2.trans (congrArg R.ok (show (due && decide (c = 40)) = false from h2)))).trans ?_
        cases h3 : (!due && (c == 42 || c == 43)) with
        | true =>
          rw [h3] at hs t3
          first
          | (cases hs; exact (mIf_tt t3).trans rfl)
          | (exact nomatch hs)
        | false =>
          rw [h3] at hs t3
          rw [if_neg (by decide)] at hs
          refine (mIf_ff t3).trans ?_
          cases h4 : (!due && (c == 41 && decide (0 < dep))) with
          | true =>
            rw [h4] at hs
            have t4' := t4.trans (congrArg R.ok (show (!due && (decide (c = 41) && decide (0 < dep))) = true from h4))
            have hd : 0 < dep := by
              simp only [Bool.and_eq_true, decide_eq_true_eq] at h4
              exact h4.2.2
            first
            | (cases hs
               refine (mIf_tt t4').trans ?_
               refine (show _ = SO.nx [.val (.str (tx u)), .val (.int ((dep : Int) - 1)), .val (.bl due), .val (.int (i : Int)), .val (nm c)] from rfl).trans ?_
               have hdue : due = false := by
                 cases due with
                 | true => simp at h4
                 | false => rfl
               rw [show ((dep : Int) - 1) = ((dep - 1 : Nat) : Int) from by omega, hdue])
            | (exact nomatch hs)
          | false =>
            rw [h4] at hs
            rw [if_neg (by decide)] at hs
            have t4' := t4.trans (congrArg R.ok (show (!due && (decide (c = 41) && decide (0 < dep))) = false from h4))
            first
            | (cases hs; done)
            | exact (mIf_ff t4').trans (raise_int rfl (by omega))
end
end HL

/-! Plain law: check_text and read_tree, their loops. -/
namespace HL
open PySem L2
theorem forL_ct {g : D → HEnv → R HEnv} {b : HEnv → SO} {d : D} {ds : List D} {env e1 e : HEnv} (h : g d env = .ok e1) (k : b e1 = .nx e ∨ b e1 = .ct e) : forL g b (d :: ds) env = forL g b ds e := by
  conv => lhs; unfold forL
  simp only [h]
  rcases k with k | k <;> simp only [k]
theorem forL_er {g : D → HEnv → R HEnv} {b : HEnv → SO} {d : D} {ds : List D} {env e1 e : HEnv} {x : Er} (h : g d env = .ok e1) (k : b e1 = .er x e) : forL g b (d :: ds) env = .er x e := by
  conv => lhs; unfold forL
  simp only [h, k]
theorem check_loop {u : List Nat} (hu : u.length ≤ 1000) (hc : ∀ c ∈ u, c < 128) : ∀ (m i dep : Nat) (due : Bool) (s3 s4 : Slot), i + m = u.length →
    match lp (u.drop i) i dep due with
    | (d', u', none) => ∃ s3' s4', forL (gN 3) cbody ((List.range' i m).map fun j => D.int (j : Nat)) (Ec u dep due s3 s4) = .nx (Ec u d' u' s3' s4')
    | (_, _, some j) => ∃ e, forL (gN 3) cbody ((List.range' i m).map fun j => D.int (j : Nat)) (Ec u dep due s3 s4) = .er ⟨"Unread", "at", .int (j : Int)⟩ e
  | 0, i, dep, due, s3, s4, h => by
    rw [List.drop_eq_nil_of_le (by omega)]
    exact ⟨s3, s4, rfl⟩
  | m + 1, i, dep, due, s3, s4, h => by
    have hi : i < u.length := by omega
    have hg : u[i]? = some u[i] := List.getElem?_eq_getElem hi
    obtain ⟨b1, b2, b3⟩ := cbody_ok (dep := dep) (due := due) (s4 := s4) hu hg (hc _ (List.getElem_mem hi))
    rw [List.drop_eq_getElem_cons hi, List.range'_succ, List.map_cons]
    generalize u[i] = c at b1 b2 b3
    unfold lp
    by_cases h32 : c = 32
    · rw [if_pos h32, forL_ct (e1 := Ec u dep due (.val (.int (i : Nat))) s4) rfl (.inr (b1 h32))]
      exact check_loop hu hc m (i + 1) dep due _ _ (by omega)
    · rw [if_neg h32]
      cases hs : cstep c dep due with
      | none =>
        refine ⟨_, forL_er (e1 := Ec u dep due (.val (.int (i : Nat))) s4) rfl (b3 h32 hs)⟩
      | some p =>
        rw [forL_ct (e1 := Ec u dep due (.val (.int (i : Nat))) s4) rfl (.inl (b2 h32 p.1 p.2 hs))]
        exact check_loop hu hc m (i + 1) p.1 p.2 _ _ (by omega)
theorem check_ok {u : List Nat} (hu : u.length ≤ 1000) (hc : ∀ c ∈ u, c < 128) : fnS 5 bt_check [.str (tx u)] = match chk u 0 0 true with
    | none => .ok (false, .non)
    | some i => .er ⟨"Unread", "at", .int (i : Int)⟩ := by
  have hsrc : m1 range1D (mCons (m1 lenD (mOwn 0)) mNil) (Ec u 0 true .no .no) = .ok ((List.range' 0 u.length).map fun j => D.int (j : Nat)) := by
    rw [← List.range_eq_range']
    exact range_of ((m1_ok (f := lenD) (a := .str (tx u)) rfl).trans (len_tx (by omega))) (by omega)
  have h := check_loop hu hc u.length 0 0 true .no .no (by omega)
  rw [List.drop_zero] at h
  rw [chk_lp]
  have e0 : fnS 5 bt_check [.str (tx u)] = fnS 5 (fun _ => mSeq (mFor (m1 range1D (mCons (m1 lenD (mOwn 0)) mNil)) (gN 3) cbody) (mIfS (mOrT (m1 truD (mOwn 2)) (m1 truB (m2 (cmpI fun i j => decide (j < i)) (mOwn 1) (mC (.int 0)))))
    (mRaise "Unread" "at" (m1 lenD (mOwn 0)))
    mNext) (Ec u 0 true .no .no)) [.str (tx u)] := by
    unfold fnS
    rw [show bt_check ([D.str (tx u)].map Slot.val ++ List.replicate (5 - [D.str (tx u)].length) Slot.no) = _ from mSeq_nx (e := Ec u 0 true .no .no) rfl]
    rfl
  rw [e0]
  rcases hq : lp u 0 0 true with ⟨d', u', o⟩
  rw [hq] at h
  cases o with
  | some j =>
    obtain ⟨e, h⟩ := h
    exact fnS_er (mSeq_er ((mFor_ok hsrc).trans h))
  | none =>
    obtain ⟨s3, s4, h⟩ := h
    have ht : mOrT (m1 truD (mOwn 2)) (m1 truB (m2 (cmpI fun i j => decide (j < i)) (mOwn 1) (mC (.int 0)))) (Ec u d' u' s3 s4) = .ok (u' || decide (0 < d')) := orT_ok rfl fun _ => gt0_int rfl
    show _ = (match (if (u' || decide (0 < d')) = true then some (0 + u.length) else none) with
      | none => R.ok (false, D.non)
      | some i => .er ⟨"Unread", "at", .int (i : Int)⟩)
    cases hb : (u' || decide (0 < d')) with
    | true =>
      rw [if_pos rfl, Nat.zero_add]
      exact fnS_er ((mSeq_nx ((mFor_ok hsrc).trans h)).trans ((mIf_tt (ht.trans (congrArg R.ok hb))).trans (raise_int ((m1_ok (f := lenD) (a := .str (tx u)) rfl).trans (len_tx (by omega))) hu)))
    | false =>
      rw [if_neg (by decide)]
      exact fnS_nx ((mSeq_nx ((mFor_ok hsrc).trans h)).trans ((mIf_ff (ht.trans (congrArg R.ok hb))).trans rfl))
/-! ### read_tree -/
theorem last_app (ds : List D) (d : D) : ixD (.lst (ds ++ [d])) (.int (-1)) = .ok d := by
  show atD (ds ++ [d]) (-1) = _
  unfold atD
  have e : atI (ds ++ [d]) (-1) = some d := by
    show ((ixN (ds ++ [d]).length (-1)).bind fun j => (ds ++ [d])[j]?) = some d
    have e1 : ixN (ds ++ [d]).length (-1) = some ds.length := by
      unfold ixN
      rw [if_neg (by decide), if_pos (by rw [List.length_append, List.length_singleton]; omega), List.length_append, List.length_singleton]
      congr 1
      omega
    rw [e1]
    show (ds ++ [d])[ds.length]? = some d
    rw [List.getElem?_append_right (Nat.le_refl _), Nat.sub_self]
    rfl
  rw [e]
theorem pop_ok {env : HEnv} {i : Nat} {xs : List D} {d : D} (h : env[i]? = some (.own (.lst (xs ++ [d])))) : mPop i env = .nx (env.set i (.own (.lst xs))) := by
  unfold mPop
  rw [h]
  simp only [List.getLast?_concat, List.dropLast_concat]
theorem popSet_ok {env : HEnv} {i j : Nat} {xs : List D} {d : D} (h : env[i]? = some (.own (.lst (xs ++ [d])))) : mPopSet j i env = .nx ((env.set i (.own (.lst xs))).set j (.val d)) := by
  unfold mPopSet
  rw [h]
  simp only [List.getLast?_concat, List.dropLast_concat]
theorem apPop_ok {env : HEnv} {a b : Nat} {xa xb ds : List D} {d : D} {ms : HEnv → R (List D)} (h : env[b]? = some (.own (.lst (xb ++ [d])))) (k : (env.set b (.own (.lst xb)))[a]? = some (.own (.lst xa))) (hm : ms (env.set b (.own (.lst xb))) = .ok ds) (hz : xa.length < sizeLine ∧ ds.length < 1000) :
    mApPop a b ms env = .nx ((env.set b (.own (.lst xb))).set a (.own (.lst (xa ++ [.tup (d :: ds)])))) := by
  unfold mApPop
  rw [h]
  simp only [List.getLast?_concat, List.dropLast_concat, k, hm]
  rw [if_pos hz]
def vD' (V : List Tr) : List D := V.reverse.map Tr.d
def sD (S : List Nat) : List D := S.reverse.map nm
theorem vD_cons (t : Tr) (V : List Tr) : vD' (t :: V) = vD' V ++ [t.d] := by simp [vD']
theorem sD_cons (o : Nat) (S : List Nat) : sD (o :: S) = sD S ++ [nm o] := by simp [sD]
theorem vD_len (V : List Tr) : (vD' V).length = V.length := by simp [vD']
theorem sD_len (S : List Nat) : (sD S).length = S.length := by simp [sD]
abbrev Er6 (u : List Nat) (S : List Nat) (V : List Tr) (s3 s4 s5 : Slot) : HEnv := [.val (.str (tx u)), .own (.lst (vD' V)), .own (.lst (sD S)), s3, s4, s5]
def rtest : HEnv → R Bool := (mAndT (m1 truB (m2 neD (m2 ixD (mOwn 2) (mC (.int (-1)))) (mC (.str "(")))) (mOrT (m1 truB (m2 eqD (m2 ixD (mOwn 2) (mC (.int (-1)))) (mC (.str "*")))) (m1 truB (m2 neD (mOwn 3) (mC (.str "*"))))))
def rturn : HEnv → SO := (mSeq (mPopSet 4 1)
  (mSeq (mPopSet 5 1)
  (mApPop 1 2 (mCons (mVar 5) (mCons (mVar 4) mNil)))))
theorem red_nd {sg o : Nat} {S : List Nat} {W : List Tr} {l r : Tr} (hc : o ≠ 40 ∧ (o = 42 ∨ sg ≠ 42)) : red sg (o :: S) (r :: l :: W) = red sg S (.nd o l r :: W) := by
  show (if o ≠ 40 ∧ (o = 42 ∨ sg ≠ 42) then _ else _) = _
  rw [if_pos hc]
theorem red_stop {sg o : Nat} {S : List Nat} {V : List Tr} (hc : ¬(o ≠ 40 ∧ (o = 42 ∨ sg ≠ 42))) : red sg (o :: S) V = some (o :: S, V) := by
  show (if o ≠ 40 ∧ (o = 42 ∨ sg ≠ 42) then _ else _) = _
  rw [if_neg hc]
theorem red_few {sg o : Nat} {S : List Nat} {V : List Tr} {q : List Nat × List Tr} (hc : o ≠ 40 ∧ (o = 42 ∨ sg ≠ 42)) (h : red sg (o :: S) V = some q) : ∃ r l W, V = r :: l :: W := by
  match V, h with
  | r :: l :: W, _ => exact ⟨r, l, W, rfl⟩
  | [], h =>
    replace h : (if o ≠ 40 ∧ (o = 42 ∨ sg ≠ 42) then none else some (o :: S, [])) = some q := h
    rw [if_pos hc] at h
    cases h
  | [x], h =>
    replace h : (if o ≠ 40 ∧ (o = 42 ∨ sg ≠ 42) then none else some (o :: S, [x])) = some q := h
    rw [if_pos hc] at h
    cases h
theorem red_loop {u : List Nat} {sg : Nat} : ∀ (n : Nat) {S S' : List Nat} {V V' : List Tr} (s4 s5 : Slot), red sg S V = some (S', V') → S.length < n → V.length ≤ 1000 → ∃ s4' s5', whileL rtest rturn n (Er6 u S V (.val (nm sg)) s4 s5) = .nx (Er6 u S' V' (.val (nm sg)) s4' s5')
  | 0, S, S', V, V', s4, s5, _, h, _ => absurd h (by omega)
  | n + 1, [], S', V, V', s4, s5, hr, h, hv => nomatch hr
  | n + 1, o :: S, S', V, V', s4, s5, hr, h, hv => by
    have hl : m2 ixD (mOwn 2) (mC (.int (-1))) (Er6 u (o :: S) V (.val (nm sg)) s4 s5) = .ok (nm o) := (m2_ok (f := ixD) (a := .lst (sD (o :: S))) (b := .int (-1)) rfl rfl).trans (by rw [sD_cons]; exact last_app _ _)
    have ht : rtest (Er6 u (o :: S) V (.val (nm sg)) s4 s5) = .ok (!decide (o = 40) && (decide (o = 42) || !decide (sg = 42))) := andT_ok (t_nen hl (lit1 c_open _)) fun _ => orT_ok (t_eqn hl (lit1 c_star _)) fun _ => t_nen rfl (lit1 c_star _)
    by_cases hc : o ≠ 40 ∧ (o = 42 ∨ sg ≠ 42)
    · obtain ⟨r, l, W, rfl⟩ := red_few hc hr
      rw [red_nd hc] at hr
      have hb : (!decide (o = 40) && (decide (o = 42) || !decide (sg = 42))) = true := by simpa using hc
      have e1 : rturn (Er6 u (o :: S) (r :: l :: W) (.val (nm sg)) s4 s5) = .nx (Er6 u S (.nd o l r :: W) (.val (nm sg)) (.val r.d) (.val l.d)) := by
        refine (mSeq_nx (popSet_ok (xs := vD' W ++ [l.d]) (d := r.d) (by show some (Slot.own (.lst (vD' (r :: l :: W)))) = _; rw [vD_cons, vD_cons]))).trans ?_
        refine (mSeq_nx (popSet_ok (xs := vD' W) (d := l.d) rfl)).trans ?_
        refine (apPop_ok (xa := vD' W) (xb := sD S) (d := nm o) (ds := [l.d, r.d]) (by show some (Slot.own (.lst (sD (o :: S)))) = _; rw [sD_cons]) rfl (mCons_ok rfl (mCons_ok rfl rfl)) ⟨by rw [vD_len]; simp only [List.length_cons] at hv; exact small_line (by omega), by simp⟩).trans ?_
        show SO.nx [_, .own (.lst (vD' W ++ [.tup [nm o, l.d, r.d]])), _, _, _, _] = SO.nx [_, .own (.lst (vD' (.nd o l r :: W))), _, _, _, _]
        rw [vD_cons]
        rfl
      obtain ⟨s4', s5', h2⟩ := red_loop n (u := u) (sg := sg) (.val r.d) (.val l.d) hr (by simp only [List.length_cons] at h; omega) (by simp only [List.length_cons] at hv ⊢; omega)
      refine ⟨s4', s5', ?_⟩
      conv => lhs; unfold whileL
      simp only [ht, hb, e1]
      exact h2
    · rw [red_stop hc] at hr
      cases hr
      have hb : (!decide (o = 40) && (decide (o = 42) || !decide (sg = 42))) = false := by
        rw [Bool.eq_false_iff]
        intro z
        exact hc (by simpa using z)
      refine ⟨s4, s5, ?_⟩
      conv => lhs; unfold whileL
      simp only [ht, hb]
/-- one letter is read -/
def rbody : HEnv → SO := (mIfS (m1 truB (m2 eqD (mOwn 3) (mC (.str "("))))
  (mOwn1 2 (tyL "list") appD (mVar 3))
  (mIfS (m1 truB (m2 (inN true) (mOwn 3) (mC (.str "*+)"))))
  (mOwn1 1 (tyL "list") appD (mVar 3))
  (mSeq (whileL rtest rturn 1000)
  (mIfS (m1 truB (m2 eqD (mOwn 3) (mC (.str ")"))))
  (mPop 2)
  (mOwn1 2 (tyL "list") appD (mVar 3))))))
theorem rbody_ok {u : List Nat} {c : Nat} {S S' : List Nat} {V V' : List Tr} (hc : c < 128) (h : rstep c S V = some (S', V')) (hS : S.length < 900) (hV : V.length ≤ 900) (s4 s5 : Slot) :
    ∃ s4' s5', rbody (Er6 u S V (.val (nm c)) s4 s5) = .nx (Er6 u S' V' (.val (nm c)) s4' s5') := by
  have t1 : m1 truB (m2 eqD (mOwn 3) (mC (.str "("))) (Er6 u S V (.val (nm c)) s4 s5) = .ok (decide (c = 40)) := t_eqn rfl (lit1 c_open _)
  have app2 : ∀ (S V : _) (s4 s5 : Slot), S.length < 1000 → mOwn1 2 (tyL "list") appD (mVar 3) (Er6 u S V (.val (nm c)) s4 s5) = .nx (Er6 u (c :: S) V (.val (nm c)) s4 s5) := fun S V s4 s5 hz => by
    refine (append_ok (ds := sD S) (d := nm c) rfl rfl (by rw [sD_len]; exact small_line (by omega))).trans ?_
    show SO.nx [_, _, .own (.lst (sD S ++ [nm c])), _, _, _] = SO.nx [_, _, .own (.lst (sD (c :: S))), _, _, _]
    rw [sD_cons]
  unfold rstep at h
  by_cases h40 : c = 40
  · rw [if_pos h40] at h
    cases h
    subst h40
    exact ⟨s4, s5, (mIf_tt t1).trans (app2 S V s4 s5 (by omega))⟩
  · rw [if_neg h40] at h
    have f1 : rbody (Er6 u S V (.val (nm c)) s4 s5) = _ := mIf_ff (t1.trans (congrArg R.ok (decide_eq_false h40)))
    rw [f1]
    have t2 : m1 truB (m2 (inN true) (mOwn 3) (mC (.str "*+)"))) (Er6 u S V (.val (nm c)) s4 s5) = .ok (!(c == 42 || (c == 43 || c == 41))) := nin_str rfl (range128 tab_mpc hc)
    by_cases hl : c ≠ 42 ∧ c ≠ 43 ∧ c ≠ 41
    · rw [if_pos hl] at h
      cases h
      refine ⟨s4, s5, (mIf_tt (t2.trans (congrArg R.ok ?_))).trans ?_⟩
      · simp [hl.1, hl.2.1, hl.2.2]
      · refine (append_ok (ds := vD' V) (d := nm c) rfl rfl (by rw [vD_len]; exact small_line (by omega))).trans ?_
        show SO.nx [_, .own (.lst (vD' V ++ [nm c])), _, _, _, _] = SO.nx [_, .own (.lst (vD' (.lf c :: V))), _, _, _, _]
        rw [vD_cons]
        rfl
    · rw [if_neg hl] at h
      have hb : (!(c == 42 || (c == 43 || c == 41))) = false := by
        by_cases a1 : c = 42
        · simp [a1]
        · by_cases a2 : c = 43
          · simp [a2]
          · have : c = 41 := by omega
            simp [this]
      have f2 := mIf_ff (a := mOwn1 1 (tyL "list") appD (mVar 3)) (b := (mSeq (whileL rtest rturn 1000)
        (mIfS (m1 truB (m2 eqD (mOwn 3) (mC (.str ")"))))
        (mPop 2)
        (mOwn1 2 (tyL "list") appD (mVar 3))))) (t2.trans (congrArg R.ok hb))
      rw [f2]
      cases hr : red c S V with
      | none => rw [hr] at h; cases h
      | some q =>
        obtain ⟨S2, V2⟩ := q
        rw [hr] at h
        obtain ⟨s4', s5', hw⟩ := red_loop 1000 (u := u) s4 s5 hr (by omega) (by omega)
        have hS2 : S2.length ≤ S.length := by
          have gen : ∀ (S : List Nat) (V : List Tr) (S2 : List Nat) (V2 : List Tr), red c S V = some (S2, V2) → S2.length ≤ S.length := by
            intro S
            induction S with
            | nil => intro V S2 V2 h; cases h
            | cons o S ih =>
              intro V S2 V2 h
              by_cases hc : o ≠ 40 ∧ (o = 42 ∨ c ≠ 42)
              · obtain ⟨r, l, W, rfl⟩ := red_few hc h
                rw [red_nd hc] at h
                have := ih _ _ _ h
                rw [List.length_cons]
                omega
              · rw [red_stop hc] at h
                cases h
                exact Nat.le_refl _
          exact gen S V S2 V2 hr
        have t3 : m1 truB (m2 eqD (mOwn 3) (mC (.str ")"))) (Er6 u S2 V2 (.val (nm c)) s4' s5') = .ok (decide (c = 41)) := t_eqn rfl (lit1 c_close _)
        simp only at h
        by_cases h41 : c = 41
        · rw [if_pos h41] at h
          match S2, h, hS2, hw, t3 with
          | x :: S3, h, _, hw, t3 =>
            cases h
            refine ⟨s4', s5', (mSeq_nx hw).trans ((mIf_tt (t3.trans (congrArg R.ok (decide_eq_true h41)))).trans ?_)⟩
            exact (pop_ok (xs := sD S') (d := nm x) (by show some (Slot.own (.lst (sD (x :: S')))) = _; rw [sD_cons])).trans rfl
          | [], h, _, _, _ => exact nomatch h
        · rw [if_neg h41] at h
          cases h
          exact ⟨s4', s5', (mSeq_nx hw).trans ((mIf_ff (t3.trans (congrArg R.ok (decide_eq_false h41)))).trans (app2 S2 V' s4' s5' (by omega)))⟩
theorem step_len {c : Nat} {S S' : List Nat} {V V' : List Tr} (h : rstep c S V = some (S', V')) : S'.length ≤ S.length + 1 ∧ V'.length ≤ V.length + 1 := by
  have gen : ∀ (S : List Nat) (V : List Tr) (S2 : List Nat) (V2 : List Tr), red c S V = some (S2, V2) → S2.length ≤ S.length ∧ V2.length ≤ V.length := by
    intro S
    induction S with
    | nil => intro V S2 V2 h; cases h
    | cons o S ih =>
      intro V S2 V2 h
      by_cases hc : o ≠ 40 ∧ (o = 42 ∨ c ≠ 42)
      · obtain ⟨r, l, W, rfl⟩ := red_few hc h
        rw [red_nd hc] at h
        have := ih _ _ _ h
        simp only [List.length_cons] at this ⊢
        omega
      · rw [red_stop hc] at h
        cases h
        exact ⟨Nat.le_refl _, Nat.le_refl _⟩
  unfold rstep at h
  split at h
  · cases h
    exact ⟨Nat.le_refl _, Nat.le_succ _⟩
  · split at h
    · cases h
      exact ⟨Nat.le_succ _, Nat.le_refl _⟩
    · split at h
      · rename_i S2 V2 hr
        have := gen _ _ _ _ hr
        split at h
        · split at h
          · cases h
            simp only [List.length_cons] at this
            omega
          · cases h
        · cases h
          simp only [List.length_cons]
          omega
      · cases h
theorem read_loop {u : List Nat} : ∀ (w S S' : List Nat) (V V' : List Tr) (s3 s4 s5 : Slot), (∀ c ∈ w, c < 128) → rrun w S V = some (S', V') → S.length + w.length < 900 → V.length + w.length ≤ 900 →
    ∃ s3' s4' s5', forL (gN 3) rbody (w.map nm) (Er6 u S V s3 s4 s5) = .nx (Er6 u S' V' s3' s4' s5')
  | [], S, S', V, V', s3, s4, s5, _, h, _, _ => by
    cases h
    exact ⟨s3, s4, s5, rfl⟩
  | c :: w, S, S', V, V', s3, s4, s5, hc, h, h1, h2 => by
    replace h : (match rstep c S V with | some (S', V') => rrun w S' V' | none => none) = some (S', V') := h
    cases hs : rstep c S V with
    | none => rw [hs] at h; cases h
    | some q =>
      obtain ⟨S2, V2⟩ := q
      rw [hs] at h
      simp only [List.length_cons] at h1 h2
      obtain ⟨s4', s5', hb⟩ := rbody_ok (u := u) (hc c List.mem_cons_self) hs (by omega) (by omega) s4 s5
      have hl := step_len hs
      obtain ⟨a, b, d, he⟩ := read_loop w S2 S' V2 V' (.val (nm c)) s4' s5' (fun x hx => hc x (List.mem_cons_of_mem _ hx)) h (by omega) (by omega)
      refine ⟨a, b, d, ?_⟩
      rw [List.map_cons, forL_ct (e1 := Er6 u S V (.val (nm c)) s4 s5) rfl (.inl hb)]
      exact he
theorem repl_gap (u : List Nat) : Txt.replace (tx u) (Str.ofString " ") (Str.ofString "") = tx (u.filter (· != 32)) := by
  have h := PyProof.Rows.replace_strikes (tx u) 32
  rw [tx_list] at h
  rw [c_gap, empty_tx]
  have e : Txt.replace (tx u) (tx [32]) (tx []) = ⟨(Txt.replace (tx u) ⟨#[32]⟩ ⟨#[]⟩).cps.toList.toArray⟩ := by simp [tx]
  rw [e, h]
  rfl
/-- the answer of read_tree at a text -/
def readA (u : List Nat) (t : Tr) : R (Bool × D) := if 80 < u.length then .er ⟨"TooMany", "limit", .int 80⟩ else match chk u 0 0 true with
  | some i => .er ⟨"Unread", "at", .int (i : Int)⟩
  | none => if 7 < t.ls.length then .er ⟨"TooMany", "limit", .int 7⟩ else .ok (false, t.d)
theorem gtK {m : HEnv → R D} {env : HEnv} {n k : Nat} (h : m env = .ok (.int (n : Int))) : m1 truB (m2 (cmpI fun i j => decide (j < i)) m (mC (.int (k : Int)))) env = .ok (decide (k < n)) := by
  refine (m1_ok (a := D.bl (decide (k < n))) ((m2_ok (a := D.int n) (b := D.int k) h rfl).trans ?_)).trans rfl
  have e : decide ((k : Int) < (n : Int)) = decide (k < n) := by
    rw [decide_eq_decide]
    omega
  rw [← e]
  rfl
theorem mDo_ok {m : HEnv → R D} {env : HEnv} {d : D} (h : m env = .ok d) : mDo m env = .nx env := sB_ok h
theorem mDo_er {m : HEnv → R D} {env : HEnv} {x : Er} (h : m env = .er x) : mDo m env = .er x env := by
  unfold mDo sB
  rw [h]
theorem mCall_er {f : F1} {ms : HEnv → R (List D)} {env : HEnv} {ds : List D} {x : Er} (h : ms env = .ok ds) (k : f ds = .er x) : mCall f ms env = .er x := by
  unfold mCall
  rw [h, R.bind_ok, k]
  rfl
theorem read_ok {u : List Nat} {t : Tr} {fc fl : F1} {o : Bool} (hz : u.length ≤ 1000) (hc : ∀ c ∈ u, c < 128) (hf : fc [.str (tx u)] = match chk u 0 0 true with
    | none => .ok (false, .non)
    | some i => .er ⟨"Unread", "at", .int (i : Int)⟩) (hr : u.length ≤ 80 → chk u 0 0 true = none → rrun (40 :: (u.filter (· != 32) ++ [41])) [] [] = some ([], [t])) (hl : u.length ≤ 80 → chk u 0 0 true = none → fl [t.d] = .ok (o, .lst (t.ls.map nm))) :
    fnS 6 (bt_read fc fl) [.str (tx u)] = readA u t := by
  have t1 : m1 truB (m2 (cmpI fun i j => decide (j < i)) (m1 lenD (mOwn 0)) (mC (.int 80))) [.val (.str (tx u)), .no, .no, .no, .no, .no] = .ok (decide (80 < u.length)) := gtK (k := 80) ((m1_ok (f := lenD) (a := .str (tx u)) rfl).trans (len_tx (by omega)))
  unfold readA
  by_cases h80 : 80 < u.length
  · rw [if_pos h80]
    exact fnS_er (mSeq_er ((mIf_tt (t1.trans (congrArg R.ok (decide_eq_true h80)))).trans (raise_int (i := 80) rfl (by decide))))
  · rw [if_neg h80]
    have s1 : ∀ b : HEnv → SO, mSeq (mIfS (m1 truB (m2 (cmpI fun i j => decide (j < i)) (m1 lenD (mOwn 0)) (mC (.int 80)))) (mRaise "TooMany" "limit" (mC (.int 80))) mNext) b [.val (.str (tx u)), .no, .no, .no, .no, .no] = b [.val (.str (tx u)), .no, .no, .no, .no, .no] := fun b => mSeq_nx ((mIf_ff (t1.trans (congrArg R.ok (decide_eq_false h80)))).trans rfl)
    cases hk : chk u 0 0 true with
    | some i =>
      rw [hk] at hf
      exact fnS_er ((s1 _).trans (mSeq_er (mDo_er (mCall_er (mCons_ok rfl rfl) hf))))
    | none =>
      rw [hk] at hf
      have hrun := hr (by omega) hk
      have hlv := hl (by omega) hk
      have hlen : (u.filter (· != 32)).length ≤ u.length := List.length_filter_le _ _
      have hsrc : m1 itemsD (mJoinS [(mC (.str "(")), (mFmt (m1 (replD " " "") (mVar 0))), (mC (.str ")"))] Str.empty) (Er6 u [] [] .no .no .no) = .ok ((40 :: (u.filter (· != 32) ++ [41])).map nm) := by
        refine (m1_ok (f := itemsD) (a := .str (tx (40 :: (u.filter (· != 32) ++ [41])))) ?_).trans (items_tx (by simp; omega))
        rw [empty_tx0]
        refine joinS_cons (x := [40]) (congrArg (fun s => R.ok (D.str s)) c_open) (by decide) ?_
        have hrep : m1 (replD " " "") (mVar 0) (Er6 u [] [] .no .no .no) = .ok (.str (tx (u.filter (· != 32)))) := by
          refine (m1_ok (f := replD " " "") (a := .str (tx u)) rfl).trans ?_
          show (if (tx u).length + ((tx u).length + 1) * (Str.ofString "").length ≤ 16777216 then R.ok (D.str (Txt.replace (tx u) (Str.ofString " ") (Str.ofString ""))) else R.stuck) = _
          rw [repl_gap, empty_tx, tx_len, tx_len, List.length_nil, Nat.mul_zero, if_pos (by omega)]
        refine joinS_cons (fmt_ok hrep (by omega)) (by simp only [List.length_append, List.length_cons, List.length_nil]; omega) ?_
        refine joinS_cons (x := [41]) (congrArg (fun s => R.ok (D.str s)) c_close) (by simp only [List.length_append, List.length_cons, List.length_nil]; omega) ?_
        show R.ok (D.str (tx ([] ++ [40] ++ u.filter (· != 32) ++ [41]))) = _
        simp
      have hall : ∀ c ∈ 40 :: (u.filter (· != 32) ++ [41]), c < 128 := fun c h => by
        simp only [List.mem_cons, List.mem_append, List.mem_filter, List.not_mem_nil, or_false] at h
        rcases h with h | h | h
        · omega
        · exact hc c h.1
        · omega
      obtain ⟨a, b, d, he⟩ := read_loop (u := u) _ [] [] [] [t] .no .no .no hall hrun (by simp; omega) (by simp; omega)
      have hix : m2 ixD (mOwn 1) (mC (.int 0)) (Er6 u [] [t] a b d) = .ok t.d := (m2_ok (f := ixD) (a := .lst [t.d]) (b := .int ((0 : Nat) : Int)) rfl rfl).trans (ix_lst rfl)
      have t2 : m1 truB (m2 (cmpI fun i j => decide (j < i)) (m1 lenD (mCall fl (mCons (m2 ixD (mOwn 1) (mC (.int 0))) mNil))) (mC (.int 7))) (Er6 u [] [t] a b d) = .ok (decide (7 < t.ls.length)) :=
        gtK (k := 7) ((m1_ok (f := lenD) (mCall_ok (mCons_ok hix rfl) hlv)).trans (by show R.ok (D.int ((t.ls.map nm).length : Int)) = _; rw [List.length_map]))
      have s2 : ∀ k : HEnv → SO, mSeq (mDo (mCall fc (mCons (mVar 0) mNil))) (mSeq (mParN 1 2 (mLstE mNil) (mLstE mNil)) (mSeq (mFor (m1 itemsD (mJoinS [(mC (.str "(")), (mFmt (m1 (replD " " "") (mVar 0))), (mC (.str ")"))] Str.empty)) (gN 3) rbody) k)) [.val (.str (tx u)), .no, .no, .no, .no, .no] = k (Er6 u [] [t] a b d) := fun k =>
        (mSeq_nx (mDo_ok (mCall_ok (mCons_ok rfl rfl) hf))).trans ((mSeq_nx (e := Er6 u [] [] .no .no .no) rfl).trans (mSeq_nx ((mFor_ok hsrc).trans he)))
      simp only
      by_cases h7 : 7 < t.ls.length
      · rw [if_pos h7]
        exact fnS_er ((s1 _).trans ((s2 _).trans (mSeq_er ((mIf_tt (t2.trans (congrArg R.ok (decide_eq_true h7)))).trans (raise_int (i := 7) rfl (by decide))))))
      · rw [if_neg h7]
        exact fnS_rt ((s1 _).trans ((s2 _).trans ((mSeq_nx ((mIf_ff (t2.trans (congrArg R.ok (decide_eq_false h7)))).trans rfl)).trans (mRet_ok hix))))
end HL

/-! Plain law: each accepted text is read as a tree; how a law parses it. -/
namespace HL
/-! ### what is accepted has a tree -/
def Frm (p : List Nat) : Prop := p = [] ∨ (∃ e t, Par 2 e t ∧ p = e ++ [43]) ∨ (∃ m t, Par 1 m t ∧ p = m ++ [42]) ∨ ∃ e t m t', Par 2 e t ∧ Par 1 m t' ∧ p = e ++ 43 :: (m ++ [42])
theorem Frm.comb {p f : List Nat} {tf : Tr} (h : Frm p) (k : Par 0 f tf) : ∃ t, Par 2 (p ++ f) t := by
  rcases h with rfl | ⟨e, t, h, rfl⟩ | ⟨m, t, h, rfl⟩ | ⟨e, t, m, t', h, h', rfl⟩
  · exact ⟨_, .trm (.fac k)⟩
  · exact ⟨_, by rw [List.append_assoc]; exact .add h (.fac k)⟩
  · exact ⟨_, by rw [List.append_assoc]; exact .trm (.mul h k)⟩
  · exact ⟨_, by
      rw [show e ++ 43 :: (m ++ [42]) ++ f = e ++ 43 :: (m ++ 42 :: f) from by simp]
      exact .add h (.mul h' k)⟩
theorem par2_inv {x : List Nat} {t : Tr} (h : Par 2 x t) : Par 1 x t ∨ ∃ e m l r, x = e ++ 43 :: m ∧ Par 2 e l ∧ Par 1 m r := by
  cases h with
  | trm h => exact .inl h
  | add h k => exact .inr ⟨_, _, _, _, rfl, h, k⟩
theorem Frm.star {x : List Nat} {t : Tr} (h : Par 2 x t) : Frm (x ++ [42]) := by
  rcases par2_inv h with h | ⟨e, m, l, r, rfl, h, k⟩
  · exact .inr (.inr (.inl ⟨_, _, h, rfl⟩))
  · exact .inr (.inr (.inr ⟨e, l, m, r, h, k, by simp⟩))
def pre : List (List Nat) → List Nat
  | [] => []
  | p :: ps => pre ps ++ p ++ [40]
theorem acc_cons {c : Nat} {w : List Nat} {dep : Nat} {due : Bool} {q : Nat × Bool} (h : acc (c :: w) dep due = some q) : ∃ p, cstep c dep due = some p ∧ acc w p.1 p.2 = some q := by
  replace h : (match cstep c dep due with | some (d', u') => acc w d' u' | none => none) = some q := h
  cases hs : cstep c dep due with
  | none => rw [hs] at h; cases h
  | some p => rw [hs] at h; exact ⟨p, rfl, h⟩
theorem acc_tree : ∀ (w : List Nat) (ps : List (List Nat)), (∀ p ∈ ps, Frm p) →
    (∀ p, Frm p → acc w ps.length true = some (0, false) → ∃ t, Par 2 (pre ps ++ p ++ w) t) ∧
    (∀ x tx, Par 2 x tx → acc w ps.length false = some (0, false) → ∃ t, Par 2 (pre ps ++ x ++ w) t)
  | [], ps, hp => by
    refine ⟨fun p _ h => ?_, fun x tx hx h => ?_⟩
    · replace h : some (ps.length, true) = some (0, false) := h
      simp at h
    · cases ps with
      | nil => exact ⟨tx, by simpa [pre] using hx⟩
      | cons a b =>
        replace h : some (b.length + 1, false) = some (0, false) := h
        simp at h
  | c :: w, ps, hp => by
    have ih := acc_tree w
    refine ⟨fun p hf h => ?_, fun x tx hx h => ?_⟩
    · obtain ⟨q, hs, hq⟩ := acc_cons h
      unfold cstep at hs
      by_cases h1 : isLeaf c = true
      · rw [h1] at hs
        cases hs
        obtain ⟨t, ht⟩ := hf.comb (.lf h1)
        obtain ⟨t2, h2⟩ := (ih ps hp).2 (p ++ [c]) t ht hq
        exact ⟨t2, by simpa using h2⟩
      · rw [Bool.not_eq_true] at h1
        rw [h1] at hs
        by_cases h2 : c = 40
        · subst h2
          cases hs
          have hp' : ∀ y ∈ p :: ps, Frm y := fun y hy => by
            rcases List.mem_cons.mp hy with rfl | hy
            · exact hf
            · exact hp y hy
          obtain ⟨t2, h2⟩ := (ih (p :: ps) hp').1 [] (.inl rfl) hq
          exact ⟨t2, by simpa [pre] using h2⟩
        · have e2 : (true && c == 40) = false := by simpa using h2
          rw [e2] at hs
          simp at hs
    · obtain ⟨q, hs, hq⟩ := acc_cons h
      unfold cstep at hs
      by_cases h3 : (c == 42 || c == 43) = true
      · rw [show (!false && (c == 42 || c == 43)) = true from by rw [h3]; rfl] at hs
        cases hs
        have hf : Frm (x ++ [c]) := by
          simp only [Bool.or_eq_true, beq_iff_eq] at h3
          rcases h3 with rfl | rfl
          · exact .star hx
          · exact .inr (.inl ⟨_, _, hx, rfl⟩)
        obtain ⟨t2, h2⟩ := (ih ps hp).1 (x ++ [c]) hf hq
        exact ⟨t2, by simpa using h2⟩
      · rw [Bool.not_eq_true] at h3
        rw [h3] at hs
        by_cases h4 : (c == 41 && decide (0 < ps.length)) = true
        · rw [show (!false && (c == 41 && decide (0 < ps.length))) = true from by rw [h4]; rfl] at hs
          cases hs
          simp only [Bool.and_eq_true, beq_iff_eq, decide_eq_true_eq] at h4
          obtain ⟨rfl, hl⟩ := h4
          cases ps with
          | nil => simp at hl
          | cons p ps =>
            obtain ⟨t, ht⟩ := (hp p List.mem_cons_self).comb (.par hx)
            obtain ⟨t2, h2⟩ := (ih ps fun y hy => hp y (List.mem_cons_of_mem _ hy)).2 _ t ht hq
            exact ⟨t2, by simpa [pre] using h2⟩
        · rw [Bool.not_eq_true] at h4
          rw [h4] at hs
          simp at hs
theorem chk_none : ∀ (u : List Nat) (i dep : Nat) (due : Bool), chk u i dep due = none → acc (u.filter (· != 32)) dep due = some (0, false)
  | [], i, dep, due, h => by
    replace h : (if (due || decide (0 < dep)) = true then some i else none) = none := h
    split at h
    · cases h
    · rename_i hb
      rw [Bool.not_eq_true, Bool.or_eq_false_iff] at hb
      have : dep = 0 := by simpa using hb.2
      rw [this, hb.1]
      rfl
  | c :: u, i, dep, due, h => by
    replace h : (if c = 32 then chk u (i + 1) dep due else match cstep c dep due with | some (d', u') => chk u (i + 1) d' u' | none => some i) = none := h
    by_cases hc : c = 32
    · rw [if_pos hc] at h
      rw [List.filter_cons, if_neg (by simp [hc])]
      exact chk_none u _ _ _ h
    · rw [if_neg hc] at h
      rw [List.filter_cons, if_pos (by simpa using hc)]
      show (match cstep c dep due with | some (d', u') => acc (u.filter (· != 32)) d' u' | none => none) = _
      cases hs : cstep c dep due with
      | none => rw [hs] at h; cases h
      | some p => rw [hs] at h; exact chk_none u _ _ _ h
theorem chk_tree {u : List Nat} (h : chk u 0 0 true = none) : ∃ t, Par 2 (u.filter (· != 32)) t := by
  have := (acc_tree (u.filter (· != 32)) [] fun _ h => by simp at h).1 [] (.inl rfl) (chk_none u 0 0 true h)
  simpa [pre] using this
/-! ### the tree's size -/
theorem par_size {k : Nat} {w : List Nat} {t : Tr} (h : Par k w t) : t.ls.length ≤ w.length ∧ t.good = true ∧ 1 ≤ w.length := by
  induction h with
  | lf h => exact ⟨Nat.le_refl _, h, Nat.le_refl _⟩
  | par h ih => exact ⟨by simp; omega, ih.2.1, by simp⟩
  | fac h ih => exact ih
  | mul h k ih1 ih2 => exact ⟨by simp [Tr.ls]; omega, by simp [Tr.good, ih1.2.1, ih2.2.1], by simp; omega⟩
  | trm h ih => exact ih
  | add h k ih1 ih2 => exact ⟨by simp [Tr.ls]; omega, by simp [Tr.good, ih1.2.1, ih2.2.1], by simp; omega⟩
/-! ### the scan for the operator -/
def starA : Option (Nat × Nat) → Bool
  | none => true
  | some (_, c) => c == 42
def pstep (c k : Nat) (d : Int) (a : Option (Nat × Nat)) : Int × Option (Nat × Nat) :=
  let d1 := if c = 40 then d + 1 else d
  let d2 := if c = 41 then d1 - 1 else d1
  let a1 := if (decide (d2 = 0) && decide (c = 43)) = true then some (k, 43) else a
  (d2, if (decide (d2 = 0) && (decide (c = 42) && starA a1)) = true then some (k, 42) else a1)
def psc : List Nat → Nat → Int → Option (Nat × Nat) → Int × Option (Nat × Nat)
  | [], _, d, a => (d, a)
  | c :: cs, k, d, a => psc cs (k + 1) (pstep c k d a).1 (pstep c k d a).2
theorem psc_app : ∀ (x y : List Nat) (k : Nat) (d : Int) (a : Option (Nat × Nat)), psc (x ++ y) k d a = psc y (k + x.length) (psc x k d a).1 (psc x k d a).2
  | [], y, k, d, a => rfl
  | c :: x, y, k, d, a => by
    show psc (x ++ y) (k + 1) (pstep c k d a).1 (pstep c k d a).2 = _
    rw [psc_app x y, List.length_cons, show k + 1 + x.length = k + (x.length + 1) from by omega]
    rfl
theorem pstep_other {c k : Nat} {d : Int} {a : Option (Nat × Nat)} (h : c ≠ 40 ∧ c ≠ 41 ∧ c ≠ 42 ∧ c ≠ 43) : pstep c k d a = (d, a) := by
  unfold pstep
  simp [h.1, h.2.1, h.2.2.1, h.2.2.2]
theorem pstep_deep {c k : Nat} {d : Int} {a : Option (Nat × Nat)} (hd : 0 < d) (h : c = 42 ∨ c = 43) : pstep c k d a = (d, a) := by
  have e : decide (d = 0) = false := decide_eq_false (by omega)
  unfold pstep
  rcases h with rfl | rfl <;> simp [e]
theorem pstar {j : Nat} {b : Option (Nat × Nat)} (h : starA b = true) : pstep 42 j 0 b = (0, some (j, 42)) := by
  unfold pstep
  simp [h]
theorem par_scan {k : Nat} {w : List Nat} {t : Tr} (h : Par k w t) : ∀ (i : Nat) (d : Int) (a : Option (Nat × Nat)), 0 ≤ d → (psc w i d a).1 = d ∧ (0 < d → (psc w i d a).2 = a) ∧ (k = 0 → (psc w i d a).2 = a) ∧ (k = 1 → (starA a = true → starA (psc w i d a).2 = true) ∧ (starA a = false → (psc w i d a).2 = a)) := by
  induction h with
  | @lf c h =>
    intro i d a hd
    have n := leaf_ne h
    have e : psc [c] i d a = (d, a) := pstep_other ⟨n.1, n.2.1, n.2.2.1, n.2.2.2.1⟩
    rw [e]
    exact ⟨rfl, fun _ => rfl, fun _ => rfl, fun z => by omega⟩
  | @par w t h ih =>
    intro i d a hd
    have e1 : pstep 40 i d a = (d + 1, a) := by
      unfold pstep
      simp
    have e : psc (40 :: (w ++ [41])) i d a = (d, a) := by
      show psc (w ++ [41]) (i + 1) (pstep 40 i d a).1 (pstep 40 i d a).2 = _
      rw [e1, psc_app]
      obtain ⟨i1, i2, _⟩ := ih (i + 1) (d + 1) a (by omega)
      rw [i1, i2 (by omega)]
      show pstep 41 _ (d + 1) a = (d, a)
      unfold pstep
      simp
    rw [e]
    exact ⟨rfl, fun _ => rfl, fun _ => rfl, fun z => by omega⟩
  | @fac w t h ih =>
    intro i d a hd
    obtain ⟨i1, i2, i3, _⟩ := ih i d a hd
    exact ⟨i1, i2, fun z => by omega, fun _ => ⟨fun z => by rw [i3 rfl]; exact z, fun _ => i3 rfl⟩⟩
  | @mul w v l r h k ih1 ih2 =>
    intro i d a hd
    obtain ⟨i1, i2, _, i4⟩ := ih1 i d a hd
    obtain ⟨j1, j2⟩ := i4 rfl
    have e : psc (w ++ 42 :: v) i d a = psc v (i + w.length + 1) (pstep 42 (i + w.length) d (psc w i d a).2).1 (pstep 42 (i + w.length) d (psc w i d a).2).2 := by
      rw [psc_app, i1]
      rfl
    have e1 : (pstep 42 (i + w.length) d (psc w i d a).2).1 = d := by
      unfold pstep
      simp
    obtain ⟨k1, k2, k3, _⟩ := ih2 (i + w.length + 1) d (pstep 42 (i + w.length) d (psc w i d a).2).2 hd
    rw [e, e1]
    refine ⟨k1, fun z => ?_, fun z => by omega, fun _ => ⟨fun z => ?_, fun z => ?_⟩⟩
    · rw [k2 z, pstep_deep z (.inl rfl)]
      exact i2 z
    · rw [k3 rfl]
      have s1 := j1 z
      by_cases h0 : d = 0
      · subst h0
        rw [pstar s1]
        rfl
      · unfold pstep
        simp [h0, s1]
    · rw [k3 rfl, j2 z]
      unfold pstep
      simp [z]
  | trm h ih =>
    intro i d a hd
    obtain ⟨i1, i2, _⟩ := ih i d a hd
    exact ⟨i1, i2, fun z => by omega, fun z => by omega⟩
  | @add w v l r h k ih1 ih2 =>
    intro i d a hd
    obtain ⟨i1, i2, _⟩ := ih1 i d a hd
    have e : psc (w ++ 43 :: v) i d a = psc v (i + w.length + 1) (pstep 43 (i + w.length) d (psc w i d a).2).1 (pstep 43 (i + w.length) d (psc w i d a).2).2 := by
      rw [psc_app, i1]
      rfl
    have e1 : (pstep 43 (i + w.length) d (psc w i d a).2).1 = d := by
      unfold pstep
      simp
    obtain ⟨k1, k2, _⟩ := ih2 (i + w.length + 1) d (pstep 43 (i + w.length) d (psc w i d a).2).2 hd
    rw [e, e1]
    refine ⟨k1, fun z => ?_, fun z => by omega, fun z => by omega⟩
    rw [k2 z, pstep_deep z (.inr rfl)]
    exact i2 z
/-- where the text is cut -/
theorem cut_mul {w v : List Nat} {l r : Tr} (h : Par 1 w l) (k : Par 0 v r) : (psc (w ++ 42 :: v) 0 0 none).2 = some (w.length, 42) := by
  obtain ⟨i1, i2, _, i4⟩ := par_scan h 0 0 none (Int.le_refl _)
  rw [psc_app, i1]
  show (psc v (0 + w.length + 1) (pstep 42 (0 + w.length) 0 (psc w 0 0 none).2).1 (pstep 42 (0 + w.length) 0 (psc w 0 0 none).2).2).2 = _
  have s1 := (i4 rfl).1 rfl
  have e : pstep 42 (0 + w.length) 0 (psc w 0 0 none).2 = (0, some (w.length, 42)) := by
    unfold pstep
    simp [s1]
  rw [e]
  exact (par_scan k _ 0 _ (Int.le_refl _)).2.2.1 rfl
theorem cut_add {w v : List Nat} {l r : Tr} (h : Par 2 w l) (k : Par 1 v r) : (psc (w ++ 43 :: v) 0 0 none).2 = some (w.length, 43) := by
  obtain ⟨i1, _⟩ := par_scan h 0 0 none (Int.le_refl _)
  rw [psc_app, i1]
  show (psc v (0 + w.length + 1) (pstep 43 (0 + w.length) 0 (psc w 0 0 none).2).1 (pstep 43 (0 + w.length) 0 (psc w 0 0 none).2).2).2 = _
  have e : pstep 43 (0 + w.length) 0 (psc w 0 0 none).2 = (0, some (w.length, 43)) := by
    unfold pstep
    simp
  rw [e]
  exact ((par_scan k _ 0 _ (Int.le_refl _)).2.2.2 rfl).2 rfl
theorem cut_none {w : List Nat} {t : Tr} (h : Par 0 w t) : (psc w 0 0 none).2 = none := (par_scan h 0 0 none (Int.le_refl _)).2.2.1 rfl
end HL

/-! x.replace(a, b) where a token is out: behind a comparison with a written int. -/
namespace HL
open PySem PySem.Spec PyProof.Rows L2
section
variable {X : Cx} {cl : Cl} {W : WX} {pos : Pos}
theorem ps_ifT {a : Expr} {op : CmpOp} {k : Int} {j : Nat} {p1 p2 : Pos} {s1 s2 : List Stmt} {r : R2} {ta : TE} {t u : TS} (ho : OpR X (compareOp op) r) (ha : PE X a ta) (h1 : PSsT X s1 t) (h2 : PSsT X s2 u) (hm : behindInMarks op (.Constant (.int k) j p1) = false) :
    PS X (.If (.Compare a [op] [.Constant (.int k) j p1] p2) s1 s2 pos) (tIfS (tTest (tOp r ta (tC (.int k)))) t u) := by
  refine ⟨fun pins s σ H D I h => ?_⟩
  refine wpAny_If ?_
  refine wpAny_isTrue_Compare1 (thn (ha.run pins s σ H _ I h) fun v s1' ⟨x, H1, I1, r1, q1⟩ => wpAny_Constant_int ?_) hm
  refine wpAny_mono (PySem.wpAny_toks_of (n := 1) (by show 1 ≤ s1'.toks + 1; omega) (ho pins _ σ H1 x (.int k) v (.int k s1'.toks) _ (I1.tok _) r1 ⟨_, rfl⟩ q1)) (fun c s3 hq => ?_) fun _ _ z => z.2
  obtain ⟨hk, z, H3, I3, r3, kk, e, q3⟩ := hq
  subst e
  cases r3
  refine wpAny_truthy_bool ?_
  cases kk with
  | true => exact h1 pins s3 σ H3 D hk I3 q3
  | false => exact h2 pins s3 σ H3 D hk I3 q3
theorem psst_weak {sts : List Stmt} {t u : TS} (h : PSsT X sts t) (w : ∀ D σ H, u D σ H → t D σ H) : PSsT X sts u := fun pins s σ H D h0 I q => h pins s σ H D h0 I (w D σ H q)
theorem pst_weak {st : Stmt} {t u : TS} (h : PST X st t) (w : ∀ D σ H, u D σ H → t D σ H) : PST X st u := fun pins s σ H D h0 I q => h pins s σ H D h0 I (w D σ H q)
theorem pet_weak {e : Expr} {t u : TE} (h : PET X e t) (w : ∀ σ H Q, u σ H Q → t σ H Q) : PET X e u := fun pins s σ H Q h0 I q => h pins s σ H Q h0 I (w σ H Q q)
variable {st : Stmt} {sts : List Stmt} {a b : HEnv → SO}
theorem dst_nil : PSsT X [] (tS cl W mNext) := PSsT.of ds_nil
theorem dst_cons (h1 : PST X st (tS cl W a)) (h2 : PSsT X sts (tS cl W b)) : PSsT X (st :: sts) (tS cl W (mSeq a b)) := by
  refine psst_weak (psst_cons h1 h2) fun Dn σ H ⟨F0, H0, F, env, s, q⟩ => ?_
  refine ⟨F0, H0, F, env, s, ?_⟩
  unfold mSeq at q
  cases e : a env with
  | nx e1 =>
    rw [e] at q
    exact fun σ' F' H' x s' => ⟨F0, H0, F', e1, s', q.ext x⟩
  | rt o d => rw [e] at q; exact q
  | er y e1 => rw [e] at q; exact q
  | bk e1 => rw [e] at q; exact q
  | ct e1 => rw [e] at q; exact q
  | stuck => rw [e] at q; exact q
theorem dst_of (h : PS X st (tS cl W a)) : PST X st (tS cl W a) := PST.of h
theorem dst_one (h : PST X st (tS cl W a)) : PSsT X [st] (tS cl W a) := by
  intro pins s σ H D h0 I q
  exact psst_cons (t := tS cl W a) (u := fun D σ H => D.nx σ H) h (fun pins s σ H D _ I q => pss_nil.run pins s σ H D I q) pins s σ H D h0 I q
theorem ds_ifT {e : Expr} {op : CmpOp} {k : Int} {j : Nat} {p1 p2 : Pos} {s1 s2 : List Stmt} {r : R2} {f : D → D → R D} {m : HEnv → R D} (ho : OpR X (compareOp op) r) (hf : Op2 cl (relF cl) f r) (he : PE X e (tB cl W m)) (h1 : PSsT X s1 (tS cl W a)) (h2 : PSsT X s2 (tS cl W b))
    (hm : behindInMarks op (.Constant (.int k) j p1) = false := by first | exact nomark _ | rfl) : PS X (.If (.Compare e [op] [.Constant (.int k) j p1] p2) s1 s2 pos) (tS cl W (mIfS (m1 truB (m2 f m (mC (.int k)))) a b)) := by
  refine ps_weak (ps_ifT ho he h1 h2 hm) fun Dn σ H q => ?_
  have q1 : tT cl W (m1 truB (m2 f m (mC (.int k)))) σ H fun c H' => if c = true then tS cl W a Dn σ H' else tS cl W b Dn σ H' := stB (k := fun c env => if c = true then a env else b env) q fun d v F0 H0 F env Hs H1 s0 F1 kp s r p => by
    obtain rfl : v = d := r
    cases v with
    | true => exact ⟨F0, H0, F1, env, s, p⟩
    | false => exact ⟨F0, H0, F1, env, s, p⟩
  have q2 := read1 (f := truB) (rel := relF cl) (r := fun x H1 Q => ∃ c, x = V.bl c ∧ Q c H1) oldT (fun Hs F H d v Q σ s r p => by
    cases d with
    | bl c => exact ⟨c, by simpa only [relF, Rep] using r, PostG.done p s rfl⟩
    | _ => exact p.elim) q1
  have q3 := read2 (f := f) (rel := relB cl) (rel1 := relB cl) (r := r) (rel' := relF cl) oldF carB (fun Hs F H d v e u Q σ s r1 r2 p => hf W F H d e v u Q σ s r1 r2 p) q2
  obtain ⟨F0, H0, F, env, s, q3⟩ := q3
  refine ⟨F0, H0, F, env, s, ?_⟩
  cases em : m env with
  | er x => rw [em] at q3; exact q3
  | stuck => rw [em] at q3; exact q3.elim
  | ok d =>
    rw [em] at q3
    intro v F1 H1 k1 s1 r1
    obtain ⟨F0', H0', F', env', st', q4⟩ := q3 v F1 H1 k1 s1 r1
    exact q4 (.int k) F' H1 (Kp.refl F' H1) st'.sub (.inl (by simp only [Rep]))
/-! ### x = e.replace(..), x = f(e.replace(..)) -/
variable {i : Nat} {x y : Str} {e o : Expr} {m mo : HEnv → R D} {pos' : Pos}
theorem pst_set {te : TE} (hN : X.N.Nodup) (hi : X.N[i]? = some x) (hx : Loc X.env.scope x) (he : PET X e te) (hs : swapsWith e (some (.Name x pos')) pos.line X.env = pure false := by rfl) (hf : X.fn x = true ∨ X.env.scope.names.lookup x = some .local := by first | exact .inl rfl | exact .inr rfl | assumption) :
    PST X (.Assign [.Name x pos'] e pos) (tAsg te (gName i)) := by
  intro pins s σ H D h0 I h
  refine wpAny_Assign_Name (thn (he pins s σ H _ h0 I h) fun v s1 ⟨y, H1, I1, r1, q1⟩ => ?_) hs
  exact store_ok I1 hN hi hx r1 (fun s2 I2 => ⟨_, H1, I2, q1⟩) hf
theorem dst_set (hN : X.N.Nodup) (hi : X.N[i]? = some x) (hx : Loc X.env.scope x) (he : PET X e (tF cl W m)) (hs : swapsWith e (some (.Name x pos')) pos.line X.env = pure false := by rfl)
    (hf : X.fn x = true ∨ X.env.scope.names.lookup x = some .local := by first | exact .inl rfl | exact .inr rfl | assumption) : PST X (.Assign [.Name x pos'] e pos) (tS cl W (mSet i m)) :=
  pst_weak (pst_set hN hi hx he hs hf) fun Dn σ H q => read_set q
theorem dt_repl {a b : Str} {j k : Nat} {c0 c1 apos : Pos} (ho : PE X o (tF cl W mo)) (hyz : (a == b) = false := by decide)
    (hst : starEach [.Constant (.str a) j c0, .Constant (.str b) k c1] X.env = [(false, eval (.Constant (.str a) j c0) X.env), (false, eval (.Constant (.str b) k c1) X.env)] := by rfl)
    (hbase : attributeBase o "replace" X.env (eval o X.env) = eval o X.env := by rfl) (hline : (apos.endLine == pos.line) = true := by rfl) :
    PET X (.Call (.Attribute o "replace" apos) [.Constant (.str a) j c0, .Constant (.str b) k c1] [] pos) (tF cl W (m1 (replD a b) mo)) := by
  refine pet_weak (CwR.pet_replC (to := tF cl W mo) ho hyz hst hbase hline) fun σ H Q q => ?_
  exact read1 (f := replD a b) (rel := relF cl) (r := fun x H1 Q => ∃ t, x = V.str t ∧ t.length + (t.length + 1) * b.length ≤ 16777216 ∧ Q (.str (Txt.replace t a b)) H1) oldF (fun Hs F H d v Q σ s r p => by
    unfold replD at p
    split at p
    · obtain rfl : v = .str _ := by simpa only [relF, Rep] using r
      split at p
      · exact ⟨_, rfl, by assumption, PostG.done p s (by simp only [relF, Rep])⟩
      · exact p.elim
    · exact p.elim) q
theorem dt_call1 {k : Nat} {f : List D → R (Bool × D)} {p : Pos} (F : Df X.prog X.w X.K X.mg X.base cl k x 1 f) (hr : Room k X.A) (tk : Takes X W) (hg : Gl X x) (ha : PET X e (tF cl W m))
    (hdb : (x == ("__debug__" : Str)) = false := by decide) (he : starEach (e :: []) X.env = (false, eval e X.env) :: starEach [] X.env := by rfl) (hpl : (backTo pos (starEach [] X.env)).any (·.1) = false := by rfl) :
    PET X (.Call (.Name x p) [e] [] pos) (tF cl W (mCall f (mCons m mNil))) := by
  obtain ⟨fa, fd, ps, hF, hm, hk, hb⟩ := F.ex
  intro pins s σ H Q h0 I q
  have q2 : tCallS (spD cl 1 f) (WE W) (tA cl W (mCons m mNil)) σ H Q := read_call (gg := fun r => .ok r.2) (rel := relF cl) oldF (by repeat constructor) (fun Hs F1 H1 F' H' r d v eg k' s' rr => by cases eg; exact ret_frz k' s' rr) (fun _ _ z => nomatch z) q
  have q3 : tF cl W m σ H fun v H1 => spD cl 1 f [v] H1 Q (WE W σ) := by
    obtain ⟨F0, H0, F, env, s, q2⟩ := q2
    refine ⟨F0, H0, F, env, s, ?_⟩
    have e1 : mCons m mNil env = (m env).bind fun d => .ok [d] := rfl
    rw [e1] at q2
    cases em : m env with
    | er z => rw [em] at q2; exact q2
    | stuck => rw [em] at q2; exact q2.elim
    | ok d =>
      rw [em] at q2
      exact fun v F' H' k' s' r => q2 [v] F' H' k' s' (by simp only [relA, RepL]; exact ⟨_, _, rfl, r, rfl⟩)
  refine wpAny_Call_Name_kw (ld_glob I hg hm ?_ hdb)
  refine PySem.W.callWith_K (h₀ := X.base) I.ok.mod.kin hk ?_ he hpl
  have z := (pat_cons ha pat_nil he) pos pins s σ H (fun vs H1 => spD cl 1 f vs H1 Q (WE W σ)) h0 I q3
  exact thn z fun us s1 ⟨vs, H1, I1, r, q⟩ => ⟨I1.kIn, run_fnS hF hr hb (passAt tk σ) I1 r q⟩
end
end HL

/-! A written text times an int. -/
namespace HL
open PySem PySem.Spec PyProof.Rows L2
def mulSD : D → D → R D
  | .str x, .int n => if x.length ≤ 100 ∧ -1000 ≤ n ∧ n ≤ 1000 then .ok (.str (Txt.mul x n)) else .stuck
  | _, _ => .stuck
def rMulS : R2 := fun x y H Q => ∃ a n, x = V.str a ∧ y = V.int n ∧ a.length ≤ 100 ∧ -1000 ≤ n ∧ n ≤ 1000 ∧ Q (.str (Txt.mul a n)) H
theorem op_mulS {X : Cx} : OpR X (binaryOp .Mult) rMulS := by
  intro pins s σ H x y v u Q I rx ry h
  obtain ⟨a, n, rfl, rfl, h1, h2, h3, q⟩ := h
  obtain ⟨t, rfl⟩ := rx
  obtain ⟨t2, rfl⟩ := ry
  refine PySem.SB.mul ⟨?_, fun hn _ => ?_, fun hn _ => ?_⟩ fun t' k => ⟨.str _, H, I.tok _, ⟨_, rfl⟩, q⟩
  · rw [Bool.or_eq_false_iff]
    exact ⟨decide_eq_false (by omega), decide_eq_false (by omega)⟩
  · have hd : (9223372036854775 : Int) ≤ (2 ^ 63 - 1) / n := (Int.le_ediv_iff_mul_le (by omega)).mpr (by omega)
    omega
  · unfold Builtin.Str.tooLong
    refine decide_eq_false ?_
    have : a.length * n.toNat ≤ 100 * 1000 := Nat.mul_le_mul h1 (by omega)
    rw [sizeLine_eq]
    omega
theorem mulS_2 {cl : Cl} : Op2 cl (relF cl) mulSD rMulS := by
  intro W F H d e v u Q σ s r1 r2 p
  unfold mulSD at p
  split at p
  · split at p
    · rename_i h
      exact ⟨_, _, r1.str, r2.int, h.1, h.2.1, h.2.2, PostG.done p s (by simp only [relF, Rep])⟩
    · exact p.elim
  · exact p.elim
end HL

/-! Plain law: how a law scans and parses a text. -/
namespace HL
open PySem L2
def bt_wrong : HEnv → SO :=
  (mSeq (mSet 1 (mC (.int 0)))
  (mSeq (mSet 2 (mC (.str "+")))
  (mSeq (mFor (m1 range1D (mCons (m1 lenD (mOwn 0)) mNil)) (gN 3)
  (mSeq (mSet 4 (m2 ixD (mOwn 0) (mOwn 3)))
  (mSeq (mIfS (m1 truB (m2 eqD (mOwn 4) (mC (.str " "))))
  mCont
  mNext)
  (mSeq (mSet 5 (m2 (inN false) (mOwn 2) (mC (.str "+*("))))
  (mSeq (mSet 6 (mAndV (mVar 5) (m2 (inN false) (mOwn 4) (mC (.str "01ABCDEFGHIJKLMNOPQRSTUVWXYZ(")))))
  (mSeq (mSet 6 (mOrV (mVar 6) (mAndV (m1 notD (mVar 5)) (m2 (inN false) (mOwn 4) (mC (.str "+*"))))))
  (mSeq (mSet 6 (mOrV (mVar 6) (mAndV (m1 notD (mVar 5)) (mAndV (m2 eqD (mOwn 4) (mC (.str ")"))) (m2 (cmpI fun i j => decide (j < i)) (mOwn 1) (mC (.int 0)))))))
  (mSeq (mIfS (mNotT (m1 truD (mOwn 6)))
  (mRet (mVar 3))
  mNext)
  (mSeq (mSet 1 (m2 subD (m2 addD (mOwn 1) (m1 intD (m2 eqD (mOwn 4) (mC (.str "("))))) (m1 intD (m2 eqD (mOwn 4) (mC (.str ")"))))))
  (mSet 2 (mVar 4)))))))))))
  (mSeq (mIfS (mOrT (m1 truB (m2 (inN false) (mOwn 2) (mC (.str "+*(")))) (m1 truB (m2 (cmpI fun i j => decide (j < i)) (mOwn 1) (mC (.int 0)))))
  (mRet (m1 lenD (mOwn 0)))
  mNext)
  (mRet (mC (.int (-1))))))))
def bt_parsed (g : F1) : HEnv → SO :=
  (mSeq (mSet 1 (mC (.int 0)))
  (mSeq (mSet 2 (mC (.int (-1))))
  (mSeq (mFor (m1 range1D (mCons (m1 lenD (mOwn 0)) mNil)) (gN 3)
  (mSeq (mIfS (m1 truB (m2 eqD (m2 ixD (mOwn 0) (mOwn 3)) (mC (.str "("))))
  (mSet 1 (m2 addD (mOwn 1) (mC (.int 1))))
  mNext)
  (mSeq (mIfS (m1 truB (m2 eqD (m2 ixD (mOwn 0) (mOwn 3)) (mC (.str ")"))))
  (mSet 1 (m2 subD (mOwn 1) (mC (.int 1))))
  mNext)
  (mSeq (mIfS (mAndT (m1 truB (m2 eqD (mOwn 1) (mC (.int 0)))) (m1 truB (m2 eqD (m2 ixD (mOwn 0) (mOwn 3)) (mC (.str "+")))))
  (mSet 2 (mVar 3))
  mNext)
  (mIfS (mAndT (m1 truB (m2 eqD (mOwn 1) (mC (.int 0)))) (mAndT (m1 truB (m2 eqD (m2 ixD (mOwn 0) (mOwn 3)) (mC (.str "*")))) (mOrT (m1 truB (m2 ltD (mOwn 2) (mC (.int 0)))) (m1 truB (m2 eqD (m2 ixD (mOwn 0) (mOwn 2)) (mC (.str "*")))))))
  (mSet 2 (mVar 3))
  mNext)))))
  (mSeq (mIfS (m1 truB (m2 (cmpI fun i j => decide (j ≤ i)) (mOwn 2) (mC (.int 0))))
  (mRet (mTupE (mCons (m2 ixD (mOwn 0) (mOwn 2)) (mCons (mCall g (mCons (mSl slD (mOwn 0) mNoPart (mPart (mVar 2))) mNil)) (mCons (mCall g (mCons (mSl slD (mOwn 0) (mPart (m2 addD (mOwn 2) (mC (.int 1)))) mNoPart) mNil)) mNil)))))
  mNext)
  (mSeq (mIfS (m1 truB (m2 eqD (m2 ixD (mOwn 0) (mC (.int 0))) (mC (.str "("))))
  (mRetX (mCallX g (mCons (mSl slD (mOwn 0) (mPart (mC (.int 1))) (mPart (m2 subD (m1 lenD (mOwn 0)) (mC (.int 1))))) mNil)))
  mNext)
  (mRet (mVar 0)))))))
def bt_string : HEnv → SO :=
  (mSeq (mSet 1 (mC (.str "")))
  (mSeq (mSet 2 (mC (.int 0)))
  (mSeq (mSet 3 (mC (.bl true)))
  (mSeq (mFor (m1 range1D (mCons (m2 modD (m1 intD (m2 ixD (mOwn 0) (mC (.int 0)))) (mC (.int 21))) mNil)) (gN 4)
  (mSeq (mSet 5 (m1 intD (m2 ixD (mOwn 0) (m2 addD (mC (.int 1)) (mOwn 4)))))
  (mSeq (mSet 6 (m2 ixD (mC (.str "*+*+) *+")) (m2 modD (mOwn 5) (mC (.int 8)))))
  (mSeq (mIfS (m1 truD (mOwn 3))
  (mSet 6 (m2 ixD (mC (.str "AB(01 XA")) (m2 modD (mOwn 5) (mC (.int 8)))))
  mNext)
  (mSeq (mIfS (m1 truB (m2 eqD (m2 modD (m2 divD (mOwn 5) (mC (.int 8))) (mC (.int 15))) (mC (.int 7))))
  (mSet 6 (m2 ixD (mC (.str "AZ01()*+ a2-[")) (m2 modD (m2 divD (mOwn 5) (mC (.int 120))) (mC (.int 13)))))
  mNext)
  (mSeq (mSet 2 (m2 subD (m2 addD (mOwn 2) (m1 intD (m2 eqD (mOwn 6) (mC (.str "("))))) (m1 intD (m2 eqD (mOwn 6) (mC (.str ")"))))))
  (mSeq (mSet 3 (mOrV (m2 (inN false) (mOwn 6) (mC (.str "(*+"))) (mAndV (m2 eqD (mOwn 6) (mC (.str " "))) (mVar 3))))
  (mSet 1 (m2 addD (mOwn 1) (mOwn 6))))))))))
  (mSeq (mIfS (m1 truB (m2 eqD (m2 modD (m1 intD (m2 ixD (mOwn 0) (mC (.int 22)))) (mC (.int 2))) (mC (.int 1))))
  (mSet 1 (m2 addD (m2 addD (mOwn 1) (m2 mulSD (mC (.str "A")) (m1 intD (mOwn 3)))) (m2 mulSD (mC (.str ")")) (mOwn 2))))
  mNext)
  (mRet (mVar 1)))))))
/-! ### parsed -/
def ppbody : HEnv → SO := (mSeq (mIfS (m1 truB (m2 eqD (m2 ixD (mOwn 0) (mOwn 3)) (mC (.str "("))))
  (mSet 1 (m2 addD (mOwn 1) (mC (.int 1))))
  mNext)
  (mSeq (mIfS (m1 truB (m2 eqD (m2 ixD (mOwn 0) (mOwn 3)) (mC (.str ")"))))
  (mSet 1 (m2 subD (mOwn 1) (mC (.int 1))))
  mNext)
  (mSeq (mIfS (mAndT (m1 truB (m2 eqD (mOwn 1) (mC (.int 0)))) (m1 truB (m2 eqD (m2 ixD (mOwn 0) (mOwn 3)) (mC (.str "+")))))
  (mSet 2 (mVar 3))
  mNext)
  (mIfS (mAndT (m1 truB (m2 eqD (mOwn 1) (mC (.int 0)))) (mAndT (m1 truB (m2 eqD (m2 ixD (mOwn 0) (mOwn 3)) (mC (.str "*")))) (mOrT (m1 truB (m2 ltD (mOwn 2) (mC (.int 0)))) (m1 truB (m2 eqD (m2 ixD (mOwn 0) (mOwn 2)) (mC (.str "*")))))))
  (mSet 2 (mVar 3))
  mNext))))
def atI' : Option (Nat × Nat) → Int
  | none => -1
  | some (j, _) => (j : Int)
abbrev Ep (w : List Nat) (d : Int) (a : Option (Nat × Nat)) (s3 : Slot) : HEnv := [.val (.str (tx w)), .val (.int d), .val (.int (atI' a)), s3]
def fitsA (w : List Nat) : Option (Nat × Nat) → Prop
  | none => True
  | some (j, c) => w[j]? = some c
theorem t_eqi {m : HEnv → R D} {env : HEnv} {a b : Int} (h : m env = .ok (.int a)) : m1 truB (m2 eqD m (mC (.int b))) env = .ok (decide (a = b)) :=
  (m1_ok (f := truB) (a := .bl (a == b)) ((m2_ok (f := eqD) (a := .int a) (b := .int b) h rfl).trans (eq_int a b))).trans rfl
theorem ppbody_ok {w : List Nat} {k c : Nat} {d : Int} {a : Option (Nat × Nat)} (hw : w.length ≤ 1000) (hk : w[k]? = some c) (ha : fitsA w a) : fitsA w (pstep c k d a).2 ∧ ppbody (Ep w d a (.val (.int (k : Int)))) = .nx (Ep w (pstep c k d a).1 (pstep c k d a).2 (.val (.int (k : Int)))) := by
  have ix : ∀ (d : Int) (a : Option (Nat × Nat)), m2 ixD (mOwn 0) (mOwn 3) (Ep w d a (.val (.int (k : Int)))) = .ok (nm c) := fun d a => (m2_ok (f := ixD) (a := .str (tx w)) (b := .int (k : Int)) rfl rfl).trans (ix_tx (by omega) hk)
  let d1 := if c = 40 then d + 1 else d
  let d2 := if c = 41 then d1 - 1 else d1
  let a1 := if (decide (d2 = 0) && decide (c = 43)) = true then some (k, 43) else a
  let a2 := if (decide (d2 = 0) && (decide (c = 42) && starA a1)) = true then some (k, 42) else a1
  have f1 : fitsA w a1 := by
    by_cases h : (decide (d2 = 0) && decide (c = 43)) = true
    · show fitsA w (if (decide (d2 = 0) && decide (c = 43)) = true then some (k, 43) else a)
      rw [if_pos h]
      simp only [Bool.and_eq_true, decide_eq_true_eq] at h
      rw [← h.2]
      exact hk
    · show fitsA w (if (decide (d2 = 0) && decide (c = 43)) = true then some (k, 43) else a)
      rw [if_neg h]
      exact ha
  have f2 : fitsA w a2 := by
    by_cases h : (decide (d2 = 0) && (decide (c = 42) && starA a1)) = true
    · show fitsA w (if (decide (d2 = 0) && (decide (c = 42) && starA a1)) = true then some (k, 42) else a1)
      rw [if_pos h]
      simp only [Bool.and_eq_true, decide_eq_true_eq] at h
      rw [← h.2.1]
      exact hk
    · show fitsA w (if (decide (d2 = 0) && (decide (c = 42) && starA a1)) = true then some (k, 42) else a1)
      rw [if_neg h]
      exact f1
  refine ⟨f2, ?_⟩
  show ppbody _ = .nx (Ep w d2 a2 (.val (.int (k : Int))))
  unfold ppbody
  refine (mSeq_nx (e := Ep w d1 a (.val (.int (k : Int)))) ?_).trans ?_
  · have t : m1 truB (m2 eqD (m2 ixD (mOwn 0) (mOwn 3)) (mC (.str "("))) (Ep w d a (.val (.int (k : Int)))) = .ok (decide (c = 40)) := t_eqn (ix d a) (lit1 c_open _)
    by_cases h : c = 40
    · rw [show d1 = d + 1 from if_pos h]
      exact (mIf_tt (t.trans (congrArg R.ok (decide_eq_true h)))).trans rfl
    · rw [show d1 = d from if_neg h]
      exact (mIf_ff (t.trans (congrArg R.ok (decide_eq_false h)))).trans rfl
  refine (mSeq_nx (e := Ep w d2 a (.val (.int (k : Int)))) ?_).trans ?_
  · have t : m1 truB (m2 eqD (m2 ixD (mOwn 0) (mOwn 3)) (mC (.str ")"))) (Ep w d1 a (.val (.int (k : Int)))) = .ok (decide (c = 41)) := t_eqn (ix d1 a) (lit1 c_close _)
    by_cases h : c = 41
    · rw [show d2 = d1 - 1 from if_pos h]
      exact (mIf_tt (t.trans (congrArg R.ok (decide_eq_true h)))).trans rfl
    · rw [show d2 = d1 from if_neg h]
      exact (mIf_ff (t.trans (congrArg R.ok (decide_eq_false h)))).trans rfl
  refine (mSeq_nx (e := Ep w d2 a1 (.val (.int (k : Int)))) ?_).trans ?_
  · have t : mAndT (m1 truB (m2 eqD (mOwn 1) (mC (.int 0)))) (m1 truB (m2 eqD (m2 ixD (mOwn 0) (mOwn 3)) (mC (.str "+")))) (Ep w d2 a (.val (.int (k : Int)))) = .ok (decide (d2 = 0) && decide (c = 43)) := andT_ok (t_eqi rfl) fun _ => t_eqn (ix d2 a) (lit1 c_plus _)
    by_cases h : (decide (d2 = 0) && decide (c = 43)) = true
    · rw [show a1 = some (k, 43) from if_pos h]
      exact (mIf_tt (t.trans (congrArg R.ok h))).trans rfl
    · rw [show a1 = a from if_neg h]
      exact (mIf_ff (t.trans (congrArg R.ok (Bool.eq_false_iff.mpr h)))).trans rfl
  have tn : mOrT (m1 truB (m2 ltD (mOwn 2) (mC (.int 0)))) (m1 truB (m2 eqD (m2 ixD (mOwn 0) (mOwn 2)) (mC (.str "*")))) (Ep w d2 a1 (.val (.int (k : Int)))) = .ok (starA a1) := by
    have lt : m1 truB (m2 ltD (mOwn 2) (mC (.int 0))) (Ep w d2 a1 (.val (.int (k : Int)))) = .ok (decide (atI' a1 < 0)) := (m1_ok (f := truB) (a := .bl (decide (atI' a1 < 0))) ((m2_ok (f := ltD) (a := .int (atI' a1)) (b := .int 0) rfl rfl).trans rfl)).trans rfl
    cases e : a1 with
    | none =>
      rw [e] at lt
      exact orT_ok (a := true) (b := true) lt fun z => nomatch z
    | some p =>
      obtain ⟨j, x⟩ := p
      rw [e] at lt f1
      have hl : decide (atI' (some (j, x)) < 0) = false := decide_eq_false (by show ¬ ((j : Int) < 0); omega)
      rw [hl] at lt
      exact orT_ok (a := false) (b := x == 42) lt fun _ => t_eqn (a := x) (b := 42) ((m2_ok (f := ixD) (a := .str (tx w)) (b := .int (j : Int)) rfl rfl).trans (ix_tx (by omega) f1)) (lit1 c_star _)
  have t : mAndT (m1 truB (m2 eqD (mOwn 1) (mC (.int 0)))) (mAndT (m1 truB (m2 eqD (m2 ixD (mOwn 0) (mOwn 3)) (mC (.str "*")))) (mOrT (m1 truB (m2 ltD (mOwn 2) (mC (.int 0)))) (m1 truB (m2 eqD (m2 ixD (mOwn 0) (mOwn 2)) (mC (.str "*")))))) (Ep w d2 a1 (.val (.int (k : Int)))) = .ok (decide (d2 = 0) && (decide (c = 42) && starA a1)) := andT_ok (t_eqi rfl) fun _ => andT_ok (t_eqn (ix d2 a1) (lit1 c_star _)) fun _ => tn
  by_cases h : (decide (d2 = 0) && (decide (c = 42) && starA a1)) = true
  · rw [show a2 = some (k, 42) from if_pos h]
    exact (mIf_tt (t.trans (congrArg R.ok h))).trans rfl
  · rw [show a2 = a1 from if_neg h]
    exact (mIf_ff (t.trans (congrArg R.ok (Bool.eq_false_iff.mpr h)))).trans rfl
theorem pp_loop {w : List Nat} (hw : w.length ≤ 1000) : ∀ (m i : Nat) (d : Int) (a : Option (Nat × Nat)) (s3 : Slot), i + m = w.length → fitsA w a →
    ∃ s3', forL (gN 3) ppbody ((List.range' i m).map fun j => D.int (j : Nat)) (Ep w d a s3) = .nx (Ep w (psc (w.drop i) i d a).1 (psc (w.drop i) i d a).2 s3') ∧ fitsA w (psc (w.drop i) i d a).2
  | 0, i, d, a, s3, h, ha => by
    rw [List.drop_eq_nil_of_le (by omega)]
    exact ⟨s3, rfl, ha⟩
  | m + 1, i, d, a, s3, h, ha => by
    have hi : i < w.length := by omega
    obtain ⟨f, hb⟩ := ppbody_ok (d := d) (a := a) hw (List.getElem?_eq_getElem hi) ha
    rw [List.drop_eq_getElem_cons hi, List.range'_succ, List.map_cons, forL_ct (e1 := Ep w d a (.val (.int (i : Nat)))) rfl (.inl hb)]
    exact pp_loop hw m (i + 1) _ _ _ (by omega) f
theorem cut_mid {x : List Nat} (hz : x.length ≤ 1000) : slD (.str (tx (40 :: (x ++ [41])))) (some 1) (some ((x.length + 1 : Nat) : Int)) = .ok (.str (tx x)) := by
  show (if (tx (40 :: (x ++ [41]))).length ≤ sizeLine then R.ok (D.str (cutS (tx (40 :: (x ++ [41]))) (some ((1 : Nat) : Int)) (some ((x.length + 1 : Nat) : Int)))) else R.stuck) = _
  rw [tx_len, if_pos (le_line (by simp; omega))]
  unfold cutS
  rw [tx_list, tx_len, HT.sIx_nat, HT.sIx_nat]
  have e1 : min 1 (40 :: (x ++ [41])).length = 1 := by simp
  have e2 : min (x.length + 1) (40 :: (x ++ [41])).length = x.length + 1 := by simp
  rw [e1, e2]
  show R.ok (D.str (tx (List.take (x.length + 1 - 1) (x ++ [41])))) = _
  rw [Nat.add_sub_cancel, List.take_left]
theorem parsed_rec {B : F1 → F1} (hB : ∀ g, B g = fnS 4 (bt_parsed g)) {k : Nat} {w : List Nat} {t : Tr} (h : Par k w t) : ∀ n, w.length < n → w.length ≤ 1000 → ∃ o, recF B n [.str (tx w)] = .ok (o, t.d) := by
  have start : ∀ (g : F1) (w : List Nat), w.length ≤ 1000 → ∃ s3, ∀ b : HEnv → SO, mSeq (mSet 1 (mC (.int 0)))
      (mSeq (mSet 2 (mC (.int (-1))))
      (mSeq (mFor (m1 range1D (mCons (m1 lenD (mOwn 0)) mNil)) (gN 3) ppbody) b)) [.val (.str (tx w)), .no, .no, .no] = b (Ep w (psc w 0 0 none).1 (psc w 0 0 none).2 s3) := fun g w hw => by
    obtain ⟨s3, h, _⟩ := pp_loop hw w.length 0 0 none .no (by omega) trivial
    rw [List.drop_zero, ← List.range_eq_range'] at h
    refine ⟨s3, fun b => (mSeq_nx (mSet_ok rfl)).trans ((mSeq_nx (mSet_ok rfl)).trans (mSeq_nx ((mFor_ok (range_of ((m1_ok (f := lenD) (a := .str (tx w)) rfl).trans (len_tx (by omega))) (by omega))).trans h)))⟩
  have ge0 : ∀ {m : HEnv → R D} {env : HEnv} {a : Option (Nat × Nat)}, m env = .ok (.int (atI' a)) → m1 truB (m2 (cmpI fun i j => decide (j ≤ i)) m (mC (.int 0))) env = .ok a.isSome := fun {m env a} h => by
    refine (m1_ok (f := truB) (a := .bl (decide (0 ≤ atI' a))) ((m2_ok (f := cmpI fun i j => decide (j ≤ i)) (a := .int (atI' a)) (b := .int 0) h rfl).trans rfl)).trans ?_
    cases a with
    | none => rfl
    | some p =>
      show R.ok (decide ((0 : Int) ≤ (p.1 : Int))) = R.ok true
      rw [decide_eq_true (by omega)]
  have split : ∀ {x v : List Nat} {s : Nat} {l r : Tr} {n : Nat} {o1 o2 : Bool}, (psc (x ++ s :: v) 0 0 none).2 = some (x.length, s) → (x ++ s :: v).length ≤ 1000 → recF B n [.str (tx x)] = .ok (o1, l.d) → recF B n [.str (tx v)] = .ok (o2, r.d) → recF B (n + 1) [.str (tx (x ++ s :: v))] = .ok (false, (Tr.nd s l r).d) := fun {x v s l r n o1 o2} hp hz h1 h2 => by
    show B (recF B n) _ = _
    rw [hB]
    obtain ⟨s3, hs⟩ := start (recF B n) (x ++ s :: v) hz
    refine fnS_rt ((hs _).trans ?_)
    rw [hp]
    have hc : (Ep (x ++ s :: v) (psc (x ++ s :: v) 0 0 none).1 (some (x.length, s)) s3)[2]? = some (.val (.int (x.length : Int))) := rfl
    refine mSeq_rt ((mIf_tt (ge0 (a := some (x.length, s)) rfl)).trans (mRet_ok (tupE_ok (mCons_ok ?_ (mCons_ok (mCall_ok (mCons_ok ?_ rfl) h1) (mCons_ok (mCall_ok (mCons_ok ?_ rfl) h2) rfl))))))
    · exact (m2_ok (f := ixD) (a := .str (tx (x ++ s :: v))) (b := .int (x.length : Int)) rfl rfl).trans (ix_tx (by omega) (by rw [List.getElem?_append_right (Nat.le_refl _), Nat.sub_self]; rfl))
    · refine sl_to (d := .str (tx (x ++ s :: v))) (a := (x.length : Int)) rfl rfl ?_
      rw [cut_to (by omega), List.take_left]
    · refine sl_from (d := .str (tx (x ++ s :: v))) (a := ((x.length + 1 : Nat) : Int)) rfl ((m2_ok (f := addD) (a := .int (x.length : Int)) (b := .int 1) rfl rfl).trans rfl) ?_
      rw [cut_from (by omega)]
      congr 3
      rw [show x ++ s :: v = x ++ [s] ++ v from by simp]
      exact List.drop_left' (by simp)
  induction h with
  | @lf c h =>
    intro n hn hz
    match n, hn with
    | n + 1, _ =>
      show ∃ o, B (recF B n) _ = _
      rw [hB]
      obtain ⟨s3, hs⟩ := start (recF B n) [c] hz
      have e := cut_none (.lf h : Par 0 [c] (.lf c))
      refine ⟨false, fnS_rt ((hs _).trans ?_)⟩
      rw [e]
      refine (mSeq_nx ((mIf_ff (ge0 (a := none) rfl)).trans rfl)).trans ?_
      refine (mSeq_nx ((mIf_ff ((t_eqn (a := c) ((m2_ok (f := ixD) (a := .str (tx [c])) (b := .int ((0 : Nat) : Int)) rfl rfl).trans (ix_tx (by simp) rfl)) (lit1 c_open _)).trans (congrArg R.ok (decide_eq_false (leaf_ne h).1)))).trans rfl)).trans (mRet_ok rfl)
  | @par w t h ih =>
    intro n hn hz
    simp only [List.length_cons, List.length_append, List.length_nil] at hn hz
    match n, hn with
    | n + 1, hn =>
      obtain ⟨o, hg⟩ := ih n (by omega) (by omega)
      show ∃ o, B (recF B n) _ = _
      rw [hB]
      obtain ⟨s3, hs⟩ := start (recF B n) (40 :: (w ++ [41])) (by simp; omega)
      have e := cut_none (.par h : Par 0 (40 :: (w ++ [41])) t)
      refine ⟨o, fnS_rt ((hs _).trans ?_)⟩
      rw [e]
      refine (mSeq_nx ((mIf_ff (ge0 (a := none) rfl)).trans rfl)).trans (mSeq_rt ?_)
      refine (mIf_tt ((t_eqn (a := 40) ((m2_ok (f := ixD) (a := .str (tx (40 :: (w ++ [41])))) (b := .int ((0 : Nat) : Int)) rfl rfl).trans (ix_tx (by simp; omega) rfl)) (lit1 c_open _)).trans rfl)).trans ?_
      have hsl : mSl slD (mOwn 0) (mPart (mC (.int 1))) (mPart (m2 subD (m1 lenD (mOwn 0)) (mC (.int 1)))) (Ep (40 :: (w ++ [41])) (psc (40 :: (w ++ [41])) 0 0 none).1 none s3) = .ok (.str (tx w)) := by
        have hp : mPart (m2 subD (m1 lenD (mOwn 0)) (mC (.int 1))) (Ep (40 :: (w ++ [41])) (psc (40 :: (w ++ [41])) 0 0 none).1 none s3) = .ok (some ((w.length + 1 : Nat) : Int)) := by
          refine part_of ((m2_ok (f := subD) (b := .int 1) ((m1_ok (f := lenD) (a := .str (tx (40 :: (w ++ [41])))) rfl).trans (len_tx (by simp; omega))) rfl).trans ?_)
          show R.ok (D.int (((40 :: (w ++ [41])).length : Int) - 1)) = _
          rw [show (((40 :: (w ++ [41])).length : Int) - 1) = ((w.length + 1 : Nat) : Int) from by simp]
        unfold mSl
        rw [show mOwn 0 (Ep (40 :: (w ++ [41])) (psc (40 :: (w ++ [41])) 0 0 none).1 none s3) = .ok (.str (tx (40 :: (w ++ [41])))) from rfl, R.bind_ok, show mPart (mC (.int 1)) (Ep (40 :: (w ++ [41])) (psc (40 :: (w ++ [41])) 0 0 none).1 none s3) = .ok (some 1) from rfl, R.bind_ok, hp, R.bind_ok]
        exact cut_mid (by omega)
      show sB _ _ _ = _
      refine (sB_ok (mCallX_ok (mCons_ok hsl rfl) hg)).trans rfl
  | fac h ih => exact ih
  | @mul w v l r h k ih1 ih2 =>
    intro n hn hz
    simp only [List.length_cons, List.length_append] at hn hz
    match n, hn with
    | n + 1, hn =>
      obtain ⟨o1, g1⟩ := ih1 n (by omega) (by omega)
      obtain ⟨o2, g2⟩ := ih2 n (by omega) (by omega)
      exact ⟨false, split (cut_mul h k) (by simp; omega) g1 g2⟩
  | trm h ih => exact ih
  | @add w v l r h k ih1 ih2 =>
    intro n hn hz
    simp only [List.length_cons, List.length_append] at hn hz
    match n, hn with
    | n + 1, hn =>
      obtain ⟨o1, g1⟩ := ih1 n (by omega) (by omega)
      obtain ⟨o2, g2⟩ := ih2 n (by omega) (by omega)
      exact ⟨false, split (cut_add h k) (by simp; omega) g1 g2⟩
end HL

/-! Plain law: wrong_at and string. -/
namespace HL
open PySem L2
theorem tab_begins : ((List.range 128).all fun c => inS (tx [c]) (Str.ofString "+*(") == (c == 43 || (c == 42 || c == 40))) = true := by decide +kernel
theorem tab_leafo : ((List.range 128).all fun c => inS (tx [c]) (Str.ofString "01ABCDEFGHIJKLMNOPQRSTUVWXYZ(") == (isLeaf c || c == 40)) = true := by decide +kernel
theorem tab_pm : ((List.range 128).all fun c => inS (tx [c]) (Str.ofString "+*") == (c == 42 || c == 43)) = true := by decide +kernel
theorem in_strV {x : Str} {c : Nat} {b : Bool} {m : HEnv → R D} {env : HEnv} (h : m env = .ok (nm c)) (k : (inS (tx [c]) x == b) = true) : m2 (inN false) m (mC (.str x)) env = .ok (.bl b) := by
  have e : inS (tx [c]) x = b := eq_of_beq k
  exact (m2_ok (f := inN false) (a := nm c) (b := .str x) h rfl).trans (by show R.ok (D.bl (inS (tx [c]) x)) = _; rw [e])
theorem v_eqn {ma mb : HEnv → R D} {env : HEnv} {a b : Nat} (h1 : ma env = .ok (nm a)) (h2 : mb env = .ok (nm b)) : m2 eqD ma mb env = .ok (.bl (decide (a = b))) := (m2_ok h1 h2).trans (eq_nm2 a b)
theorem andV_ok {a b : HEnv → R D} {env : HEnv} {x y : Bool} (h : a env = .ok (.bl x)) (k : x = true → b env = .ok (.bl y)) : mAndV a b env = .ok (.bl (x && y)) := mAndV_ok h k
theorem orV_ok {a b : HEnv → R D} {env : HEnv} {x y : Bool} (h : a env = .ok (.bl x)) (k : x = false → b env = .ok (.bl y)) : mOrV a b env = .ok (.bl (x || y)) := by
  unfold mOrV
  rw [h, R.bind_ok]
  cases x with
  | true => rfl
  | false => exact (k rfl).trans rfl
theorem int_bl {m : HEnv → R D} {env : HEnv} {b : Bool} (h : m env = .ok (.bl b)) : m1 intD m env = .ok (.int (if b = true then 1 else 0)) := m1_ok h
/-- fine -/
def fineB (c dep : Nat) (due : Bool) : Bool := (cstep c dep due).isSome
def wbody : HEnv → SO := (mSeq (mSet 4 (m2 ixD (mOwn 0) (mOwn 3)))
  (mSeq (mIfS (m1 truB (m2 eqD (mOwn 4) (mC (.str " "))))
  mCont
  mNext)
  (mSeq (mSet 5 (m2 (inN false) (mOwn 2) (mC (.str "+*("))))
  (mSeq (mSet 6 (mAndV (mVar 5) (m2 (inN false) (mOwn 4) (mC (.str "01ABCDEFGHIJKLMNOPQRSTUVWXYZ(")))))
  (mSeq (mSet 6 (mOrV (mVar 6) (mAndV (m1 notD (mVar 5)) (m2 (inN false) (mOwn 4) (mC (.str "+*"))))))
  (mSeq (mSet 6 (mOrV (mVar 6) (mAndV (m1 notD (mVar 5)) (mAndV (m2 eqD (mOwn 4) (mC (.str ")"))) (m2 (cmpI fun i j => decide (j < i)) (mOwn 1) (mC (.int 0)))))))
  (mSeq (mIfS (mNotT (m1 truD (mOwn 6)))
  (mRet (mVar 3))
  mNext)
  (mSeq (mSet 1 (m2 subD (m2 addD (mOwn 1) (m1 intD (m2 eqD (mOwn 4) (mC (.str "("))))) (m1 intD (m2 eqD (mOwn 4) (mC (.str ")"))))))
  (mSet 2 (mVar 4))))))))))
def begins (l : Nat) : Bool := l == 43 || (l == 42 || l == 40)
abbrev Ew (u : List Nat) (dep l : Nat) (s3 s4 s5 s6 : Slot) : HEnv := [.val (.str (tx u)), .val (.int (dep : Int)), .val (nm l), s3, s4, s5, s6]
theorem fine_eq (c dep : Nat) (b : Bool) : (((b && (isLeaf c || c == 40)) || (!b && (c == 42 || c == 43))) || (!b && (decide (c = 41) && decide (0 < dep)))) = (cstep c dep b).isSome := by
  unfold cstep
  have e : (c == 41) = decide (c = 41) := rfl
  rw [e]
  cases b <;> cases h1 : isLeaf c <;> cases h2 : (c == 40) <;> cases h3 : (c == 42 || c == 43) <;> cases h4 : (decide (c = 41) && decide (0 < dep)) <;> rfl
theorem fine_next {c dep d' : Nat} {b u' : Bool} (h : cstep c dep b = some (d', u')) : begins c = u' ∧ (dep : Int) + (if decide (c = 40) = true then 1 else 0) - (if decide (c = 41) = true then 1 else 0) = (d' : Int) := by
  unfold cstep at h
  split at h
  · rename_i h1
    cases h
    simp only [Bool.and_eq_true] at h1
    have n := leaf_ne h1.2
    refine ⟨?_, ?_⟩
    · simp [begins, n.1, n.2.2.1, n.2.2.2.1]
    · simp [n.1, n.2.1]
  · split at h
    · rename_i _ h2
      cases h
      simp only [Bool.and_eq_true, beq_iff_eq] at h2
      obtain ⟨_, rfl⟩ := h2
      exact ⟨rfl, by simp⟩
    · split at h
      · rename_i h3
        cases h
        simp only [Bool.and_eq_true, Bool.or_eq_true, beq_iff_eq] at h3
        rcases h3.2 with rfl | rfl
        · exact ⟨rfl, by simp⟩
        · exact ⟨rfl, by simp⟩
      · split at h
        · rename_i h4
          cases h
          simp only [Bool.and_eq_true, beq_iff_eq, decide_eq_true_eq] at h4
          obtain ⟨hb, rfl, hd⟩ := h4
          refine ⟨by cases b <;> simp_all [begins], ?_⟩
          simp
          omega
        · cases h
theorem wbody_ok {u : List Nat} {i c dep l : Nat} {s4 s5 s6 : Slot} (hu : u.length ≤ 1000) (hi : u[i]? = some c) (hc : c < 128) (hl : l < 128) :
    (c = 32 → ∃ s4', wbody (Ew u dep l (.val (.int (i : Int))) s4 s5 s6) = .ct (Ew u dep l (.val (.int (i : Int))) s4' s5 s6)) ∧
    (c ≠ 32 → ∀ d' u', cstep c dep (begins l) = some (d', u') → ∃ s4' s5' s6', wbody (Ew u dep l (.val (.int (i : Int))) s4 s5 s6) = .nx (Ew u d' c (.val (.int (i : Int))) s4' s5' s6')) ∧
    (c ≠ 32 → cstep c dep (begins l) = none → wbody (Ew u dep l (.val (.int (i : Int))) s4 s5 s6) = .rt false (.int (i : Int))) := by
  have e0 : ∀ b : HEnv → SO, mSeq (mSet 4 (m2 ixD (mOwn 0) (mOwn 3))) b (Ew u dep l (.val (.int (i : Int))) s4 s5 s6) = b (Ew u dep l (.val (.int (i : Int))) (.val (nm c)) s5 s6) := fun b =>
    mSeq_nx (mSet_ok ((m2_ok (f := ixD) (a := .str (tx u)) (b := .int (i : Int)) rfl rfl).trans (ix_tx (by omega) hi)))
  have t0 : m1 truB (m2 eqD (mOwn 4) (mC (.str " "))) (Ew u dep l (.val (.int (i : Int))) (.val (nm c)) s5 s6) = .ok (decide (c = 32)) := t_eqn rfl (lit1 c_gap _)
  have main : c ≠ 32 → wbody (Ew u dep l (.val (.int (i : Int))) s4 s5 s6) = (mSeq (mIfS (mNotT (m1 truD (mOwn 6)))
      (mRet (mVar 3))
      mNext)
      (mSeq (mSet 1 (m2 subD (m2 addD (mOwn 1) (m1 intD (m2 eqD (mOwn 4) (mC (.str "("))))) (m1 intD (m2 eqD (mOwn 4) (mC (.str ")"))))))
      (mSet 2 (mVar 4)))) (Ew u dep l (.val (.int (i : Int))) (.val (nm c)) (.val (.bl (begins l))) (.val (.bl (cstep c dep (begins l)).isSome))) := fun h => by
    unfold wbody
    rw [e0]
    refine (mSeq_nx ((mIf_ff (t0.trans (congrArg R.ok (decide_eq_false h)))).trans rfl)).trans ?_
    refine (mSeq_nx (mSet_ok (d := .bl (begins l)) (in_strV rfl (range128 tab_begins hl)))).trans ?_
    refine (mSeq_nx (mSet_ok (d := .bl (begins l && (isLeaf c || c == 40))) (andV_ok rfl fun _ => in_strV rfl (range128 tab_leafo hc)))).trans ?_
    refine (mSeq_nx (mSet_ok (d := .bl ((begins l && (isLeaf c || c == 40)) || (!begins l && (c == 42 || c == 43)))) (orV_ok rfl fun _ => andV_ok (m1_ok (f := notD) (a := .bl (begins l)) rfl) fun _ => in_strV rfl (range128 tab_pm hc)))).trans ?_
    refine (mSeq_nx (mSet_ok (d := .bl (cstep c dep (begins l)).isSome) ?_)).trans rfl
    rw [← fine_eq]
    refine orV_ok rfl fun _ => andV_ok (m1_ok (f := notD) (a := .bl (begins l)) rfl) fun _ => andV_ok (v_eqn rfl (lit1 c_close _)) fun _ => ?_
    refine (m2_ok (f := cmpI fun i j => decide (j < i)) (a := .int (dep : Int)) (b := .int 0) rfl rfl).trans ?_
    show R.ok (D.bl (decide ((0 : Int) < (dep : Int)))) = _
    congr 2
    rw [decide_eq_decide]
    omega
  refine ⟨fun h => ⟨.val (nm c), ?_⟩, fun h d' u' hs => ?_, fun h hs => ?_⟩
  · unfold wbody
    rw [e0]
    unfold mSeq
    rw [mIf_tt (t0.trans (congrArg R.ok (decide_eq_true h)))]
    rfl
  · rw [main h, hs]
    refine ⟨.val (nm c), .val (.bl (begins l)), .val (.bl true), (mSeq_nx ((mIf_ff ((notT_ok (b := true) rfl).trans rfl)).trans rfl)).trans ?_⟩
    have z := (fine_next hs).2
    refine (mSeq_nx (mSet_ok (d := .int (d' : Int)) ?_)).trans rfl
    refine (m2_ok (f := subD) ((m2_ok (f := addD) (a := .int (dep : Int)) rfl (int_bl (v_eqn rfl (lit1 c_open _)))).trans rfl) (int_bl (v_eqn rfl (lit1 c_close _)))).trans ?_
    show R.ok (D.int ((dep : Int) + (if decide (c = 40) = true then 1 else 0) - (if decide (c = 41) = true then 1 else 0))) = _
    rw [z]
  · rw [main h, hs]
    exact mSeq_rt ((mIf_tt ((notT_ok (b := false) rfl).trans rfl)).trans (mRet_ok rfl))
theorem forL_rt {g : D → HEnv → R HEnv} {b : HEnv → SO} {d x : D} {ds : List D} {env e1 : HEnv} {o : Bool} (h : g d env = .ok e1) (k : b e1 = .rt o x) : forL g b (d :: ds) env = .rt o x := by
  conv => lhs; unfold forL
  simp only [h, k]
theorem wrong_loop {u : List Nat} (hu : u.length ≤ 1000) (hc : ∀ c ∈ u, c < 128) : ∀ (m i dep l : Nat) (s3 s4 s5 s6 : Slot), i + m = u.length → l < 128 →
    match lp (u.drop i) i dep (begins l) with
    | (d', u', none) => ∃ l' s3' s4' s5' s6', l' < 128 ∧ begins l' = u' ∧ forL (gN 3) wbody ((List.range' i m).map fun j => D.int (j : Nat)) (Ew u dep l s3 s4 s5 s6) = .nx (Ew u d' l' s3' s4' s5' s6')
    | (_, _, some j) => forL (gN 3) wbody ((List.range' i m).map fun j => D.int (j : Nat)) (Ew u dep l s3 s4 s5 s6) = .rt false (.int (j : Int))
  | 0, i, dep, l, s3, s4, s5, s6, h, hl => by
    rw [List.drop_eq_nil_of_le (by omega)]
    exact ⟨l, s3, s4, s5, s6, hl, rfl, rfl⟩
  | m + 1, i, dep, l, s3, s4, s5, s6, h, hl => by
    have hi : i < u.length := by omega
    have hcc := hc _ (List.getElem_mem hi)
    obtain ⟨b1, b2, b3⟩ := wbody_ok (dep := dep) (s4 := s4) (s5 := s5) (s6 := s6) hu (List.getElem?_eq_getElem hi) hcc hl
    rw [List.drop_eq_getElem_cons hi, List.range'_succ, List.map_cons]
    generalize u[i] = c at b1 b2 b3 hcc
    unfold lp
    by_cases h32 : c = 32
    · obtain ⟨s4', hb⟩ := b1 h32
      rw [if_pos h32, forL_ct (e1 := Ew u dep l (.val (.int (i : Nat))) s4 s5 s6) rfl (.inr hb)]
      exact wrong_loop hu hc m (i + 1) dep l _ _ _ _ (by omega) hl
    · rw [if_neg h32]
      cases hs : cstep c dep (begins l) with
      | none => exact forL_rt (e1 := Ew u dep l (.val (.int (i : Nat))) s4 s5 s6) rfl (b3 h32 hs)
      | some p =>
        obtain ⟨s4', s5', s6', hb⟩ := b2 h32 p.1 p.2 hs
        rw [forL_ct (e1 := Ew u dep l (.val (.int (i : Nat))) s4 s5 s6) rfl (.inl hb)]
        have := wrong_loop hu hc m (i + 1) p.1 c (.val (.int (i : Nat))) s4' s5' s6' (by omega) hcc
        rw [(fine_next (show cstep c dep (begins l) = some (p.1, p.2) from hs)).1] at this
        exact this
/-- the place as the law gives it -/
def atW : Option Nat → Int
  | some i => (i : Int)
  | none => -1
theorem wrong_ok {u : List Nat} (hu : u.length ≤ 1000) (hc : ∀ c ∈ u, c < 128) : fnS 7 bt_wrong [.str (tx u)] = .ok (false, .int (atW (chk u 0 0 true))) := by
  have hsrc : ∀ s3, m1 range1D (mCons (m1 lenD (mOwn 0)) mNil) (Ew u 0 43 s3 .no .no .no) = .ok ((List.range' 0 u.length).map fun j => D.int (j : Nat)) := fun s3 => by
    rw [← List.range_eq_range']
    exact range_of ((m1_ok (f := lenD) (a := .str (tx u)) rfl).trans (len_tx (by omega))) (by omega)
  have h := wrong_loop hu hc u.length 0 0 43 .no .no .no .no (by omega) (by decide)
  rw [List.drop_zero, show begins 43 = true from rfl] at h
  rw [chk_lp]
  have s1 : ∀ b : HEnv → SO, mSeq (mSet 1 (mC (.int 0))) (mSeq (mSet 2 (mC (.str "+"))) b) [.val (.str (tx u)), .no, .no, .no, .no, .no, .no] = b (Ew u 0 43 .no .no .no .no) := fun b => (mSeq_nx (mSet_ok rfl)).trans (mSeq_nx (mSet_ok (lit1 c_plus _)))
  rcases hq : lp u 0 0 true with ⟨d', u', o⟩
  rw [hq] at h
  cases o with
  | some j => exact fnS_rt ((s1 _).trans (mSeq_rt ((mFor_ok (hsrc _)).trans h)))
  | none =>
    obtain ⟨l', s3, s4, s5, s6, hl, hb, h⟩ := h
    have ht : mOrT (m1 truB (m2 (inN false) (mOwn 2) (mC (.str "+*(")))) (m1 truB (m2 (cmpI fun i j => decide (j < i)) (mOwn 1) (mC (.int 0)))) (Ew u d' l' s3 s4 s5 s6) = .ok (u' || decide (0 < d')) := by
      rw [← hb]
      exact orT_ok (in_str rfl (range128 tab_begins hl)) fun _ => gt0_int rfl
    show _ = R.ok (false, D.int (atW (if (u' || decide (0 < d')) = true then some (0 + u.length) else none)))
    cases hv : (u' || decide (0 < d')) with
    | true =>
      rw [if_pos rfl, Nat.zero_add]
      exact fnS_rt ((s1 _).trans ((mSeq_nx ((mFor_ok (hsrc _)).trans h)).trans (mSeq_rt ((mIf_tt (ht.trans (congrArg R.ok hv))).trans (mRet_ok ((m1_ok (f := lenD) (a := .str (tx u)) rfl).trans (len_tx (by omega))))))))
    | false =>
      rw [if_neg (by decide)]
      exact fnS_rt ((s1 _).trans ((mSeq_nx ((mFor_ok (hsrc _)).trans h)).trans ((mSeq_nx ((mIf_ff (ht.trans (congrArg R.ok hv))).trans rfl)).trans (mRet_ok rfl))))
end HL

/-! Plain law: letters picked out of written texts; a text times an int; the drawn text of k16. -/
namespace HL
open PySem L2
theorem mul_one (c : Nat) (n : Int) : Txt.mul (tx [c]) n = tx (List.replicate n.toNat c) := by
  have gen : ∀ (k : Nat) (acc : Array Nat), (List.replicate k (#[c] : Array Nat)).foldl (· ++ ·) acc = acc ++ (List.replicate k c).toArray := by
    intro k
    induction k with
    | zero => intro acc; simp
    | succ k ih =>
      intro acc
      rw [List.replicate_succ, List.foldl_cons, ih, List.replicate_succ]
      apply Array.ext'
      rw [Array.toList_append, Array.toList_append, Array.toList_append]
      simp only [List.append_assoc]
      rfl
  unfold Txt.mul
  by_cases h : n < 1
  · rw [if_pos h, show n.toNat = 0 from by omega]
    rfl
  · rw [if_neg h]
    by_cases h1 : (n == 1 || (tx [c]).length == 0) = true
    · rw [if_pos h1]
      have : n = 1 := by
        simp only [Bool.or_eq_true, beq_iff_eq] at h1
        rcases h1 with h1 | h1
        · exact h1
        · rw [tx_len] at h1
          simp at h1
      subst this
      rfl
    · rw [if_neg h1]
      have := gen n.toNat #[]
      show (⟨(List.replicate n.toNat #[c]).foldl (· ++ ·) #[]⟩ : Str) = _
      rw [this]
      simp [tx]
theorem mulS_one {x : Str} {c : Nat} (hx : x = tx [c]) {m : HEnv → R D} {env : HEnv} {n : Int} (h : m env = .ok (.int n)) (h1 : -1000 ≤ n) (h2 : n ≤ 1000) : m2 mulSD (mC (.str x)) m env = .ok (.str (tx (List.replicate n.toNat c))) := by
  subst hx
  refine (m2_ok (f := mulSD) (a := .str (tx [c])) rfl h).trans ?_
  show (if (tx [c]).length ≤ 100 ∧ -1000 ≤ n ∧ n ≤ 1000 then R.ok (D.str (Txt.mul (tx [c]) n)) else R.stuck) = _
  rw [if_pos ⟨by rw [tx_len]; simp, h1, h2⟩, mul_one]
theorem pickS {x : Str} {ls : List Nat} (hx : x = tx ls) {m : HEnv → R D} {env : HEnv} {p : Int} (h : m env = .ok (.int p)) {n : Int} (hn : n = (ls.length : Int)) (h0 : 0 < ls.length) (hl : ls.length ≤ 1000) : ∃ c ∈ ls, m2 ixD (mC (.str x)) (m2 modD m (mC (.int n))) env = .ok (nm c) := by
  subst hx
  subst hn
  have q1 := Int.emod_nonneg p (b := (ls.length : Int)) (by omega)
  have q2 := Int.emod_lt_of_pos p (b := (ls.length : Int)) (by omega)
  have z := mod_lit h (b := (ls.length : Int)) (by omega)
  obtain ⟨j, ej⟩ : ∃ j : Nat, p % (ls.length : Int) = (j : Int) := ⟨(p % (ls.length : Int)).toNat, by omega⟩
  have hj : j < ls.length := by omega
  rw [ej] at z
  exact ⟨ls[j], List.getElem_mem hj, (m2_ok (f := ixD) (a := .str (tx ls)) (b := .int (j : Int)) rfl z).trans (ix_tx (by omega) (List.getElem?_eq_getElem hj))⟩
theorem s_ops : (Str.ofString "*+*+) *+") = tx [42, 43, 42, 43, 41, 32, 42, 43] := by decide +kernel
theorem s_due : (Str.ofString "AB(01 XA") = tx [65, 66, 40, 48, 49, 32, 88, 65] := by decide +kernel
theorem s_odd : (Str.ofString "AZ01()*+ a2-[") = tx [65, 90, 48, 49, 40, 41, 42, 43, 32, 97, 50, 45, 91] := by decide +kernel
theorem s_A : (Str.ofString "A") = tx [65] := by decide +kernel
theorem tab_opo : ((List.range 128).all fun c => inS (tx [c]) (Str.ofString "(*+") == (c == 40 || (c == 42 || c == 43))) = true := by decide +kernel
def sbody : HEnv → SO := (mSeq (mSet 5 (m1 intD (m2 ixD (mOwn 0) (m2 addD (mC (.int 1)) (mOwn 4)))))
  (mSeq (mSet 6 (m2 ixD (mC (.str "*+*+) *+")) (m2 modD (mOwn 5) (mC (.int 8)))))
  (mSeq (mIfS (m1 truD (mOwn 3))
  (mSet 6 (m2 ixD (mC (.str "AB(01 XA")) (m2 modD (mOwn 5) (mC (.int 8)))))
  mNext)
  (mSeq (mIfS (m1 truB (m2 eqD (m2 modD (m2 divD (mOwn 5) (mC (.int 8))) (mC (.int 15))) (mC (.int 7))))
  (mSet 6 (m2 ixD (mC (.str "AZ01()*+ a2-[")) (m2 modD (m2 divD (mOwn 5) (mC (.int 120))) (mC (.int 13)))))
  mNext)
  (mSeq (mSet 2 (m2 subD (m2 addD (mOwn 2) (m1 intD (m2 eqD (mOwn 6) (mC (.str "("))))) (m1 intD (m2 eqD (mOwn 6) (mC (.str ")"))))))
  (mSeq (mSet 3 (mOrV (m2 (inN false) (mOwn 6) (mC (.str "(*+"))) (mAndV (m2 eqD (mOwn 6) (mC (.str " "))) (mVar 3))))
  (mSet 1 (m2 addD (mOwn 1) (mOwn 6)))))))))
abbrev Es (cs : List Int) (u : List Nat) (d : Int) (b : Bool) (s4 s5 s6 : Slot) : HEnv := [.val (.lst (cs.map D.int)), .val (.str (tx u)), .val (.int d), .val (.bl b), s4, s5, s6]
theorem sbody_ok {cs : List Int} {u : List Nat} {d : Int} {b : Bool} {s5 s6 : Slot} {k : Nat} (hk : 1 + k < cs.length) (hu : ∀ c ∈ u, c < 128) (hul : u.length = k) (hd : -(k : Int) ≤ d ∧ d ≤ (k : Int)) (hk2 : k ≤ 1000) :
    ∃ u' d' b' s5' s6', (∀ c ∈ u', c < 128) ∧ u'.length = k + 1 ∧ (-(k + 1 : Int) ≤ d' ∧ d' ≤ (k + 1 : Int)) ∧ sbody (Es cs u d b (.val (.int (k : Int))) s5 s6) = .nx (Es cs u' d' b' (.val (.int (k : Int))) s5' s6') := by
  have h5 : m1 intD (m2 ixD (mOwn 0) (m2 addD (mC (.int 1)) (mOwn 4))) (Es cs u d b (.val (.int (k : Int))) s5 s6) = .ok (.int cs[1 + k]) :=
    int_of ((m2_ok (f := ixD) (a := .lst (cs.map D.int)) (b := .int ((1 + k : Nat) : Int)) rfl ((m2_ok (f := addD) (a := .int 1) (b := .int (k : Int)) rfl rfl).trans (by show R.ok (D.int (1 + (k : Int))) = _; congr 2))).trans (ix_lst (by rw [List.getElem?_map, List.getElem?_eq_getElem hk]; rfl)))
  generalize cs[1 + k] = p at h5
  obtain ⟨c1, m1', h6⟩ := pickS s_ops (m := mOwn 5) (env := Es cs u d b (.val (.int (k : Int))) (.val (.int p)) s6) (p := p) rfl (n := 8) rfl (by decide) (by decide)
  have hc1 : c1 < 128 := by simp at m1'; omega
  have st3 : ∃ c2, c2 < 128 ∧ mIfS (m1 truD (mOwn 3)) (mSet 6 (m2 ixD (mC (.str "AB(01 XA")) (m2 modD (mOwn 5) (mC (.int 8))))) mNext (Es cs u d b (.val (.int (k : Int))) (.val (.int p)) (.val (nm c1))) = .nx (Es cs u d b (.val (.int (k : Int))) (.val (.int p)) (.val (nm c2))) := by
    cases b with
    | true =>
      obtain ⟨c, m, h⟩ := pickS s_due (m := mOwn 5) (env := Es cs u d true (.val (.int (k : Int))) (.val (.int p)) (.val (nm c1))) (p := p) rfl (n := 8) rfl (by decide) (by decide)
      exact ⟨c, by simp at m; omega, (mIf_tt rfl).trans (mSet_ok h)⟩
    | false => exact ⟨c1, hc1, (mIf_ff rfl).trans rfl⟩
  obtain ⟨c2, hc2, h7⟩ := st3
  have st4 : ∃ c3, c3 < 128 ∧ mIfS (m1 truB (m2 eqD (m2 modD (m2 divD (mOwn 5) (mC (.int 8))) (mC (.int 15))) (mC (.int 7)))) (mSet 6 (m2 ixD (mC (.str "AZ01()*+ a2-[")) (m2 modD (m2 divD (mOwn 5) (mC (.int 120))) (mC (.int 13))))) mNext (Es cs u d b (.val (.int (k : Int))) (.val (.int p)) (.val (nm c2))) = .nx (Es cs u d b (.val (.int (k : Int))) (.val (.int p)) (.val (nm c3))) := by
    have t := t_eqi (b := 7) (mod_lit (div_lit (m := mOwn 5) (env := Es cs u d b (.val (.int (k : Int))) (.val (.int p)) (.val (nm c2))) (a := p) rfl (b := 8) (by decide) (by decide)) (b := 15) (by decide))
    by_cases h : p / 8 % 15 = 7
    · obtain ⟨c, m, h2⟩ := pickS s_odd (div_lit (m := mOwn 5) (env := Es cs u d b (.val (.int (k : Int))) (.val (.int p)) (.val (nm c2))) (a := p) rfl (b := 120) (by decide) (by decide)) (n := 13) rfl (by decide) (by decide)
      exact ⟨c, by simp at m; omega, (mIf_tt (t.trans (congrArg R.ok (decide_eq_true h)))).trans (mSet_ok h2)⟩
    · exact ⟨c2, hc2, (mIf_ff (t.trans (congrArg R.ok (decide_eq_false h)))).trans rfl⟩
  obtain ⟨c3, hc3, h8⟩ := st4
  have h9 : m2 subD (m2 addD (mOwn 2) (m1 intD (m2 eqD (mOwn 6) (mC (.str "("))))) (m1 intD (m2 eqD (mOwn 6) (mC (.str ")")))) (Es cs u d b (.val (.int (k : Int))) (.val (.int p)) (.val (nm c3))) = .ok (.int (d + (if decide (c3 = 40) = true then 1 else 0) - (if decide (c3 = 41) = true then 1 else 0))) :=
    (m2_ok (f := subD) ((m2_ok (f := addD) (a := .int d) rfl (int_bl (v_eqn rfl (lit1 c_open _)))).trans rfl) (int_bl (v_eqn rfl (lit1 c_close _)))).trans rfl
  refine ⟨u ++ [c3], d + (if decide (c3 = 40) = true then 1 else 0) - (if decide (c3 = 41) = true then 1 else 0), (c3 == 40 || (c3 == 42 || c3 == 43)) || (decide (c3 = 32) && b), .val (.int p), .val (nm c3), fun c h => ?_, by rw [List.length_append, hul]; rfl, ?_, ?_⟩
  · rcases List.mem_append.mp h with h | h
    · exact hu c h
    · rw [List.mem_singleton] at h
      omega
  · split <;> split <;> omega
  · refine (mSeq_nx (mSet_ok h5)).trans ((mSeq_nx (mSet_ok h6)).trans ((mSeq_nx h7).trans ((mSeq_nx h8).trans ((mSeq_nx (mSet_ok h9)).trans ?_))))
    refine (mSeq_nx (mSet_ok (d := .bl ((c3 == 40 || (c3 == 42 || c3 == 43)) || (decide (c3 = 32) && b))) (orV_ok (in_strV rfl (range128 tab_opo hc3)) fun _ => andV_ok (v_eqn rfl (lit1 c_gap _)) fun _ => rfl))).trans ?_
    exact mSet_ok ((m2_ok (f := addD) (a := .str (tx u)) (b := .str (tx [c3])) rfl rfl).trans (add_tx (by simp; omega)))
theorem string_ok {cs : List Int} (hl : cs.length = 24) : ∃ u : List Nat, (∀ c ∈ u, c < 128) ∧ u.length ≤ 41 ∧ fnS 7 bt_string [.lst (cs.map D.int)] = .ok (false, .str (tx u)) := by
  have q1 := Int.emod_nonneg cs[0] (b := 21) (by decide)
  have q2 := Int.emod_lt_of_pos cs[0] (b := 21) (by decide)
  obtain ⟨n, en⟩ : ∃ n : Nat, cs[0] % 21 = (n : Int) := ⟨(cs[0] % 21).toNat, by omega⟩
  have hn : n ≤ 20 := by omega
  obtain ⟨e, h1, u, d, b, s4, s5, s6, hu, hul, hd, he⟩ := forL_ind (g := gN 4) (b := sbody) (fun j env => ∃ u d b s4 s5 s6, (∀ c ∈ u, c < 128) ∧ u.length = j ∧ (-(j : Int) ≤ d ∧ d ≤ (j : Int)) ∧ env = Es cs u d b s4 s5 s6)
    (ds := (List.range n).map fun i => D.int (i : Nat)) (j := 0) (env := Es cs [] 0 true .no .no .no) ⟨[], 0, true, .no, .no, .no, fun c h => by simp at h, rfl, ⟨by decide, by decide⟩, rfl⟩ fun i x env hx ⟨u, d, b, s4, s5, s6, hu, hul, hd, he⟩ => by
      rw [List.getElem?_map] at hx
      have hi : i < n := by
        by_cases z : i < n
        · exact z
        · rw [List.getElem?_eq_none (by rw [List.length_range]; omega)] at hx
          cases hx
      rw [List.getElem?_range hi] at hx
      cases hx
      subst he
      rw [Nat.zero_add] at hul hd ⊢
      obtain ⟨u', d', b', s5', s6', a1, a2, a3, a4⟩ := sbody_ok (cs := cs) (u := u) (d := d) (b := b) (s5 := s5) (s6 := s6) (k := i) (by omega) hu hul hd (by omega)
      exact ⟨_, _, rfl, .inl a4, u', d', b', _, s5', s6', a1, a2, by rw [show ((i + 1 : Nat) : Int) = (i : Int) + 1 from rfl]; exact a3, rfl⟩
  rw [Nat.zero_add, List.length_map, List.length_range] at hul hd
  subst he
  have hsrc : ∀ s1 s2 s3 : Slot, m1 range1D (mCons (m2 modD (m1 intD (m2 ixD (mOwn 0) (mC (.int 0)))) (mC (.int 21))) mNil) [.val (.lst (cs.map D.int)), s1, s2, s3, .no, .no, .no] = .ok ((List.range n).map fun i => D.int (i : Nat)) := fun s1 s2 s3 => by
    have z := mod_lit (int_of (cell_at (i := 0) (cs := cs) (env := [.val (.lst (cs.map D.int)), s1, s2, s3, .no, .no, .no]) rfl 0 (by omega))) (b := 21) (by decide)
    rw [en] at z
    exact range_of z (by omega)
  have s1 : ∀ k : HEnv → SO, mSeq (mSet 1 (mC (.str ""))) (mSeq (mSet 2 (mC (.int 0))) (mSeq (mSet 3 (mC (.bl true))) (mSeq (mFor (m1 range1D (mCons (m2 modD (m1 intD (m2 ixD (mOwn 0) (mC (.int 0)))) (mC (.int 21))) mNil)) (gN 4) sbody) k))) [.val (.lst (cs.map D.int)), .no, .no, .no, .no, .no, .no] = k (Es cs u d b s4 s5 s6) := fun k =>
    (mSeq_nx (mSet_ok (congrArg (fun s => R.ok (D.str s)) empty_tx))).trans ((mSeq_nx (mSet_ok rfl)).trans ((mSeq_nx (mSet_ok rfl)).trans (mSeq_nx ((mFor_ok (hsrc _ _ _)).trans h1))))
  have t := t_eqi (b := 1) (mod_lit (int_of (cell_at (i := 0) (cs := cs) (env := Es cs u d b s4 s5 s6) rfl 22 (by omega))) (b := 2) (by decide))
  by_cases h : cs[22] % 2 = 1
  · have hA : m2 mulSD (mC (.str "A")) (m1 intD (mOwn 3)) (Es cs u d b s4 s5 s6) = .ok (.str (tx (List.replicate (if b = true then 1 else 0 : Int).toNat 65))) := mulS_one s_A (int_bl rfl) (by split <;> omega) (by split <;> omega)
    have hB : m2 mulSD (mC (.str ")")) (mOwn 2) (Es cs u d b s4 s5 s6) = .ok (.str (tx (List.replicate d.toNat 41))) := mulS_one c_close rfl (by omega) (by omega)
    have lA : (List.replicate (if b = true then 1 else 0 : Int).toNat 65).length ≤ 1 := by
      rw [List.length_replicate]
      split <;> decide
    have lB : (List.replicate d.toNat 41).length ≤ 20 := by
      rw [List.length_replicate]
      omega
    refine ⟨u ++ List.replicate (if b = true then 1 else 0 : Int).toNat 65 ++ List.replicate d.toNat 41, fun c hc => ?_, ?_, fnS_rt ((s1 _).trans ((mSeq_nx ((mIf_tt (t.trans (congrArg R.ok (decide_eq_true h)))).trans (mSet_ok ?_))).trans (mRet_ok rfl)))⟩
    · simp only [List.mem_append] at hc
      rcases hc with (hc | hc) | hc
      · exact hu c hc
      · rw [List.eq_of_mem_replicate hc]; decide
      · rw [List.eq_of_mem_replicate hc]; decide
    · rw [List.length_append, List.length_append]
      omega
    · refine (m2_ok (f := addD) ((m2_ok (f := addD) (a := .str (tx u)) rfl hA).trans (add_tx (by omega))) hB).trans (add_tx ?_)
      rw [List.length_append]
      omega
  · exact ⟨u, hu, by omega, fnS_rt ((s1 _).trans ((mSeq_nx ((mIf_ff (t.trans (congrArg R.ok (decide_eq_false h)))).trans rfl)).trans (mRet_ok rfl)))⟩
end HL

namespace Gk16
open PySem PySem.Spec PyProof.Rows L2 HL
def top (i : Nat) : Stmt := PySem.Challenge.pw_headless_k16_texts_of_no_term.main.body.getD i (.Pass ⟨0, 0, 0, 0⟩)
def clsBody : Stmt → List Stmt
  | .ClassDef _ _ _ b _ _ _ _ _ _ _ => b
  | _ => []
abbrev s__law_string : Stmt := top 65
abbrev s__law_drawn : Stmt := top 59
abbrev s__law_wrong_at : Stmt := top 64
abbrev s__law_parsed : Stmt := top 63
abbrev s__law_leaves_of : Stmt := top 60
abbrev s_check_text : Stmt := top 34
abbrev s_leaves : Stmt := top 37
abbrev s_read_tree : Stmt := top 33
abbrev s__law_told : Stmt := top 61
abbrev s_Term___init__ : Stmt := (clsBody (top 57)).getD 0 (.Pass ⟨0, 0, 0, 0⟩)
abbrev s_Term_read : Stmt := (clsBody (top 57)).getD 1 (.Pass ⟨0, 0, 0, 0⟩)
abbrev s__law_term_told : Stmt := top 62
abbrev s_law : Stmt := top 66
/-- _law_string -/
def b__law_string  : HEnv → SO :=
  (mSeq (mSet 1 (mC (.str "")))
  (mSeq (mSet 2 (mC (.int 0)))
  (mSeq (mSet 3 (mC (.bl true)))
  (mSeq (mFor (m1 range1D (mCons (m2 modD (m1 intD (m2 ixD (mOwn 0) (mC (.int 0)))) (mC (.int 21))) mNil)) (gN 4)
  (mSeq (mSet 5 (m1 intD (m2 ixD (mOwn 0) (m2 addD (mC (.int 1)) (mOwn 4)))))
  (mSeq (mSet 6 (m2 ixD (mC (.str "*+*+) *+")) (m2 modD (mOwn 5) (mC (.int 8)))))
  (mSeq (mIfS (m1 truD (mOwn 3))
  (mSet 6 (m2 ixD (mC (.str "AB(01 XA")) (m2 modD (mOwn 5) (mC (.int 8)))))
  mNext)
  (mSeq (mIfS (m1 truB (m2 eqD (m2 modD (m2 divD (mOwn 5) (mC (.int 8))) (mC (.int 15))) (mC (.int 7))))
  (mSet 6 (m2 ixD (mC (.str "AZ01()*+ a2-[")) (m2 modD (m2 divD (mOwn 5) (mC (.int 120))) (mC (.int 13)))))
  mNext)
  (mSeq (mSet 2 (m2 subD (m2 addD (mOwn 2) (m1 intD (m2 eqD (mOwn 6) (mC (.str "("))))) (m1 intD (m2 eqD (mOwn 6) (mC (.str ")"))))))
  (mSeq (mSet 3 (mOrV (m2 (inN false) (mOwn 6) (mC (.str "(*+"))) (mAndV (m2 eqD (mOwn 6) (mC (.str " "))) (mVar 3))))
  (mSet 1 (m2 addD (mOwn 1) (mOwn 6))))))))))
  (mSeq (mIfS (m1 truB (m2 eqD (m2 modD (m1 intD (m2 ixD (mOwn 0) (mC (.int 22)))) (mC (.int 2))) (mC (.int 1))))
  (mSet 1 (m2 addD (m2 addD (mOwn 1) (m2 mulSD (mC (.str "A")) (m1 intD (mOwn 3)))) (m2 mulSD (mC (.str ")")) (mOwn 2))))
  mNext)
  (mRet (mVar 1)))))))
/-- _law_drawn -/
def b__law_drawn  : HEnv → SO :=
  (mSeq (mSet 3 (mLstE (mCons (mC (.int 1234)) (mCons (mC (.int 4021)) (mCons (mC (.int 777)) (mCons (mC (.int 2906)) (mCons (mC (.int 3315)) (mCons (mC (.int 158)) (mCons (mC (.int 4712)) (mCons (mC (.int 2089)) (mCons (mC (.int 3640)) (mCons (mC (.int 915)) (mCons (mC (.int 1782)) (mCons (mC (.int 4463)) (mCons (mC (.int 2531)) mNil)))))))))))))))
  (mSeq (mSet 3 (m2 addD (mOwn 3) (mLstE (mCons (mC (.int 606)) (mCons (mC (.int 3877)) (mCons (mC (.int 1409)) (mCons (mC (.int 4950)) (mCons (mC (.int 263)) (mCons (mC (.int 3128)) (mCons (mC (.int 2214)) (mCons (mC (.int 4347)) (mCons (mC (.int 1071)) (mCons (mC (.int 3599)) (mCons (mC (.int 880)) (mCons (mC (.int 2752)) mNil)))))))))))))))
  (mSeq (mSet 3 (m2 addD (mOwn 3) (mLstE (mCons (mC (.int 4126)) (mCons (mC (.int 1513)) (mCons (mC (.int 3006)) (mCons (mC (.int 4888)) (mCons (mC (.int 391)) (mCons (mC (.int 2465)) (mCons (mC (.int 1690)) (mCons (mC (.int 3754)) (mCons (mC (.int 4219)) (mCons (mC (.int 542)) (mCons (mC (.int 2837)) (mCons (mC (.int 1176)) mNil)))))))))))))))
  (mSeq (mSet 3 (m2 addD (mOwn 3) (mLstE (mCons (mC (.int 4605)) (mCons (mC (.int 3281)) (mCons (mC (.int 98)) (mCons (mC (.int 1955)) (mCons (mC (.int 4074)) (mCons (mC (.int 2698)) (mCons (mC (.int 3433)) (mCons (mC (.int 721)) (mCons (mC (.int 4790)) (mCons (mC (.int 1347)) (mCons (mC (.int 2020)) (mCons (mC (.int 3916)) mNil)))))))))))))))
  (mSeq (mSet 3 (m2 addD (mOwn 3) (mLstE (mCons (mC (.int 1661)) (mCons (mC (.int 4532)) (mCons (mC (.int 305)) (mCons (mC (.int 2983)) (mCons (mC (.int 3702)) (mCons (mC (.int 1128)) (mCons (mC (.int 4251)) (mCons (mC (.int 2376)) (mCons (mC (.int 649)) (mCons (mC (.int 3067)) (mCons (mC (.int 1894)) (mCons (mC (.int 4813)) mNil)))))))))))))))
  (mSeq (mSet 4 (mC (.int 0)))
  (mSeq (mIfS (m1 truB (m2 ltD (mOwn 1) (m1 lenD (mOwn 0))))
  (mSet 4 (m1 intD (m2 ixD (mOwn 0) (mOwn 1))))
  mNext)
  (mSeq (mIfS (m1 truB (m2 ltD (mOwn 4) (m2 powD (mC (.int 10)) (mC (.int 18)))))
  (mSeq (mSet 5 (m2 addD (m2 modD (m1 intD (mOwn 4)) (mC (.int 1009))) (mC (.int 1))))
  (mRetN (mComp [7] (m1 range1D (mCons (mVar 2) mNil)) (gN 7) mYes (m2 modD (m1 intD (m2 mulD (mOwn 5) (m2 ixD (mOwn 3) (m2 modD (m2 addD (mOwn 7) (m2 mulD (mC (.int 7)) (mOwn 1))) (mC (.int 61)))))) (mC (.int 5039))))))
  mNext)
  (mSeq (mSetN 6 (mLstE mNil))
  (mSeq (mFor (m1 range1D (mCons (mVar 2) mNil)) (gN 7)
  (mSeq (mOwn1 6 (tyL "list") appD (m2 modD (m1 intD (mOwn 4)) (mC (.int 5040))))
  (mSet 4 (m2 divD (mOwn 4) (mC (.int 5040))))))
  (mRetOwn 6)))))))))))
/-- _law_wrong_at -/
def b__law_wrong_at  : HEnv → SO :=
  (mSeq (mSet 1 (mC (.int 0)))
  (mSeq (mSet 2 (mC (.str "+")))
  (mSeq (mFor (m1 range1D (mCons (m1 lenD (mOwn 0)) mNil)) (gN 3)
  (mSeq (mSet 4 (m2 ixD (mOwn 0) (mOwn 3)))
  (mSeq (mIfS (m1 truB (m2 eqD (mOwn 4) (mC (.str " "))))
  mCont
  mNext)
  (mSeq (mSet 5 (m2 (inN false) (mOwn 2) (mC (.str "+*("))))
  (mSeq (mSet 6 (mAndV (mVar 5) (m2 (inN false) (mOwn 4) (mC (.str "01ABCDEFGHIJKLMNOPQRSTUVWXYZ(")))))
  (mSeq (mSet 6 (mOrV (mVar 6) (mAndV (m1 notD (mVar 5)) (m2 (inN false) (mOwn 4) (mC (.str "+*"))))))
  (mSeq (mSet 6 (mOrV (mVar 6) (mAndV (m1 notD (mVar 5)) (mAndV (m2 eqD (mOwn 4) (mC (.str ")"))) (m2 (cmpI fun i j => decide (j < i)) (mOwn 1) (mC (.int 0)))))))
  (mSeq (mIfS (mNotT (m1 truD (mOwn 6)))
  (mRet (mVar 3))
  mNext)
  (mSeq (mSet 1 (m2 subD (m2 addD (mOwn 1) (m1 intD (m2 eqD (mOwn 4) (mC (.str "("))))) (m1 intD (m2 eqD (mOwn 4) (mC (.str ")"))))))
  (mSet 2 (mVar 4)))))))))))
  (mSeq (mIfS (mOrT (m1 truB (m2 (inN false) (mOwn 2) (mC (.str "+*(")))) (m1 truB (m2 (cmpI fun i j => decide (j < i)) (mOwn 1) (mC (.int 0)))))
  (mRet (m1 lenD (mOwn 0)))
  mNext)
  (mRet (mC (.int (-1))))))))
/-- _law_parsed -/
def b__law_parsed (f__law_parsed : List D → R (Bool × D)) : HEnv → SO :=
  (mSeq (mSet 1 (mC (.int 0)))
  (mSeq (mSet 2 (mC (.int (-1))))
  (mSeq (mFor (m1 range1D (mCons (m1 lenD (mOwn 0)) mNil)) (gN 3)
  (mSeq (mIfS (m1 truB (m2 eqD (m2 ixD (mOwn 0) (mOwn 3)) (mC (.str "("))))
  (mSet 1 (m2 addD (mOwn 1) (mC (.int 1))))
  mNext)
  (mSeq (mIfS (m1 truB (m2 eqD (m2 ixD (mOwn 0) (mOwn 3)) (mC (.str ")"))))
  (mSet 1 (m2 subD (mOwn 1) (mC (.int 1))))
  mNext)
  (mSeq (mIfS (mAndT (m1 truB (m2 eqD (mOwn 1) (mC (.int 0)))) (m1 truB (m2 eqD (m2 ixD (mOwn 0) (mOwn 3)) (mC (.str "+")))))
  (mSet 2 (mVar 3))
  mNext)
  (mIfS (mAndT (m1 truB (m2 eqD (mOwn 1) (mC (.int 0)))) (mAndT (m1 truB (m2 eqD (m2 ixD (mOwn 0) (mOwn 3)) (mC (.str "*")))) (mOrT (m1 truB (m2 ltD (mOwn 2) (mC (.int 0)))) (m1 truB (m2 eqD (m2 ixD (mOwn 0) (mOwn 2)) (mC (.str "*")))))))
  (mSet 2 (mVar 3))
  mNext)))))
  (mSeq (mIfS (m1 truB (m2 (cmpI fun i j => decide (j ≤ i)) (mOwn 2) (mC (.int 0))))
  (mRet (mTupE (mCons (m2 ixD (mOwn 0) (mOwn 2)) (mCons (mCall f__law_parsed (mCons (mSl slD (mOwn 0) mNoPart (mPart (mVar 2))) mNil)) (mCons (mCall f__law_parsed (mCons (mSl slD (mOwn 0) (mPart (m2 addD (mOwn 2) (mC (.int 1)))) mNoPart) mNil)) mNil)))))
  mNext)
  (mSeq (mIfS (m1 truB (m2 eqD (m2 ixD (mOwn 0) (mC (.int 0))) (mC (.str "("))))
  (mRetX (mCallX f__law_parsed (mCons (mSl slD (mOwn 0) (mPart (mC (.int 1))) (mPart (m2 subD (m1 lenD (mOwn 0)) (mC (.int 1))))) mNil)))
  mNext)
  (mRet (mVar 0)))))))
/-- _law_leaves_of -/
def b__law_leaves_of (f__law_leaves_of : List D → R (Bool × D)) : HEnv → SO :=
  (mSeq (mIfS (m1 truD (m1 (isiD "str") (mOwn 0)))
  (mRetN (mLstE (mCons (mVar 0) mNil)))
  mNext)
  (mRet (m2 addD (mCall f__law_leaves_of (mCons (m2 ixD (mOwn 0) (mC (.int 1))) mNil)) (mCall f__law_leaves_of (mCons (m2 ixD (mOwn 0) (mC (.int 2))) mNil)))))
/-- check_text -/
def b_check_text  : HEnv → SO :=
  (mSeq (mAsg (mTupE (mCons (mC (.int 0)) (mCons (mC (.bl true)) mNil))) (gTupD (gsCons (gN 1) (gsCons (gN 2) gsNil))))
  (mSeq (mFor (m1 range1D (mCons (m1 lenD (mOwn 0)) mNil)) (gN 3)
  (mSeq (mSet 4 (m2 ixD (mOwn 0) (mOwn 3)))
  (mSeq (mIfS (m1 truB (m2 eqD (mOwn 4) (mC (.str " "))))
  mCont
  mNext)
  (mIfS (mAndT (m1 truD (mOwn 2)) (mOrT (m1 truB (m2 (inN false) (mOwn 4) (mC (.str "ABCDEFGHIJKLMNOPQRSTUVWXYZ")))) (m1 truB (m2 (inN false) (mOwn 4) (mC (.str "01"))))))
  (mSet 2 (mC (.bl false)))
  (mIfS (mAndT (m1 truD (mOwn 2)) (m1 truB (m2 eqD (mOwn 4) (mC (.str "(")))))
  (mAugI addI 1 (mC (.int 1)))
  (mIfS (mAndT (mNotT (m1 truD (mOwn 2))) (m1 truB (m2 (inN false) (mOwn 4) (mC (.str "*+")))))
  (mSet 2 (mC (.bl true)))
  (mIfS (mAndT (mNotT (m1 truD (mOwn 2))) (mAndT (m1 truB (m2 eqD (mOwn 4) (mC (.str ")")))) (m1 truB (m2 (cmpI fun i j => decide (j < i)) (mOwn 1) (mC (.int 0))))))
  (mAugI subI 1 (mC (.int 1)))
  (mRaise "Unread" "at" (mVar 3)))))))))
  (mIfS (mOrT (m1 truD (mOwn 2)) (m1 truB (m2 (cmpI fun i j => decide (j < i)) (mOwn 1) (mC (.int 0)))))
  (mRaise "Unread" "at" (m1 lenD (mOwn 0)))
  mNext)))
/-- leaves -/
def b_leaves (f_leaves : List D → R (Bool × D)) : HEnv → SO :=
  (mSeq (mIfS (m1 truD (m1 (isiD "str") (mOwn 0)))
  (mRetN (mLstE (mCons (mVar 0) mNil)))
  mNext)
  (mRet (m2 addD (mCall f_leaves (mCons (m2 ixD (mOwn 0) (mC (.int 1))) mNil)) (mCall f_leaves (mCons (m2 ixD (mOwn 0) (mC (.int 2))) mNil)))))
/-- read_tree -/
def b_read_tree (f_check_text : List D → R (Bool × D)) (f_leaves : List D → R (Bool × D)) : HEnv → SO :=
  (mSeq (mIfS (m1 truB (m2 (cmpI fun i j => decide (j < i)) (m1 lenD (mOwn 0)) (mC (.int 80))))
  (mRaise "TooMany" "limit" (mC (.int 80)))
  mNext)
  (mSeq (mDo (mCall f_check_text (mCons (mVar 0) mNil)))
  (mSeq (mParN 1 2 (mLstE mNil) (mLstE mNil))
  (mSeq (mFor (m1 itemsD (mJoinS [(mC (.str "(")), (mFmt (m1 (replD " " "") (mVar 0))), (mC (.str ")"))] Str.empty)) (gN 3)
  (mIfS (m1 truB (m2 eqD (mOwn 3) (mC (.str "("))))
  (mOwn1 2 (tyL "list") appD (mVar 3))
  (mIfS (m1 truB (m2 (inN true) (mOwn 3) (mC (.str "*+)"))))
  (mOwn1 1 (tyL "list") appD (mVar 3))
  (mSeq (whileL (mAndT (m1 truB (m2 neD (m2 ixD (mOwn 2) (mC (.int (-1)))) (mC (.str "(")))) (mOrT (m1 truB (m2 eqD (m2 ixD (mOwn 2) (mC (.int (-1)))) (mC (.str "*")))) (m1 truB (m2 neD (mOwn 3) (mC (.str "*"))))))
  (mSeq (mPopSet 4 1)
  (mSeq (mPopSet 5 1)
  (mApPop 1 2 (mCons (mVar 5) (mCons (mVar 4) mNil))))) 1000)
  (mIfS (m1 truB (m2 eqD (mOwn 3) (mC (.str ")"))))
  (mPop 2)
  (mOwn1 2 (tyL "list") appD (mVar 3)))))))
  (mSeq (mIfS (m1 truB (m2 (cmpI fun i j => decide (j < i)) (m1 lenD (mCall f_leaves (mCons (m2 ixD (mOwn 1) (mC (.int 0))) mNil))) (mC (.int 7))))
  (mRaise "TooMany" "limit" (mC (.int 7)))
  mNext)
  (mRet (m2 ixD (mOwn 1) (mC (.int 0)))))))))
/-- _law_told -/
def b__law_told (f_read_tree : List D → R (Bool × D)) : HEnv → SO :=
  (mTry 1 (mRetX (mCallX f_read_tree (mCons (mVar 0) mNil))) [("Unread", "at", "Unread"), ("TooMany", "limit", "TooMany")])
/-- Term___init__ -/
def b_Term___init__ (f_leaves : List D → R (Bool × D)) : HEnv → SO :=
  (mSeq (mIfS (m1 truB (m2 (cmpI fun i j => decide (j < i)) (m1 lenD (mCall f_leaves (mCons (mVar 1) mNil))) (mC (.int 7))))
  (mRaise "TooMany" "limit" (mC (.int 7)))
  mNext)
  (mSetFld 0 "tree" (mVar 1)))
/-- Term_read -/
def b_Term_read (f_read_tree : List D → R (Bool × D)) (f_Term___init__ : List D → R (List (Str × D))) : HEnv → R (List D) :=
  (mCons (mCall f_read_tree (mCons (mVar 1) mNil)) mNil)
/-- _law_term_told -/
def b__law_term_told (f_Term_read : List D → R (Bool × D)) : HEnv → SO :=
  (mTry 1 (mRet (m1 (fldD "tree") (mCall f_Term_read (mCons (mVar 0) mNil)))) [("Unread", "at", "Unread"), ("TooMany", "limit", "TooMany")])
/-- law -/
def b_law (f__law_string : List D → R (Bool × D)) (f__law_drawn : List D → R (Bool × D)) (f__law_wrong_at : List D → R (Bool × D)) (f__law_parsed : List D → R (Bool × D)) (f__law_leaves_of : List D → R (Bool × D)) (f__law_told : List D → R (Bool × D)) (f__law_term_told : List D → R (Bool × D)) : HEnv → SO :=
  (mSeq (mSet 1 (mCall f__law_string (mCons (mCall f__law_drawn (mCons (mVar 0) (mCons (mC (.int 0)) (mCons (mC (.int 24)) mNil)))) mNil)))
  (mSeq (mSet 2 (mCall f__law_wrong_at (mCons (mVar 1) mNil)))
  (mSeq (mIfS (m1 truB (m2 (cmpI fun i j => decide (j ≤ i)) (mOwn 2) (mC (.int 0))))
  (mSet 3 (mTupE (mCons (mC (.str "Unread")) (mCons (mVar 2) (mCons (mC (.bl false)) mNil)))))
  (mSeq (mSet 3 (mCall f__law_parsed (mCons (m1 (replD " " "") (mVar 1)) mNil)))
  (mIfS (m1 truB (m2 (cmpI fun i j => decide (j < i)) (m1 lenD (mCall f__law_leaves_of (mCons (mVar 3) mNil))) (mC (.int 7))))
  (mSet 3 (mTupE (mCons (mC (.str "TooMany")) (mCons (mC (.int 7)) (mCons (mC (.bl false)) mNil)))))
  mNext)))
  (mRet (mAndV (m2 eqD (mCall f__law_told (mCons (mVar 1) mNil)) (mOwn 3)) (m2 eqD (mCall f__law_term_told (mCons (mVar 1) mNil)) (mOwn 3)))))))
/-! what they answer -/
def f__law_string : List D → R (Bool × D) := fnS 7 (b__law_string )
def f__law_drawn : List D → R (Bool × D) := fnS 8 (b__law_drawn )
def f__law_wrong_at : List D → R (Bool × D) := fnS 7 (b__law_wrong_at )
def fr__law_parsed : Nat → List D → R (Bool × D)
  | 0 => fun _ => .stuck
  | n + 1 => fnS 4 (b__law_parsed (fr__law_parsed n))
def f__law_parsed : List D → R (Bool × D) := fr__law_parsed 48
def fr__law_leaves_of : Nat → List D → R (Bool × D)
  | 0 => fun _ => .stuck
  | n + 1 => fnS 1 (b__law_leaves_of (fr__law_leaves_of n))
def f__law_leaves_of : List D → R (Bool × D) := fr__law_leaves_of 48
def f_check_text : List D → R (Bool × D) := fnS 5 (b_check_text )
def fr_leaves : Nat → List D → R (Bool × D)
  | 0 => fun _ => .stuck
  | n + 1 => fnS 1 (b_leaves (fr_leaves n))
def f_leaves : List D → R (Bool × D) := fr_leaves 48
def f_read_tree : List D → R (Bool × D) := fnS 6 (b_read_tree f_check_text f_leaves)
def f__law_told : List D → R (Bool × D) := fnS 2 (b__law_told f_read_tree)
def f_Term___init__ : List D → R (List (Str × D)) := fnI 2 "Term" (b_Term___init__ f_leaves)
def f_Term_read : List D → R (Bool × D) := fnC 2 "Term" (b_Term_read f_read_tree f_Term___init__) f_Term___init__
def f__law_term_told : List D → R (Bool × D) := fnS 2 (b__law_term_told f_Term_read)
def f_law : List D → R (Bool × D) := fnS 4 (b_law f__law_string f__law_drawn f__law_wrong_at f__law_parsed f__law_leaves_of f__law_told f__law_term_told)
structure Txt (P : Program) (K : PySem.W.Frag) (mg : Str → Option Value) (cl : Cl) (A0 C_TooMany C_Unread C_BadHead C_BadRow C_NoTable C_Refused C_Term : Addr) : Prop where
  z_len : mg "len" = none
  z_range : mg "range" = none
  z_int : mg "int" = none
  z_isinstance : mg "isinstance" = none
  z_str : mg "str" = none
  c_MOST_CHARACTERS : Cst mg "MOST_CHARACTERS" (.int 80)
  c_MOST_LEAVES : Cst mg "MOST_LEAVES" (.int 7)
  c_ALPHABET : Cst mg "ALPHABET" (.str "ABCDEFGHIJKLMNOPQRSTUVWXYZ")
  e_TooMany : ErrAll P K mg cl "TooMany" "limit"
  m_TooMany : mg "TooMany" = some (.ref C_TooMany)
  l_TooMany : cl "TooMany" = some C_TooMany
  e_Unread : ErrAll P K mg cl "Unread" "at"
  m_Unread : mg "Unread" = some (.ref C_Unread)
  l_Unread : cl "Unread" = some C_Unread
  e_BadHead : ErrAll P K mg cl "BadHead" "column"
  m_BadHead : mg "BadHead" = some (.ref C_BadHead)
  l_BadHead : cl "BadHead" = some C_BadHead
  e_BadRow : ErrAll P K mg cl "BadRow" "at"
  m_BadRow : mg "BadRow" = some (.ref C_BadRow)
  l_BadRow : cl "BadRow" = some C_BadRow
  e_NoTable : ErrAll P K mg cl "NoTable" "name"
  m_NoTable : mg "NoTable" = some (.ref C_NoTable)
  l_NoTable : cl "NoTable" = some C_NoTable
  e_Refused : ErrAll P K mg cl "Refused" "name"
  m_Refused : mg "Refused" = some (.ref C_Refused)
  l_Refused : cl "Refused" = some C_Refused
  tab : ErrTab cl K
  m_Term : mg "Term" = some (.ref C_Term)
  l_Term : cl "Term" = some C_Term
  fld : FldTab cl K
section
variable {P : Program} {w : World} {K : PySem.W.Frag} {mg : Str → Option Value} {base : Heap} {cl : Cl} {A0 C_TooMany C_Unread C_BadHead C_BadRow C_NoTable C_Refused C_Term : Addr}
theorem sc__law_string : FnScope ["_law_cells", "_law_text", "_law_depth", "_law_due", "_law_k", "_law_cell", "_law_sign"] ["_law_cells"] (defScope s__law_string) := ⟨rfl, rfl, rfl, by decide +kernel, rfl, by decide +kernel, by decide +kernel⟩
theorem d__law_string  {f : Addr} {fd : FuncData} (T : Txt P K mg cl A0 C_TooMany C_Unread C_BadHead C_BadRow C_NoTable C_Refused C_Term) (F : Fun K "_law_string" "_law_string" s__law_string f fd)  : FnOk P w K mg base (L2.CX P w) (1) f fd ["_law_cells"] (spD cl 1 (fnS 7 (b__law_string ))) := by
  refine fnD (k := 0) F sc__law_string (by decide) fun cdv A outer s H E hr => ?_
  have nd : (["_law_cells", "_law_text", "_law_depth", "_law_due", "_law_k", "_law_cell", "_law_sign"] : List Str).Nodup := sc__law_string.nd
  exact (ds_cons (ds_set nd rfl (.inl rfl) (d_c pe_str))
  (ds_cons (ds_set nd rfl (.inl rfl) (d_c pe_int))
  (ds_cons (ds_set nd rfl (.inl rfl) (d_c pe_bl))
  (ds_cons (ds_for PassesOwn.leaving rfl (di_range1 rfl T.z_range (da_cons (d_bin op_mod mod_2 (fb (d_callTy call_intA int_1 rfl T.z_int (by decide +kernel) (fb (d_ix (hu_of hr) (d_own (pv 0)) (fb (d_c pe_int)))))) (fb (d_c pe_int))) da_nil)) (dg_name nd rfl (.inl rfl))
  (ds_cons (ds_set nd rfl (.inl rfl) (d_callTy call_intA int_1 rfl T.z_int (by decide +kernel) (fb (d_ix (hu_of hr) (d_own (pv 0)) (fb (d_bin op_addD add_2 (fb (d_c pe_int)) (d_own (pv 4))))))))
  (ds_cons (ds_set nd rfl (.inl rfl) (d_ix (hu_of hr) (fb (d_c pe_str)) (fb (d_bin op_mod mod_2 (d_own (pv 5)) (fb (d_c pe_int))))))
  (ds_cons (ds_if (dt_truth (d_own (pv 3)))
  (ds_one (ds_set nd rfl (.inl rfl) (d_ix (hu_of hr) (fb (d_c pe_str)) (fb (d_bin op_mod mod_2 (d_own (pv 5)) (fb (d_c pe_int)))))))
  ds_nil)
  (ds_cons (ds_if (dt_cmp (op_eqS (hu64 hr)) eq_2 (fb (d_bin op_mod mod_2 (fb (d_bin op_fdiv div_2 (d_own (pv 5)) (fb (d_c pe_int)))) (fb (d_c pe_int)))) (fb (d_c pe_int)))
  (ds_one (ds_set nd rfl (.inl rfl) (d_ix (hu_of hr) (fb (d_c pe_str)) (fb (d_bin op_mod mod_2 (fb (d_bin op_fdiv div_2 (d_own (pv 5)) (fb (d_c pe_int)))) (fb (d_c pe_int)))))))
  ds_nil)
  (ds_cons (ds_set nd rfl (.inl rfl) (d_bin op_sub sub_2 (fb (d_bin op_addD add_2 (d_own (pv 2)) (fb (d_callTy call_intA int_1 rfl T.z_int (by decide +kernel) (fb (d_cmp (op_eqS (hu64 hr)) eq_2 (d_own (pv 6)) (fb (d_c pe_str)))))))) (fb (d_callTy call_intA int_1 rfl T.z_int (by decide +kernel) (fb (d_cmp (op_eqS (hu64 hr)) eq_2 (d_own (pv 6)) (fb (d_c pe_str))))))))
  (ds_cons (ds_set nd rfl (.inl rfl) (de_or (d_cmp (op_inA (hu65 hr)) in_2 (d_own (pv 6)) (fb (d_c pe_str))) (de_one (de_and (d_cmp (op_eqS (hu64 hr)) eq_2 (d_own (pv 6)) (fb (d_c pe_str))) (de_one (d_var (pv 3)))))))
  (ds_one (ds_set nd rfl (.inl rfl) (d_bin op_addD add_2 (d_own (pv 1)) (d_own (pv 6))))))))))))
  (ds_cons (ds_if (dt_cmp (op_eqS (hu64 hr)) eq_2 (fb (d_bin op_mod mod_2 (fb (d_callTy call_intA int_1 rfl T.z_int (by decide +kernel) (fb (d_ix (hu_of hr) (d_own (pv 0)) (fb (d_c pe_int)))))) (fb (d_c pe_int)))) (fb (d_c pe_int)))
  (ds_one (ds_set nd rfl (.inl rfl) (d_bin op_addD add_2 (fb (d_bin op_addD add_2 (d_own (pv 1)) (fb (d_bin op_mulS mulS_2 (fb (d_c pe_str)) (fb (d_callTy call_intA int_1 rfl T.z_int (by decide +kernel) (d_own (pv 3)))))))) (fb (d_bin op_mulS mulS_2 (fb (d_c pe_str)) (d_own (pv 2)))))))
  ds_nil)
  (ds_one (ds_ret (d_var (pv 1)))))))))
theorem sc__law_drawn : FnScope ["_law_script", "_law_k", "_law_many", "_law_marks", "_law_cell", "_law_step", "_law_found", "_law_i"] ["_law_script", "_law_k", "_law_many"] (defScope s__law_drawn) := ⟨rfl, rfl, rfl, by decide +kernel, rfl, by decide +kernel, by decide +kernel⟩
theorem d__law_drawn  {f : Addr} {fd : FuncData} (T : Txt P K mg cl A0 C_TooMany C_Unread C_BadHead C_BadRow C_NoTable C_Refused C_Term) (F : Fun K "_law_drawn" "_law_drawn" s__law_drawn f fd)  : FnOk P w K mg base (L2.CX P w) (1) f fd ["_law_script", "_law_k", "_law_many"] (spD cl 3 (fnS 8 (b__law_drawn ))) := by
  refine fnD (k := 0) F sc__law_drawn (by decide) fun cdv A outer s H E hr => ?_
  have nd : (["_law_script", "_law_k", "_law_many", "_law_marks", "_law_cell", "_law_step", "_law_found", "_law_i"] : List Str).Nodup := sc__law_drawn.nd
  exact (ds_cons (ds_set nd rfl (.inr rfl) (nf (de_lst (da_cons (d_c pe_int) (da_cons (d_c pe_int) (da_cons (d_c pe_int) (da_cons (d_c pe_int) (da_cons (d_c pe_int) (da_cons (d_c pe_int) (da_cons (d_c pe_int) (da_cons (d_c pe_int) (da_cons (d_c pe_int) (da_cons (d_c pe_int) (da_cons (d_c pe_int) (da_cons (d_c pe_int) (da_cons (d_c pe_int) da_nil))))))))))))))))
  (ds_cons (ds_set nd rfl (.inr rfl) (d_bin op_addD add_2 (d_own (pv 3)) (nb (de_lst (da_cons (d_c pe_int) (da_cons (d_c pe_int) (da_cons (d_c pe_int) (da_cons (d_c pe_int) (da_cons (d_c pe_int) (da_cons (d_c pe_int) (da_cons (d_c pe_int) (da_cons (d_c pe_int) (da_cons (d_c pe_int) (da_cons (d_c pe_int) (da_cons (d_c pe_int) (da_cons (d_c pe_int) da_nil))))))))))))))))
  (ds_cons (ds_set nd rfl (.inr rfl) (d_bin op_addD add_2 (d_own (pv 3)) (nb (de_lst (da_cons (d_c pe_int) (da_cons (d_c pe_int) (da_cons (d_c pe_int) (da_cons (d_c pe_int) (da_cons (d_c pe_int) (da_cons (d_c pe_int) (da_cons (d_c pe_int) (da_cons (d_c pe_int) (da_cons (d_c pe_int) (da_cons (d_c pe_int) (da_cons (d_c pe_int) (da_cons (d_c pe_int) da_nil))))))))))))))))
  (ds_cons (ds_set nd rfl (.inr rfl) (d_bin op_addD add_2 (d_own (pv 3)) (nb (de_lst (da_cons (d_c pe_int) (da_cons (d_c pe_int) (da_cons (d_c pe_int) (da_cons (d_c pe_int) (da_cons (d_c pe_int) (da_cons (d_c pe_int) (da_cons (d_c pe_int) (da_cons (d_c pe_int) (da_cons (d_c pe_int) (da_cons (d_c pe_int) (da_cons (d_c pe_int) (da_cons (d_c pe_int) da_nil))))))))))))))))
  (ds_cons (ds_set nd rfl (.inr rfl) (d_bin op_addD add_2 (d_own (pv 3)) (nb (de_lst (da_cons (d_c pe_int) (da_cons (d_c pe_int) (da_cons (d_c pe_int) (da_cons (d_c pe_int) (da_cons (d_c pe_int) (da_cons (d_c pe_int) (da_cons (d_c pe_int) (da_cons (d_c pe_int) (da_cons (d_c pe_int) (da_cons (d_c pe_int) (da_cons (d_c pe_int) (da_cons (d_c pe_int) da_nil))))))))))))))))
  (ds_cons (ds_set nd rfl (.inl rfl) (d_c pe_int))
  (ds_cons (ds_if (dt_cmp (op_ltD (hu64 hr)) lt_2 (d_own (pv 1)) (fb (d_callB call_lenA len_1 rfl T.z_len PySem.boot_len (d_own (pv 0)))))
  (ds_one (ds_set nd rfl (.inl rfl) (d_callTy call_intA int_1 rfl T.z_int (by decide +kernel) (fb (d_ix (hu_of hr) (d_own (pv 0)) (d_own (pv 1)))))))
  ds_nil)
  (ds_cons (ds_if (dt_cmp (op_ltD (hu64 hr)) lt_2 (d_own (pv 4)) (fb (d_bin op_pow pow_2 (fb (d_c pe_int)) (fb (d_c pe_int)))))
  (ds_cons (ds_set nd rfl (.inr rfl) (d_bin op_addD add_2 (fb (d_bin op_mod mod_2 (fb (d_callTy call_intA int_1 rfl T.z_int (by decide +kernel) (d_own (pv 4)))) (fb (d_c pe_int)))) (fb (d_c pe_int))))
  (ds_one (ds_retN (dn_comp (own := [("_law_i", 7)]) rfl nd (di_k (di_range1 rfl T.z_range (da_cons (d_var (pv 2)) da_nil))) (blkOk_by (by kernel_rfl)) (by decide) (fun _ _ _ _ _ => (dg_name nd rfl (.inl rfl))) (fun _ _ _ _ _ => dt_nil) (fun _ _ _ _ _ => (d_bin op_mod mod_2 (fb (d_callTy call_intA int_1 rfl T.z_int (by decide +kernel) (fb (d_bin op_mul mul_2 (d_own (pv 5)) (fb (d_ix (hu_of hr) (d_own (pv 3)) (fb (d_bin op_mod mod_2 (fb (d_bin op_addD add_2 (d_own (pv 7)) (fb (d_bin op_mul mul_2 (fb (d_c pe_int)) (d_own (pv 1)))))) (fb (d_c pe_int)))))))))) (fb (d_c pe_int))))))))
  ds_nil)
  (ds_cons (ds_setN nd rfl (.inl rfl) (de_lst da_nil))
  (ds_cons (ds_for PassesOwn.leaving rfl (di_range1 rfl T.z_range (da_cons (d_var (pv 2)) da_nil)) (dg_name nd rfl (.inl rfl))
  (ds_cons (ds_append (pv 6) (d_bin op_mod mod_2 (fb (d_callTy call_intA int_1 rfl T.z_int (by decide +kernel) (d_own (pv 4)))) (fb (d_c pe_int))))
  (ds_one (ds_set nd rfl (.inl rfl) (d_bin op_fdiv div_2 (d_own (pv 4)) (fb (d_c pe_int)))))))
  (ds_one (ds_retOwn (pv 6)))))))))))))
theorem sc__law_wrong_at : FnScope ["_law_text", "_law_depth", "_law_last", "_law_k", "_law_sign", "_law_begins", "_law_fine"] ["_law_text"] (defScope s__law_wrong_at) := ⟨rfl, rfl, rfl, by decide +kernel, rfl, by decide +kernel, by decide +kernel⟩
theorem d__law_wrong_at  {f : Addr} {fd : FuncData} (T : Txt P K mg cl A0 C_TooMany C_Unread C_BadHead C_BadRow C_NoTable C_Refused C_Term) (F : Fun K "_law_wrong_at" "_law_wrong_at" s__law_wrong_at f fd)  : FnOk P w K mg base (L2.CX P w) (1) f fd ["_law_text"] (spD cl 1 (fnS 7 (b__law_wrong_at ))) := by
  refine fnD (k := 0) F sc__law_wrong_at (by decide) fun cdv A outer s H E hr => ?_
  have nd : (["_law_text", "_law_depth", "_law_last", "_law_k", "_law_sign", "_law_begins", "_law_fine"] : List Str).Nodup := sc__law_wrong_at.nd
  exact (ds_cons (ds_set nd rfl (.inl rfl) (d_c pe_int))
  (ds_cons (ds_set nd rfl (.inl rfl) (d_c pe_str))
  (ds_cons (ds_for PassesOwn.leaving rfl (di_range1 rfl T.z_range (da_cons (d_callB call_lenA len_1 rfl T.z_len PySem.boot_len (d_own (pv 0))) da_nil)) (dg_name nd rfl (.inl rfl))
  (ds_cons (ds_set nd rfl (.inl rfl) (d_ix (hu_of hr) (d_own (pv 0)) (d_own (pv 3))))
  (ds_cons (ds_if (dt_cmp (op_eqS (hu64 hr)) eq_2 (d_own (pv 4)) (fb (d_c pe_str)))
  (ds_one ds_cont)
  ds_nil)
  (ds_cons (ds_set nd rfl (.inl rfl) (d_cmp (op_inA (hu65 hr)) in_2 (d_own (pv 2)) (fb (d_c pe_str))))
  (ds_cons (ds_set nd rfl (.inl rfl) (de_and (d_var (pv 5)) (de_one (d_cmp (op_inA (hu65 hr)) in_2 (d_own (pv 4)) (fb (d_c pe_str))))))
  (ds_cons (ds_set nd rfl (.inl rfl) (de_or (d_var (pv 6)) (de_one (de_and (de_not (d_var (pv 5))) (de_one (d_cmp (op_inA (hu65 hr)) in_2 (d_own (pv 4)) (fb (d_c pe_str))))))))
  (ds_cons (ds_set nd rfl (.inl rfl) (de_or (d_var (pv 6)) (de_one (de_and (de_not (d_var (pv 5))) (de_and (d_cmp (op_eqS (hu64 hr)) eq_2 (d_own (pv 4)) (fb (d_c pe_str))) (de_one (d_cmp op_gt cmpI_2 (d_own (pv 1)) (fb (d_c pe_int)))))))))
  (ds_cons (ds_if (dt_not (dt_truth (d_own (pv 6))))
  (ds_one (ds_ret (d_var (pv 3))))
  ds_nil)
  (ds_cons (ds_set nd rfl (.inl rfl) (d_bin op_sub sub_2 (fb (d_bin op_addD add_2 (d_own (pv 1)) (fb (d_callTy call_intA int_1 rfl T.z_int (by decide +kernel) (fb (d_cmp (op_eqS (hu64 hr)) eq_2 (d_own (pv 4)) (fb (d_c pe_str)))))))) (fb (d_callTy call_intA int_1 rfl T.z_int (by decide +kernel) (fb (d_cmp (op_eqS (hu64 hr)) eq_2 (d_own (pv 4)) (fb (d_c pe_str))))))))
  (ds_one (ds_set nd rfl (.inl rfl) (d_var (pv 4)))))))))))))
  (ds_cons (ds_if (PW.pt (dw_or (dt_cmp (op_inA (hu65 hr)) in_2 (d_own (pv 2)) (fb (d_c pe_str))) (dw_or1 (dt_cmp op_gt cmpI_2 (d_own (pv 1)) (fb (d_c pe_int))))))
  (ds_one (ds_ret (d_callB call_lenA len_1 rfl T.z_len PySem.boot_len (d_own (pv 0)))))
  ds_nil)
  (ds_one (ds_ret d_negc))))))
theorem sc__law_parsed : FnScope ["_law_text", "_law_depth", "_law_at", "_law_k"] ["_law_text"] (defScope s__law_parsed) := ⟨rfl, rfl, rfl, by decide +kernel, rfl, by decide +kernel, by decide +kernel⟩
theorem d__law_parsed {f__law_parsed : List D → R (Bool × D)} {kk : Nat} (hk : 1 ≤ kk) {f : Addr} {fd : FuncData} (T : Txt P K mg cl A0 C_TooMany C_Unread C_BadHead C_BadRow C_NoTable C_Refused C_Term) (F : Fun K "_law_parsed" "_law_parsed" s__law_parsed f fd) (D__law_parsed : Df P w K mg base cl (kk + 0) "_law_parsed" 1 f__law_parsed) : FnOk P w K mg base (L2.CX P w) (kk + 0 + 1) f fd ["_law_text"] (spD cl 1 (fnS 4 (b__law_parsed f__law_parsed))) := by
  refine fnD (k := kk + 0) F sc__law_parsed (by decide) fun cdv A outer s H E hr => ?_
  have nd : (["_law_text", "_law_depth", "_law_at", "_law_k"] : List Str).Nodup := sc__law_parsed.nd
  exact (ds_cons (ds_set nd rfl (.inl rfl) (d_c pe_int))
  (ds_cons (ds_set nd rfl (.inl rfl) d_negc)
  (ds_cons (ds_for PassesOwn.leaving rfl (di_range1 rfl T.z_range (da_cons (d_callB call_lenA len_1 rfl T.z_len PySem.boot_len (d_own (pv 0))) da_nil)) (dg_name nd rfl (.inl rfl))
  (ds_cons (ds_if (dt_cmp (op_eqS (hu64 hr)) eq_2 (fb (d_ix (hu_of hr) (d_own (pv 0)) (d_own (pv 3)))) (fb (d_c pe_str)))
  (ds_one (ds_set nd rfl (.inl rfl) (d_bin op_addD add_2 (d_own (pv 1)) (fb (d_c pe_int)))))
  ds_nil)
  (ds_cons (ds_if (dt_cmp (op_eqS (hu64 hr)) eq_2 (fb (d_ix (hu_of hr) (d_own (pv 0)) (d_own (pv 3)))) (fb (d_c pe_str)))
  (ds_one (ds_set nd rfl (.inl rfl) (d_bin op_sub sub_2 (d_own (pv 1)) (fb (d_c pe_int)))))
  ds_nil)
  (ds_cons (ds_if (PW.pt (dw_and (dt_cmp (op_eqS (hu64 hr)) eq_2 (d_own (pv 1)) (fb (d_c pe_int))) (dw_and1 (dt_cmp (op_eqS (hu64 hr)) eq_2 (fb (d_ix (hu_of hr) (d_own (pv 0)) (d_own (pv 3)))) (fb (d_c pe_str))))))
  (ds_one (ds_set nd rfl (.inl rfl) (d_var (pv 3))))
  ds_nil)
  (ds_one (ds_if (PW.pt (dw_and (dt_cmp (op_eqS (hu64 hr)) eq_2 (d_own (pv 1)) (fb (d_c pe_int))) (dw_and (dt_cmp (op_eqS (hu64 hr)) eq_2 (fb (d_ix (hu_of hr) (d_own (pv 0)) (d_own (pv 3)))) (fb (d_c pe_str))) (dw_and1 (PW.pt (dw_or (dt_cmp (op_ltD (hu64 hr)) lt_2 (d_own (pv 2)) (fb (d_c pe_int))) (dw_or1 (dt_cmp (op_eqS (hu64 hr)) eq_2 (fb (d_ix (hu_of hr) (d_own (pv 0)) (d_own (pv 2)))) (fb (d_c pe_str))))))))))
  (ds_one (ds_set nd rfl (.inl rfl) (d_var (pv 3))))
  ds_nil))))))
  (ds_cons (ds_if (dt_cmp op_ge cmpI_2 (d_own (pv 2)) (fb (d_c pe_int)))
  (ds_one (ds_ret (de_tup (da_cons (d_ix (hu_of hr) (d_own (pv 0)) (d_own (pv 2))) (da_cons (d_call D__law_parsed (hr.mono (by omega)) (takes_of rfl rfl rfl rfl) rfl (da_cons (d_sl (d_own (pv 0)) dp_none (dp_some (d_var (pv 2)))) da_nil)) (da_cons (d_call D__law_parsed (hr.mono (by omega)) (takes_of rfl rfl rfl rfl) rfl (da_cons (d_sl (d_own (pv 0)) (dp_some (d_bin op_addD add_2 (d_own (pv 2)) (fb (d_c pe_int)))) dp_none) da_nil)) da_nil))))))
  ds_nil)
  (ds_cons (ds_if (dt_cmp (op_eqS (hu64 hr)) eq_2 (fb (d_ix (hu_of hr) (d_own (pv 0)) (fb (d_c pe_int)))) (fb (d_c pe_str)))
  (ds_one (ds_retX (dx_call D__law_parsed (hr.mono (by omega)) (takes_of rfl rfl rfl rfl) rfl (da_cons (d_sl (d_own (pv 0)) (dp_some (d_c pe_int)) (dp_some (d_bin op_sub sub_2 (fb (d_callB call_lenA len_1 rfl T.z_len PySem.boot_len (d_own (pv 0)))) (fb (d_c pe_int))))) da_nil))))
  ds_nil)
  (ds_one (ds_ret (d_var (pv 0)))))))))
theorem sc__law_leaves_of : FnScope ["_law_tree"] ["_law_tree"] (defScope s__law_leaves_of) := ⟨rfl, rfl, rfl, by decide +kernel, rfl, by decide +kernel, by decide +kernel⟩
theorem d__law_leaves_of {f__law_leaves_of : List D → R (Bool × D)} {kk : Nat} (hk : 1 ≤ kk) {f : Addr} {fd : FuncData} (T : Txt P K mg cl A0 C_TooMany C_Unread C_BadHead C_BadRow C_NoTable C_Refused C_Term) (F : Fun K "_law_leaves_of" "_law_leaves_of" s__law_leaves_of f fd) (D__law_leaves_of : Df P w K mg base cl (kk + 0) "_law_leaves_of" 1 f__law_leaves_of) : FnOk P w K mg base (L2.CX P w) (kk + 0 + 1) f fd ["_law_tree"] (spD cl 1 (fnS 1 (b__law_leaves_of f__law_leaves_of))) := by
  refine fnD (k := kk + 0) F sc__law_leaves_of (by decide) fun cdv A outer s H E hr => ?_
  have nd : (["_law_tree"] : List Str).Nodup := sc__law_leaves_of.nd
  exact (ds_cons (ds_if (dt_truth (fb (d_isi rfl T.z_isinstance rfl T.z_str (by decide +kernel) (d_own (pv 0)))))
  (ds_one (ds_retN (de_lst (da_cons (d_var (pv 0)) da_nil))))
  ds_nil)
  (ds_one (ds_ret (d_bin op_addD add_2 (fb (d_call D__law_leaves_of (hr.mono (by omega)) (takes_of rfl rfl rfl rfl) rfl (da_cons (d_ix (hu_of hr) (d_own (pv 0)) (fb (d_c pe_int))) da_nil))) (fb (d_call D__law_leaves_of (hr.mono (by omega)) (takes_of rfl rfl rfl rfl) rfl (da_cons (d_ix (hu_of hr) (d_own (pv 0)) (fb (d_c pe_int))) da_nil)))))))
theorem sc_check_text : FnScope ["text", "depth", "due", "at", "sign"] ["text"] (defScope s_check_text) := ⟨rfl, rfl, rfl, by decide +kernel, rfl, by decide +kernel, by decide +kernel⟩
theorem d_check_text  {f : Addr} {fd : FuncData} (T : Txt P K mg cl A0 C_TooMany C_Unread C_BadHead C_BadRow C_NoTable C_Refused C_Term) (F : Fun K "check_text" "check_text" s_check_text f fd)  : FnOk P w K mg base (L2.CX P w) (2) f fd ["text"] (spD cl 1 (fnS 5 (b_check_text ))) := by
  refine fnD (k := 1) F sc_check_text (by decide) fun cdv A outer s H E hr => ?_
  have nd : (["text", "depth", "due", "at", "sign"] : List Str).Nodup := sc_check_text.nd
  exact (ds_cons (ds_asg (de_tup (da_cons (d_c pe_int) (da_cons (d_c pe_bl) da_nil))) (dg_tup rfl (dgs_cons (dg_name nd rfl (.inl rfl)) (dgs_cons (dg_name nd rfl (.inl rfl)) dgs_nil))))
  (ds_cons (ds_for PassesOwn.leaving rfl (di_range1 rfl T.z_range (da_cons (d_callB call_lenA len_1 rfl T.z_len PySem.boot_len (d_own (pv 0))) da_nil)) (dg_name nd rfl (.inl rfl))
  (ds_cons (ds_set nd rfl (.inl rfl) (d_ix (hu_of hr) (d_own (pv 0)) (d_own (pv 3))))
  (ds_cons (ds_if (dt_cmp (op_eqS (hu64 hr)) eq_2 (d_own (pv 4)) (fb (d_c pe_str)))
  (ds_one ds_cont)
  ds_nil)
  (ds_one (ds_if (PW.pt (dw_and (dt_truth (d_own (pv 2))) (dw_and1 (PW.pt (dw_or (dt_cmp (op_inA (hu65 hr)) in_2 (d_own (pv 4)) (fb (d_cst rfl T.c_ALPHABET))) (dw_or1 (dt_cmp (op_inA (hu65 hr)) in_2 (d_own (pv 4)) (fb (d_c pe_str)))))))))
  (ds_one (ds_set nd rfl (.inl rfl) (d_c pe_bl)))
  (ds_one (ds_if (PW.pt (dw_and (dt_truth (d_own (pv 2))) (dw_and1 (dt_cmp (op_eqS (hu64 hr)) eq_2 (d_own (pv 4)) (fb (d_c pe_str))))))
  (ds_one (ds_augI iop_add addI_2 nd rfl rfl (d_c pe_int)))
  (ds_one (ds_if (PW.pt (dw_and (dt_not (dt_truth (d_own (pv 2)))) (dw_and1 (dt_cmp (op_inA (hu65 hr)) in_2 (d_own (pv 4)) (fb (d_c pe_str))))))
  (ds_one (ds_set nd rfl (.inl rfl) (d_c pe_bl)))
  (ds_one (ds_if (PW.pt (dw_and (dt_not (dt_truth (d_own (pv 2)))) (dw_and (dt_cmp (op_eqS (hu64 hr)) eq_2 (d_own (pv 4)) (fb (d_c pe_str))) (dw_and1 (dt_cmp op_gt cmpI_2 (d_own (pv 1)) (fb (d_c pe_int)))))))
  (ds_one (ds_augI iop_sub subI_2 nd rfl rfl (d_c pe_int)))
  (ds_one (ds_raiseE T.e_Unread rfl fo_at (hr.mono (by omega) : Room (0 + 1) _) (takes_of rfl rfl rfl rfl) (d_var (pv 3)) rfl)))))))))))))
  (ds_one (ds_if (PW.pt (dw_or (dt_truth (d_own (pv 2))) (dw_or1 (dt_cmp op_gt cmpI_2 (d_own (pv 1)) (fb (d_c pe_int))))))
  (ds_one (ds_raiseE T.e_Unread rfl fo_at (hr.mono (by omega) : Room (0 + 1) _) (takes_of rfl rfl rfl rfl) (d_callB call_lenA len_1 rfl T.z_len PySem.boot_len (d_own (pv 0))) rfl))
  ds_nil))))
theorem sc_leaves : FnScope ["tree"] ["tree"] (defScope s_leaves) := ⟨rfl, rfl, rfl, by decide +kernel, rfl, by decide +kernel, by decide +kernel⟩
theorem d_leaves {f_leaves : List D → R (Bool × D)} {kk : Nat} (hk : 1 ≤ kk) {f : Addr} {fd : FuncData} (T : Txt P K mg cl A0 C_TooMany C_Unread C_BadHead C_BadRow C_NoTable C_Refused C_Term) (F : Fun K "leaves" "leaves" s_leaves f fd) (D_leaves : Df P w K mg base cl (kk + 0) "leaves" 1 f_leaves) : FnOk P w K mg base (L2.CX P w) (kk + 0 + 1) f fd ["tree"] (spD cl 1 (fnS 1 (b_leaves f_leaves))) := by
  refine fnD (k := kk + 0) F sc_leaves (by decide) fun cdv A outer s H E hr => ?_
  have nd : (["tree"] : List Str).Nodup := sc_leaves.nd
  exact (ds_cons (ds_if (dt_truth (fb (d_isi rfl T.z_isinstance rfl T.z_str (by decide +kernel) (d_own (pv 0)))))
  (ds_one (ds_retN (de_lst (da_cons (d_var (pv 0)) da_nil))))
  ds_nil)
  (ds_one (ds_ret (d_bin op_addD add_2 (fb (d_call D_leaves (hr.mono (by omega)) (takes_of rfl rfl rfl rfl) rfl (da_cons (d_ix (hu_of hr) (d_own (pv 0)) (fb (d_c pe_int))) da_nil))) (fb (d_call D_leaves (hr.mono (by omega)) (takes_of rfl rfl rfl rfl) rfl (da_cons (d_ix (hu_of hr) (d_own (pv 0)) (fb (d_c pe_int))) da_nil)))))))
theorem sc_read_tree : FnScope ["text", "operands", "operators", "sign", "right", "left"] ["text"] (defScope s_read_tree) := ⟨rfl, rfl, rfl, by decide +kernel, rfl, by decide +kernel, by decide +kernel⟩
theorem d_read_tree {f_check_text : List D → R (Bool × D)} {f_leaves : List D → R (Bool × D)} {f : Addr} {fd : FuncData} (T : Txt P K mg cl A0 C_TooMany C_Unread C_BadHead C_BadRow C_NoTable C_Refused C_Term) (F : Fun K "read_tree" "read_tree" s_read_tree f fd) (D_check_text : Df P w K mg base cl (2) "check_text" 1 f_check_text) (D_leaves : Df P w K mg base cl (49) "leaves" 1 f_leaves) : FnOk P w K mg base (L2.CX P w) (50) f fd ["text"] (spD cl 1 (fnS 6 (b_read_tree f_check_text f_leaves))) := by
  refine fnD (k := 49) F sc_read_tree (by decide) fun cdv A outer s H E hr => ?_
  have nd : (["text", "operands", "operators", "sign", "right", "left"] : List Str).Nodup := sc_read_tree.nd
  exact (ds_cons (ds_if (dt_cmp op_gt cmpI_2 (fb (d_callB call_lenA len_1 rfl T.z_len PySem.boot_len (d_own (pv 0)))) (fb (d_cst rfl T.c_MOST_CHARACTERS)))
  (ds_one (ds_raiseE T.e_TooMany rfl fo_limit (hr.mono (by omega) : Room (0 + 1) _) (takes_of rfl rfl rfl rfl) (d_cst rfl T.c_MOST_CHARACTERS) rfl))
  ds_nil)
  (ds_cons (ds_do (d_call D_check_text (hr.mono (by omega)) (takes_of rfl rfl rfl rfl) rfl (da_cons (d_var (pv 0)) da_nil)))
  (ds_cons (ds_parN (i := 1) (j := 2) rfl nd rfl rfl (by decide) rfl rfl (de_lst da_nil) (de_lst da_nil) rfl)
  (ds_cons (ds_for PassesOwn.leaving rfl (di_any (d_fstrR (d_var (pv 0)) (by decide))) (dg_name nd rfl (.inl rfl))
  (ds_one (ds_if (dt_cmp (op_eqS (hu64 hr)) eq_2 (d_own (pv 3)) (fb (d_c pe_str)))
  (ds_one (ds_append (pv 2) (d_var (pv 3))))
  (ds_one (ds_if (dt_cmp (op_notInA (hu65 hr)) in_2 (d_own (pv 3)) (fb (d_c pe_str)))
  (ds_one (ds_append (pv 1) (d_var (pv 3))))
  (ds_cons (ds_while PassesOwn.leaving (PW.pt (dw_and (dt_cmp (op_neS (hu64 hr)) ne_2 (fb (d_ix (hu_of hr) (d_own (pv 2)) (fb d_negc))) (fb (d_c pe_str))) (dw_and1 (PW.pt (dw_or (dt_cmp (op_eqS (hu64 hr)) eq_2 (fb (d_ix (hu_of hr) (d_own (pv 2)) (fb d_negc))) (fb (d_c pe_str))) (dw_or1 (dt_cmp (op_neS (hu64 hr)) ne_2 (d_own (pv 3)) (fb (d_c pe_str)))))))))
  (ds_cons (ds_popSet nd rfl (.inl rfl) (pv 1))
  (ds_cons (ds_popSet nd rfl (.inl rfl) (pv 1))
  (ds_one (ds_apPop (by decide) (pv 1) (pv 2) (da_cons (d_var (pv 5)) (da_cons (d_var (pv 4)) da_nil)))))))
  (ds_one (ds_if (dt_cmp (op_eqS (hu64 hr)) eq_2 (d_own (pv 3)) (fb (d_c pe_str)))
  (ds_one (ds_pop (pv 2)))
  (ds_one (ds_append (pv 2) (d_var (pv 3))))))))))))
  (ds_cons (ds_if (dt_cmp op_gt cmpI_2 (fb (d_callB call_lenA len_1 rfl T.z_len PySem.boot_len (fb (d_call D_leaves (hr.mono (by omega)) (takes_of rfl rfl rfl rfl) rfl (da_cons (d_ix (hu_of hr) (d_own (pv 1)) (fb (d_c pe_int))) da_nil))))) (fb (d_cst rfl T.c_MOST_LEAVES)))
  (ds_one (ds_raiseE T.e_TooMany rfl fo_limit (hr.mono (by omega) : Room (0 + 1) _) (takes_of rfl rfl rfl rfl) (d_cst rfl T.c_MOST_LEAVES) rfl))
  ds_nil)
  (ds_one (ds_ret (d_ix (hu_of hr) (d_own (pv 1)) (fb (d_c pe_int))))))))))
theorem sc__law_told : FnScope ["_law_text", "e"] ["_law_text"] (defScope s__law_told) := ⟨rfl, rfl, rfl, by decide +kernel, rfl, by decide +kernel, by decide +kernel⟩
theorem d__law_told {f_read_tree : List D → R (Bool × D)} {f : Addr} {fd : FuncData} (T : Txt P K mg cl A0 C_TooMany C_Unread C_BadHead C_BadRow C_NoTable C_Refused C_Term) (F : Fun K "_law_told" "_law_told" s__law_told f fd) (D_read_tree : Df P w K mg base cl (50) "read_tree" 1 f_read_tree) : FnOk P w K mg base (L2.CX P w) (51) f fd ["_law_text"] (spD cl 1 (fnS 2 (b__law_told f_read_tree))) := by
  refine fnD (k := 50) F sc__law_told (by decide) fun cdv A outer s H E hr => ?_
  have nd : (["_law_text", "e"] : List Str).Nodup := sc__law_told.nd
  exact (ds_one (ds_try (n := "e") T.tab.ex rfl rfl nd rfl rfl (takes_of rfl rfl rfl rfl) (fun W pn xe tk po => (ds_one (ds_retX (dx_call D_read_tree (hr.mono (by omega)) tk rfl (da_cons (d_var (pv 0)) da_nil)))))
    (cla_cons T.tab T.e_Unread (ns := ["BadHead", "BadRow", "NoTable", "TooMany", "Refused"]) (Cs := [C_BadHead, C_BadRow, C_NoTable, C_TooMany, C_Refused]) (by decide) (by decide) (by decide) rfl (by decide) T.m_Unread T.l_Unread (by simp only [List.map, T.l_BadHead, T.l_BadRow, T.l_NoTable, T.l_TooMany, T.l_Refused]) (fun a oe cls d pn hz hf T1 T2 hno => suite_tell T1 T2 hno hz hf (pv 1) (pv 1) (.cons rfl T.m_BadHead (by decide) rfl (.cons rfl T.m_BadRow (by decide) rfl (.cons rfl T.m_NoTable (by decide) rfl (.cons rfl T.m_TooMany (by decide) rfl (.cons rfl T.m_Refused (by decide) rfl .nil))))) rfl T.z_isinstance rfl)
    (cla_cons T.tab T.e_TooMany (ns := ["Unread", "BadHead", "BadRow", "NoTable", "Refused"]) (Cs := [C_Unread, C_BadHead, C_BadRow, C_NoTable, C_Refused]) (by decide) (by decide) (by decide) rfl (by decide) T.m_TooMany T.l_TooMany (by simp only [List.map, T.l_Unread, T.l_BadHead, T.l_BadRow, T.l_NoTable, T.l_Refused]) (fun a oe cls d pn hz hf T1 T2 hno => suite_tell T1 T2 hno hz hf (pv 1) (pv 1) (.cons rfl T.m_Unread (by decide) rfl (.cons rfl T.m_BadHead (by decide) rfl (.cons rfl T.m_BadRow (by decide) rfl (.cons rfl T.m_NoTable (by decide) rfl (.cons rfl T.m_Refused (by decide) rfl .nil))))) rfl T.z_isinstance rfl)
    .nil))))
theorem sc_Term___init__ : FnScope ["self", "tree"] ["self", "tree"] (defScope s_Term___init__) := ⟨rfl, rfl, rfl, by decide +kernel, rfl, by decide +kernel, by decide +kernel⟩
theorem d_Term___init__ {f_leaves : List D → R (Bool × D)} {f : Addr} {fd : FuncData} (T : Txt P K mg cl A0 C_TooMany C_Unread C_BadHead C_BadRow C_NoTable C_Refused C_Term) (F : Fun K "__init__" "Term.__init__" s_Term___init__ f fd) (D_leaves : Df P w K mg base cl (49) "leaves" 1 f_leaves) : FnOk P w K mg base (L2.CX P w) (50) f fd ["self", "tree"] (spI cl "Term" 1 (fnI 2 "Term" (b_Term___init__ f_leaves))) := by
  refine fnDI (k := 49) F sc_Term___init__ rfl (by decide) fun cdv A outer s H E hr => ?_
  have nd : (["self", "tree"] : List Str).Nodup := sc_Term___init__.nd
  exact (ds_cons (ds_if (dt_cmp op_gt cmpI_2 (fb (d_callB call_lenA len_1 rfl T.z_len PySem.boot_len (fb (d_call D_leaves (hr.mono (by omega)) (takes_of rfl rfl rfl rfl) rfl (da_cons (d_var (pv 1)) da_nil))))) (fb (d_cst rfl T.c_MOST_LEAVES)))
  (ds_one (ds_raiseE T.e_TooMany rfl fo_limit (hr.mono (by omega) : Room (0 + 1) _) (takes_of rfl rfl rfl rfl) (d_cst rfl T.c_MOST_LEAVES) rfl))
  ds_nil)
  (ds_one (ds_setFld T.fld (pv 0) (d_var (pv 1)))))
theorem sc_Term_read : FnScope ["cls", "text"] ["cls", "text"] (defScope s_Term_read) := ⟨rfl, rfl, rfl, by decide +kernel, rfl, by decide +kernel, by decide +kernel⟩
theorem d_Term_read {f_read_tree : List D → R (Bool × D)} {f_Term___init__ : List D → R (List (Str × D))} {f : Addr} {fd : FuncData} (T : Txt P K mg cl A0 C_TooMany C_Unread C_BadHead C_BadRow C_NoTable C_Refused C_Term) (hbd : L2.Binds K fd ["cls", "text"] []) (F : Fun K "read" "Term.read" s_Term_read f fd) (D_read_tree : Df P w K mg base cl (50) "read_tree" 1 f_read_tree) (D_Term___init__ : Dc P w K mg base cl (50) "Term" 1 f_Term___init__) : FnR P w K mg base (L2.CX P w) (52) f (fun vs H Q E => ∃ ws, vs = .ref C_Term :: ws ∧ spD cl 1 (fnC 2 "Term" (b_Term_read f_read_tree f_Term___init__) f_Term___init__) ws H Q E) := by
  obtain ⟨C, fa, fdI, psI, hI, M, hm, hcl, hbI⟩ := D_Term___init__.ex
  have e := hcl.symm.trans T.l_Term
  cases e
  have nd : (["cls", "text"] : List Str).Nodup := sc_Term_read.nd
  exact fnDC (c := "Term") (n := 1) (k := 51) F sc_Term_read rfl (by decide) M hI hcl hbI (by omega) rfl rfl (by repeat constructor) (by first | exact Or.inl rfl | exact Or.inr (Or.inl rfl) | exact Or.inr (Or.inr rfl)) (by decide) (by decide) (fun cdv A outer s H E hr => ⟨(da_cons (d_call D_read_tree (hr.mono (by omega)) (takes_of rfl rfl rfl rfl) rfl (da_cons (d_var (pv 1)) da_nil)) da_nil), rfl, rfl⟩) hbd
theorem sc__law_term_told : FnScope ["_law_text", "e"] ["_law_text"] (defScope s__law_term_told) := ⟨rfl, rfl, rfl, by decide +kernel, rfl, by decide +kernel, by decide +kernel⟩
theorem d__law_term_told {f_Term_read : List D → R (Bool × D)} {f : Addr} {fd : FuncData} (T : Txt P K mg cl A0 C_TooMany C_Unread C_BadHead C_BadRow C_NoTable C_Refused C_Term) (F : Fun K "_law_term_told" "_law_term_told" s__law_term_told f fd) (D_Term_read : Dk P w K mg base cl (52) "Term" "read" 1 f_Term_read) : FnOk P w K mg base (L2.CX P w) (53) f fd ["_law_text"] (spD cl 1 (fnS 2 (b__law_term_told f_Term_read))) := by
  refine fnD (k := 52) F sc__law_term_told (by decide) fun cdv A outer s H E hr => ?_
  have nd : (["_law_text", "e"] : List Str).Nodup := sc__law_term_told.nd
  exact (ds_one (ds_try (n := "e") T.tab.ex rfl rfl nd rfl rfl (takes_of rfl rfl rfl rfl) (fun W pn xe tk po => (ds_one (ds_ret (d_fld T.fld (d_cmeth D_Term_read (hr.mono (by omega)) tk rfl (da_cons (d_var (pv 0)) da_nil))))))
    (cla_cons T.tab T.e_Unread (ns := ["BadHead", "BadRow", "NoTable", "TooMany", "Refused"]) (Cs := [C_BadHead, C_BadRow, C_NoTable, C_TooMany, C_Refused]) (by decide) (by decide) (by decide) rfl (by decide) T.m_Unread T.l_Unread (by simp only [List.map, T.l_BadHead, T.l_BadRow, T.l_NoTable, T.l_TooMany, T.l_Refused]) (fun a oe cls d pn hz hf T1 T2 hno => suite_tell T1 T2 hno hz hf (pv 1) (pv 1) (.cons rfl T.m_BadHead (by decide) rfl (.cons rfl T.m_BadRow (by decide) rfl (.cons rfl T.m_NoTable (by decide) rfl (.cons rfl T.m_TooMany (by decide) rfl (.cons rfl T.m_Refused (by decide) rfl .nil))))) rfl T.z_isinstance rfl)
    (cla_cons T.tab T.e_TooMany (ns := ["Unread", "BadHead", "BadRow", "NoTable", "Refused"]) (Cs := [C_Unread, C_BadHead, C_BadRow, C_NoTable, C_Refused]) (by decide) (by decide) (by decide) rfl (by decide) T.m_TooMany T.l_TooMany (by simp only [List.map, T.l_Unread, T.l_BadHead, T.l_BadRow, T.l_NoTable, T.l_Refused]) (fun a oe cls d pn hz hf T1 T2 hno => suite_tell T1 T2 hno hz hf (pv 1) (pv 1) (.cons rfl T.m_Unread (by decide) rfl (.cons rfl T.m_BadHead (by decide) rfl (.cons rfl T.m_BadRow (by decide) rfl (.cons rfl T.m_NoTable (by decide) rfl (.cons rfl T.m_Refused (by decide) rfl .nil))))) rfl T.z_isinstance rfl)
    .nil))))
theorem sc_law : FnScope ["_law_script", "_law_text", "_law_at", "_law_due"] ["_law_script"] (defScope s_law) := ⟨rfl, rfl, rfl, by decide +kernel, rfl, by decide +kernel, by decide +kernel⟩
theorem d_law {f__law_string : List D → R (Bool × D)} {f__law_drawn : List D → R (Bool × D)} {f__law_wrong_at : List D → R (Bool × D)} {f__law_parsed : List D → R (Bool × D)} {f__law_leaves_of : List D → R (Bool × D)} {f__law_told : List D → R (Bool × D)} {f__law_term_told : List D → R (Bool × D)} {f : Addr} {fd : FuncData} (T : Txt P K mg cl A0 C_TooMany C_Unread C_BadHead C_BadRow C_NoTable C_Refused C_Term) (F : Fun K "law" "law" s_law f fd) (D__law_string : Df P w K mg base cl (1) "_law_string" 1 f__law_string) (D__law_drawn : Df P w K mg base cl (1) "_law_drawn" 3 f__law_drawn) (D__law_wrong_at : Df P w K mg base cl (1) "_law_wrong_at" 1 f__law_wrong_at) (D__law_parsed : Df P w K mg base cl (49) "_law_parsed" 1 f__law_parsed) (D__law_leaves_of : Df P w K mg base cl (49) "_law_leaves_of" 1 f__law_leaves_of) (D__law_told : Df P w K mg base cl (51) "_law_told" 1 f__law_told) (D__law_term_told : Df P w K mg base cl (53) "_law_term_told" 1 f__law_term_told) : FnOk P w K mg base (L2.CX P w) (54) f fd ["_law_script"] (spD cl 1 (fnS 4 (b_law f__law_string f__law_drawn f__law_wrong_at f__law_parsed f__law_leaves_of f__law_told f__law_term_told))) := by
  refine fnD (k := 53) F sc_law (by decide) fun cdv A outer s H E hr => ?_
  have nd : (["_law_script", "_law_text", "_law_at", "_law_due"] : List Str).Nodup := sc_law.nd
  exact (ds_cons (ds_set nd rfl (.inl rfl) (d_call D__law_string (hr.mono (by omega)) (takes_of rfl rfl rfl rfl) rfl (da_cons (d_call D__law_drawn (hr.mono (by omega)) (takes_of rfl rfl rfl rfl) rfl (da_cons (d_var (pv 0)) (da_cons (d_c pe_int) (da_cons (d_c pe_int) da_nil)))) da_nil)))
  (ds_cons (ds_set nd rfl (.inl rfl) (d_call D__law_wrong_at (hr.mono (by omega)) (takes_of rfl rfl rfl rfl) rfl (da_cons (d_var (pv 1)) da_nil)))
  (ds_cons (ds_ifT op_ge cmpI_2 (d_own (pv 2))
  (dst_one (dst_of (ds_set nd rfl (.inl rfl) (de_tup (da_cons (d_c pe_str) (da_cons (d_var (pv 2)) (da_cons (d_c pe_bl) da_nil)))))))
  (dst_cons (dst_set nd rfl (.inl rfl) (dt_call1 D__law_parsed (hr.mono (by omega)) (takes_of rfl rfl rfl rfl) rfl (dt_repl (d_var (pv 1)) (by decide))))
  (dst_one (dst_of (ds_if (dt_cmp op_gt cmpI_2 (fb (d_callB call_lenA len_1 rfl T.z_len PySem.boot_len (fb (d_call D__law_leaves_of (hr.mono (by omega)) (takes_of rfl rfl rfl rfl) rfl (da_cons (d_var (pv 3)) da_nil))))) (fb (d_c pe_int)))
  (ds_one (ds_set nd rfl (.inl rfl) (de_tup (da_cons (d_c pe_str) (da_cons (d_c pe_int) (da_cons (d_c pe_bl) da_nil))))))
  ds_nil)))))
  (ds_one (ds_ret (de_and (d_cmp (op_eqS (hu64 hr)) eq_2 (fb (d_call D__law_told (hr.mono (by omega)) (takes_of rfl rfl rfl rfl) rfl (da_cons (d_var (pv 1)) da_nil))) (d_own (pv 3))) (de_one (d_cmp (op_eqS (hu64 hr)) eq_2 (fb (d_call D__law_term_told (hr.mono (by omega)) (takes_of rfl rfl rfl rfl) rfl (da_cons (d_var (pv 1)) da_nil))) (d_own (pv 3))))))))))
end
theorem all_mk {l : PySem.W.OpenLaw} {w : World} {K : PySem.W.Frag} {h : Heap} {mg : Str → Option Value} {fa : Addr} (X : K.In h) (G : h.Ns mainGlobals mg) (hfa : mg "law" = some (.ref fa))
    {C_Term : Addr} (ca_Term : PySem.W.nsIn K mainGlobals "Term" = some (some (.ref C_Term)))
    {f0 : Addr} {od0 an0 : Option Addr} {sl0 : Array (Option Value)} {oc0 kV0 dc0 pm0 cd0 ct0 : Value}
    (a0 : PySem.W.nsIn K mainGlobals "_law_string" = some (some (.ref f0)))
    (l0 : K.lookup f0 = some ⟨oc0, od0, .func (PySem.W.fnOf "_law_string" "_law_string" (defArgs s__law_string) (defBody s__law_string) (defScope s__law_string) .none kV0 dc0 pm0 an0 cd0 ct0), sl0⟩)
    (c0 : PySem.W.codeIn K cd0 "_law_string" = true) (k0 : PySem.W.keepIn K (.ref f0) = true)
    {f1 : Addr} {od1 an1 : Option Addr} {sl1 : Array (Option Value)} {oc1 kV1 dc1 pm1 cd1 ct1 : Value}
    (a1 : PySem.W.nsIn K mainGlobals "_law_drawn" = some (some (.ref f1)))
    (l1 : K.lookup f1 = some ⟨oc1, od1, .func (PySem.W.fnOf "_law_drawn" "_law_drawn" (defArgs s__law_drawn) (defBody s__law_drawn) (defScope s__law_drawn) .none kV1 dc1 pm1 an1 cd1 ct1), sl1⟩)
    (c1 : PySem.W.codeIn K cd1 "_law_drawn" = true) (k1 : PySem.W.keepIn K (.ref f1) = true)
    {f2 : Addr} {od2 an2 : Option Addr} {sl2 : Array (Option Value)} {oc2 kV2 dc2 pm2 cd2 ct2 : Value}
    (a2 : PySem.W.nsIn K mainGlobals "_law_wrong_at" = some (some (.ref f2)))
    (l2 : K.lookup f2 = some ⟨oc2, od2, .func (PySem.W.fnOf "_law_wrong_at" "_law_wrong_at" (defArgs s__law_wrong_at) (defBody s__law_wrong_at) (defScope s__law_wrong_at) .none kV2 dc2 pm2 an2 cd2 ct2), sl2⟩)
    (c2 : PySem.W.codeIn K cd2 "_law_wrong_at" = true) (k2 : PySem.W.keepIn K (.ref f2) = true)
    {f3 : Addr} {od3 an3 : Option Addr} {sl3 : Array (Option Value)} {oc3 kV3 dc3 pm3 cd3 ct3 : Value}
    (a3 : PySem.W.nsIn K mainGlobals "_law_parsed" = some (some (.ref f3)))
    (l3 : K.lookup f3 = some ⟨oc3, od3, .func (PySem.W.fnOf "_law_parsed" "_law_parsed" (defArgs s__law_parsed) (defBody s__law_parsed) (defScope s__law_parsed) .none kV3 dc3 pm3 an3 cd3 ct3), sl3⟩)
    (c3 : PySem.W.codeIn K cd3 "_law_parsed" = true) (k3 : PySem.W.keepIn K (.ref f3) = true)
    {f4 : Addr} {od4 an4 : Option Addr} {sl4 : Array (Option Value)} {oc4 kV4 dc4 pm4 cd4 ct4 : Value}
    (a4 : PySem.W.nsIn K mainGlobals "_law_leaves_of" = some (some (.ref f4)))
    (l4 : K.lookup f4 = some ⟨oc4, od4, .func (PySem.W.fnOf "_law_leaves_of" "_law_leaves_of" (defArgs s__law_leaves_of) (defBody s__law_leaves_of) (defScope s__law_leaves_of) .none kV4 dc4 pm4 an4 cd4 ct4), sl4⟩)
    (c4 : PySem.W.codeIn K cd4 "_law_leaves_of" = true) (k4 : PySem.W.keepIn K (.ref f4) = true)
    {f5 : Addr} {od5 an5 : Option Addr} {sl5 : Array (Option Value)} {oc5 kV5 dc5 pm5 cd5 ct5 : Value}
    (a5 : PySem.W.nsIn K mainGlobals "check_text" = some (some (.ref f5)))
    (l5 : K.lookup f5 = some ⟨oc5, od5, .func (PySem.W.fnOf "check_text" "check_text" (defArgs s_check_text) (defBody s_check_text) (defScope s_check_text) .none kV5 dc5 pm5 an5 cd5 ct5), sl5⟩)
    (c5 : PySem.W.codeIn K cd5 "check_text" = true) (k5 : PySem.W.keepIn K (.ref f5) = true)
    {f6 : Addr} {od6 an6 : Option Addr} {sl6 : Array (Option Value)} {oc6 kV6 dc6 pm6 cd6 ct6 : Value}
    (a6 : PySem.W.nsIn K mainGlobals "leaves" = some (some (.ref f6)))
    (l6 : K.lookup f6 = some ⟨oc6, od6, .func (PySem.W.fnOf "leaves" "leaves" (defArgs s_leaves) (defBody s_leaves) (defScope s_leaves) .none kV6 dc6 pm6 an6 cd6 ct6), sl6⟩)
    (c6 : PySem.W.codeIn K cd6 "leaves" = true) (k6 : PySem.W.keepIn K (.ref f6) = true)
    {f7 : Addr} {od7 an7 : Option Addr} {sl7 : Array (Option Value)} {oc7 kV7 dc7 pm7 cd7 ct7 : Value}
    (a7 : PySem.W.nsIn K mainGlobals "read_tree" = some (some (.ref f7)))
    (l7 : K.lookup f7 = some ⟨oc7, od7, .func (PySem.W.fnOf "read_tree" "read_tree" (defArgs s_read_tree) (defBody s_read_tree) (defScope s_read_tree) .none kV7 dc7 pm7 an7 cd7 ct7), sl7⟩)
    (c7 : PySem.W.codeIn K cd7 "read_tree" = true) (k7 : PySem.W.keepIn K (.ref f7) = true)
    {f8 : Addr} {od8 an8 : Option Addr} {sl8 : Array (Option Value)} {oc8 kV8 dc8 pm8 cd8 ct8 : Value}
    (a8 : PySem.W.nsIn K mainGlobals "_law_told" = some (some (.ref f8)))
    (l8 : K.lookup f8 = some ⟨oc8, od8, .func (PySem.W.fnOf "_law_told" "_law_told" (defArgs s__law_told) (defBody s__law_told) (defScope s__law_told) .none kV8 dc8 pm8 an8 cd8 ct8), sl8⟩)
    (c8 : PySem.W.codeIn K cd8 "_law_told" = true) (k8 : PySem.W.keepIn K (.ref f8) = true)
    {f9 : Addr} {od9 an9 : Option Addr} {sl9 : Array (Option Value)} {oc9 kV9 dc9 pm9 cd9 ct9 : Value}
    (a9 : PySem.W.findIn K (.ref C_Term) "__init__" = some (some (.ref f9)))
    (l9 : K.lookup f9 = some ⟨oc9, od9, .func (PySem.W.fnOf "__init__" "Term.__init__" (defArgs s_Term___init__) (defBody s_Term___init__) (defScope s_Term___init__) .none kV9 dc9 pm9 an9 cd9 ct9), sl9⟩)
    (c9 : PySem.W.codeIn K cd9 "Term.__init__" = true) (k9 : PySem.W.keepIn K (.ref f9) = true)
    (n9 : PySem.W.isFn K (.ref f9) = true)
    {f10 : Addr} {od10 an10 : Option Addr} {sl10 : Array (Option Value)} {oc10 kV10 dc10 pm10 cd10 ct10 : Value}
    {p10 : Addr} (a10 : PySem.W.findCls K (.ref C_Term) (.type "type") "read" = some (.get (.builtin "classmethod.__get__") (.ref p10) .none (.ref C_Term))) {rr10 : List Value} (pr10 : PySem.W.recIn K p10 "classmethod" = some (.ref f10 :: rr10)) (fi10 : PySem.W.fnIn K f10 = true)
    (rd_Term : PySem.W.readsIn K C_Term (.type "type") = true) (ga_Term : PySem.W.specialIn K (.ref C_Term) "__getattribute__" = some (some (.builtin "type.__getattribute__")))
    (l10 : K.lookup f10 = some ⟨oc10, od10, .func (PySem.W.fnOf "read" "Term.read" (defArgs s_Term_read) (defBody s_Term_read) (defScope s_Term_read) .none kV10 dc10 pm10 an10 cd10 ct10), sl10⟩)
    (c10 : PySem.W.codeIn K cd10 "Term.read" = true) (k10 : PySem.W.keepIn K (.ref f10) = true)
    (n10 : PySem.W.isFn K (.ref f10) = true)
    {f11 : Addr} {od11 an11 : Option Addr} {sl11 : Array (Option Value)} {oc11 kV11 dc11 pm11 cd11 ct11 : Value}
    (a11 : PySem.W.nsIn K mainGlobals "_law_term_told" = some (some (.ref f11)))
    (l11 : K.lookup f11 = some ⟨oc11, od11, .func (PySem.W.fnOf "_law_term_told" "_law_term_told" (defArgs s__law_term_told) (defBody s__law_term_told) (defScope s__law_term_told) .none kV11 dc11 pm11 an11 cd11 ct11), sl11⟩)
    (c11 : PySem.W.codeIn K cd11 "_law_term_told" = true) (k11 : PySem.W.keepIn K (.ref f11) = true)
    {f12 : Addr} {od12 an12 : Option Addr} {sl12 : Array (Option Value)} {oc12 kV12 dc12 pm12 cd12 ct12 : Value}
    (a12 : PySem.W.nsIn K mainGlobals "law" = some (some (.ref f12)))
    (l12 : K.lookup f12 = some ⟨oc12, od12, .func (PySem.W.fnOf "law" "law" (defArgs s_law) (defBody s_law) (defScope s_law) .none kV12 dc12 pm12 an12 cd12 ct12), sl12⟩)
    (c12 : PySem.W.codeIn K cd12 "law" = true) (k12 : PySem.W.keepIn K (.ref f12) = true)
    (z_len : PySem.W.nsIn K mainGlobals "len" = some none)
    (z_range : PySem.W.nsIn K mainGlobals "range" = some none)
    (z_int : PySem.W.nsIn K mainGlobals "int" = some none)
    (z_isinstance : PySem.W.nsIn K mainGlobals "isinstance" = some none)
    (z_str : PySem.W.nsIn K mainGlobals "str" = some none)
    (z_super : PySem.W.nsIn K mainGlobals "super" = some none)
    {t_MOST_CHARACTERS : Tok} (c_MOST_CHARACTERS : PySem.W.nsIn K mainGlobals "MOST_CHARACTERS" = some (some (.int 80 t_MOST_CHARACTERS)))
    {t_MOST_LEAVES : Tok} (c_MOST_LEAVES : PySem.W.nsIn K mainGlobals "MOST_LEAVES" = some (some (.int 7 t_MOST_LEAVES)))
    {t_ALPHABET : Tok} (c_ALPHABET : PySem.W.nsIn K mainGlobals "ALPHABET" = some (some (.str "ABCDEFGHIJKLMNOPQRSTUVWXYZ" t_ALPHABET)))
    {C_TooMany I_TooMany cda_TooMany cc_TooMany N_TooMany : Addr} {nm_TooMany q_TooMany qual_TooMany pre_TooMany : Str} {suf_TooMany : List Expr} {bs_TooMany bm_TooMany sub_TooMany : List Value} {sn_TooMany : List Str} {ab_TooMany : Bool} {col_TooMany : Option Bool} {dd_TooMany od_TooMany an_TooMany cdd_TooMany cld_TooMany : Option Addr} {k0_TooMany k1_TooMany k2_TooMany k3_TooMany k5_TooMany : Option Value} {oc_TooMany kV_TooMany doc_TooMany pm_TooMany ct_TooMany ccl_TooMany cl_TooMany : Value} {osl_TooMany ccs_TooMany csl_TooMany : Array (Option Value)} {vs_TooMany : Array Value} {p1_TooMany p2_TooMany q1_TooMany q2_TooMany q3_TooMany q4_TooMany q5_TooMany q6_TooMany q7_TooMany q8_TooMany q9_TooMany r1_TooMany r2_TooMany r3_TooMany r4_TooMany : Pos}
    (ea_TooMany : PySem.W.nsIn K mainGlobals "TooMany" = some (some (.ref C_TooMany)))
    (el_TooMany : K.lookup C_TooMany = some (excClassObj nm_TooMany q_TooMany C_TooMany N_TooMany bs_TooMany bm_TooMany true sn_TooMany sub_TooMany ab_TooMany col_TooMany dd_TooMany k0_TooMany k1_TooMany k2_TooMany k3_TooMany k5_TooMany "ValueError.__new__"))
    (ei_TooMany : PySem.W.findIn K (.ref C_TooMany) "__init__" = some (some (.ref I_TooMany)))
    (ef_TooMany : K.lookup I_TooMany = some ⟨oc_TooMany, od_TooMany, .func (PySem.W.ksFn "__init__" qual_TooMany (HLX.iA "limit" p1_TooMany p2_TooMany) (HLX.iB "limit" pre_TooMany suf_TooMany q1_TooMany q2_TooMany q3_TooMany q4_TooMany q5_TooMany q6_TooMany q7_TooMany q8_TooMany q9_TooMany r1_TooMany r2_TooMany r3_TooMany r4_TooMany) (HLX.iS "limit") .none kV_TooMany doc_TooMany pm_TooMany an_TooMany (.ref cda_TooMany) ct_TooMany cc_TooMany), osl_TooMany⟩)
    (ec_TooMany : K.lookup cda_TooMany = some ⟨ccl_TooMany, cdd_TooMany, .fields vs_TooMany, ccs_TooMany⟩) (eL_TooMany : K.lookup cc_TooMany = some ⟨cl_TooMany, cld_TooMany, .cell (some (.ref C_TooMany)), csl_TooMany⟩)
    (eb_TooMany : errB l.prog K "limit" C_TooMany I_TooMany cda_TooMany vs_TooMany bm_TooMany qual_TooMany pre_TooMany suf_TooMany q3_TooMany q8_TooMany = true)
    {C_Unread I_Unread cda_Unread cc_Unread N_Unread : Addr} {nm_Unread q_Unread qual_Unread pre_Unread : Str} {suf_Unread : List Expr} {bs_Unread bm_Unread sub_Unread : List Value} {sn_Unread : List Str} {ab_Unread : Bool} {col_Unread : Option Bool} {dd_Unread od_Unread an_Unread cdd_Unread cld_Unread : Option Addr} {k0_Unread k1_Unread k2_Unread k3_Unread k5_Unread : Option Value} {oc_Unread kV_Unread doc_Unread pm_Unread ct_Unread ccl_Unread cl_Unread : Value} {osl_Unread ccs_Unread csl_Unread : Array (Option Value)} {vs_Unread : Array Value} {p1_Unread p2_Unread q1_Unread q2_Unread q3_Unread q4_Unread q5_Unread q6_Unread q7_Unread q8_Unread q9_Unread r1_Unread r2_Unread r3_Unread r4_Unread : Pos}
    (ea_Unread : PySem.W.nsIn K mainGlobals "Unread" = some (some (.ref C_Unread)))
    (el_Unread : K.lookup C_Unread = some (excClassObj nm_Unread q_Unread C_Unread N_Unread bs_Unread bm_Unread true sn_Unread sub_Unread ab_Unread col_Unread dd_Unread k0_Unread k1_Unread k2_Unread k3_Unread k5_Unread "ValueError.__new__"))
    (ei_Unread : PySem.W.findIn K (.ref C_Unread) "__init__" = some (some (.ref I_Unread)))
    (ef_Unread : K.lookup I_Unread = some ⟨oc_Unread, od_Unread, .func (PySem.W.ksFn "__init__" qual_Unread (HLX.iA "at" p1_Unread p2_Unread) (HLX.iB "at" pre_Unread suf_Unread q1_Unread q2_Unread q3_Unread q4_Unread q5_Unread q6_Unread q7_Unread q8_Unread q9_Unread r1_Unread r2_Unread r3_Unread r4_Unread) (HLX.iS "at") .none kV_Unread doc_Unread pm_Unread an_Unread (.ref cda_Unread) ct_Unread cc_Unread), osl_Unread⟩)
    (ec_Unread : K.lookup cda_Unread = some ⟨ccl_Unread, cdd_Unread, .fields vs_Unread, ccs_Unread⟩) (eL_Unread : K.lookup cc_Unread = some ⟨cl_Unread, cld_Unread, .cell (some (.ref C_Unread)), csl_Unread⟩)
    (eb_Unread : errB l.prog K "at" C_Unread I_Unread cda_Unread vs_Unread bm_Unread qual_Unread pre_Unread suf_Unread q3_Unread q8_Unread = true)
    {C_BadHead I_BadHead cda_BadHead cc_BadHead N_BadHead : Addr} {nm_BadHead q_BadHead qual_BadHead pre_BadHead : Str} {suf_BadHead : List Expr} {bs_BadHead bm_BadHead sub_BadHead : List Value} {sn_BadHead : List Str} {ab_BadHead : Bool} {col_BadHead : Option Bool} {dd_BadHead od_BadHead an_BadHead cdd_BadHead cld_BadHead : Option Addr} {k0_BadHead k1_BadHead k2_BadHead k3_BadHead k5_BadHead : Option Value} {oc_BadHead kV_BadHead doc_BadHead pm_BadHead ct_BadHead ccl_BadHead cl_BadHead : Value} {osl_BadHead ccs_BadHead csl_BadHead : Array (Option Value)} {vs_BadHead : Array Value} {p1_BadHead p2_BadHead q1_BadHead q2_BadHead q3_BadHead q4_BadHead q5_BadHead q6_BadHead q7_BadHead q8_BadHead q9_BadHead r1_BadHead r2_BadHead r3_BadHead r4_BadHead : Pos}
    (ea_BadHead : PySem.W.nsIn K mainGlobals "BadHead" = some (some (.ref C_BadHead)))
    (el_BadHead : K.lookup C_BadHead = some (excClassObj nm_BadHead q_BadHead C_BadHead N_BadHead bs_BadHead bm_BadHead true sn_BadHead sub_BadHead ab_BadHead col_BadHead dd_BadHead k0_BadHead k1_BadHead k2_BadHead k3_BadHead k5_BadHead "ValueError.__new__"))
    (ei_BadHead : PySem.W.findIn K (.ref C_BadHead) "__init__" = some (some (.ref I_BadHead)))
    (ef_BadHead : K.lookup I_BadHead = some ⟨oc_BadHead, od_BadHead, .func (PySem.W.ksFn "__init__" qual_BadHead (HLX.iA "column" p1_BadHead p2_BadHead) (HLX.iB "column" pre_BadHead suf_BadHead q1_BadHead q2_BadHead q3_BadHead q4_BadHead q5_BadHead q6_BadHead q7_BadHead q8_BadHead q9_BadHead r1_BadHead r2_BadHead r3_BadHead r4_BadHead) (HLX.iS "column") .none kV_BadHead doc_BadHead pm_BadHead an_BadHead (.ref cda_BadHead) ct_BadHead cc_BadHead), osl_BadHead⟩)
    (ec_BadHead : K.lookup cda_BadHead = some ⟨ccl_BadHead, cdd_BadHead, .fields vs_BadHead, ccs_BadHead⟩) (eL_BadHead : K.lookup cc_BadHead = some ⟨cl_BadHead, cld_BadHead, .cell (some (.ref C_BadHead)), csl_BadHead⟩)
    (eb_BadHead : errB l.prog K "column" C_BadHead I_BadHead cda_BadHead vs_BadHead bm_BadHead qual_BadHead pre_BadHead suf_BadHead q3_BadHead q8_BadHead = true)
    {C_BadRow I_BadRow cda_BadRow cc_BadRow N_BadRow : Addr} {nm_BadRow q_BadRow qual_BadRow pre_BadRow : Str} {suf_BadRow : List Expr} {bs_BadRow bm_BadRow sub_BadRow : List Value} {sn_BadRow : List Str} {ab_BadRow : Bool} {col_BadRow : Option Bool} {dd_BadRow od_BadRow an_BadRow cdd_BadRow cld_BadRow : Option Addr} {k0_BadRow k1_BadRow k2_BadRow k3_BadRow k5_BadRow : Option Value} {oc_BadRow kV_BadRow doc_BadRow pm_BadRow ct_BadRow ccl_BadRow cl_BadRow : Value} {osl_BadRow ccs_BadRow csl_BadRow : Array (Option Value)} {vs_BadRow : Array Value} {p1_BadRow p2_BadRow q1_BadRow q2_BadRow q3_BadRow q4_BadRow q5_BadRow q6_BadRow q7_BadRow q8_BadRow q9_BadRow r1_BadRow r2_BadRow r3_BadRow r4_BadRow : Pos}
    (ea_BadRow : PySem.W.nsIn K mainGlobals "BadRow" = some (some (.ref C_BadRow)))
    (el_BadRow : K.lookup C_BadRow = some (excClassObj nm_BadRow q_BadRow C_BadRow N_BadRow bs_BadRow bm_BadRow true sn_BadRow sub_BadRow ab_BadRow col_BadRow dd_BadRow k0_BadRow k1_BadRow k2_BadRow k3_BadRow k5_BadRow "ValueError.__new__"))
    (ei_BadRow : PySem.W.findIn K (.ref C_BadRow) "__init__" = some (some (.ref I_BadRow)))
    (ef_BadRow : K.lookup I_BadRow = some ⟨oc_BadRow, od_BadRow, .func (PySem.W.ksFn "__init__" qual_BadRow (HLX.iA "at" p1_BadRow p2_BadRow) (HLX.iB "at" pre_BadRow suf_BadRow q1_BadRow q2_BadRow q3_BadRow q4_BadRow q5_BadRow q6_BadRow q7_BadRow q8_BadRow q9_BadRow r1_BadRow r2_BadRow r3_BadRow r4_BadRow) (HLX.iS "at") .none kV_BadRow doc_BadRow pm_BadRow an_BadRow (.ref cda_BadRow) ct_BadRow cc_BadRow), osl_BadRow⟩)
    (ec_BadRow : K.lookup cda_BadRow = some ⟨ccl_BadRow, cdd_BadRow, .fields vs_BadRow, ccs_BadRow⟩) (eL_BadRow : K.lookup cc_BadRow = some ⟨cl_BadRow, cld_BadRow, .cell (some (.ref C_BadRow)), csl_BadRow⟩)
    (eb_BadRow : errB l.prog K "at" C_BadRow I_BadRow cda_BadRow vs_BadRow bm_BadRow qual_BadRow pre_BadRow suf_BadRow q3_BadRow q8_BadRow = true)
    {C_NoTable I_NoTable cda_NoTable cc_NoTable N_NoTable : Addr} {nm_NoTable q_NoTable qual_NoTable pre_NoTable : Str} {suf_NoTable : List Expr} {bs_NoTable bm_NoTable sub_NoTable : List Value} {sn_NoTable : List Str} {ab_NoTable : Bool} {col_NoTable : Option Bool} {dd_NoTable od_NoTable an_NoTable cdd_NoTable cld_NoTable : Option Addr} {k0_NoTable k1_NoTable k2_NoTable k3_NoTable k5_NoTable : Option Value} {oc_NoTable kV_NoTable doc_NoTable pm_NoTable ct_NoTable ccl_NoTable cl_NoTable : Value} {osl_NoTable ccs_NoTable csl_NoTable : Array (Option Value)} {vs_NoTable : Array Value} {p1_NoTable p2_NoTable q1_NoTable q2_NoTable q3_NoTable q4_NoTable q5_NoTable q6_NoTable q7_NoTable q8_NoTable q9_NoTable r1_NoTable r2_NoTable r3_NoTable r4_NoTable : Pos}
    (ea_NoTable : PySem.W.nsIn K mainGlobals "NoTable" = some (some (.ref C_NoTable)))
    (el_NoTable : K.lookup C_NoTable = some (excClassObj nm_NoTable q_NoTable C_NoTable N_NoTable bs_NoTable bm_NoTable true sn_NoTable sub_NoTable ab_NoTable col_NoTable dd_NoTable k0_NoTable k1_NoTable k2_NoTable k3_NoTable k5_NoTable "ValueError.__new__"))
    (ei_NoTable : PySem.W.findIn K (.ref C_NoTable) "__init__" = some (some (.ref I_NoTable)))
    (ef_NoTable : K.lookup I_NoTable = some ⟨oc_NoTable, od_NoTable, .func (PySem.W.ksFn "__init__" qual_NoTable (HLX.iA "name" p1_NoTable p2_NoTable) (HLX.iB "name" pre_NoTable suf_NoTable q1_NoTable q2_NoTable q3_NoTable q4_NoTable q5_NoTable q6_NoTable q7_NoTable q8_NoTable q9_NoTable r1_NoTable r2_NoTable r3_NoTable r4_NoTable) (HLX.iS "name") .none kV_NoTable doc_NoTable pm_NoTable an_NoTable (.ref cda_NoTable) ct_NoTable cc_NoTable), osl_NoTable⟩)
    (ec_NoTable : K.lookup cda_NoTable = some ⟨ccl_NoTable, cdd_NoTable, .fields vs_NoTable, ccs_NoTable⟩) (eL_NoTable : K.lookup cc_NoTable = some ⟨cl_NoTable, cld_NoTable, .cell (some (.ref C_NoTable)), csl_NoTable⟩)
    (eb_NoTable : errB l.prog K "name" C_NoTable I_NoTable cda_NoTable vs_NoTable bm_NoTable qual_NoTable pre_NoTable suf_NoTable q3_NoTable q8_NoTable = true)
    {C_Refused I_Refused cda_Refused cc_Refused N_Refused : Addr} {nm_Refused q_Refused qual_Refused pre_Refused : Str} {suf_Refused : List Expr} {bs_Refused bm_Refused sub_Refused : List Value} {sn_Refused : List Str} {ab_Refused : Bool} {col_Refused : Option Bool} {dd_Refused od_Refused an_Refused cdd_Refused cld_Refused : Option Addr} {k0_Refused k1_Refused k2_Refused k3_Refused k5_Refused : Option Value} {oc_Refused kV_Refused doc_Refused pm_Refused ct_Refused ccl_Refused cl_Refused : Value} {osl_Refused ccs_Refused csl_Refused : Array (Option Value)} {vs_Refused : Array Value} {p1_Refused p2_Refused q1_Refused q2_Refused q3_Refused q4_Refused q5_Refused q6_Refused q7_Refused q8_Refused q9_Refused r1_Refused r2_Refused r3_Refused r4_Refused : Pos}
    (ea_Refused : PySem.W.nsIn K mainGlobals "Refused" = some (some (.ref C_Refused)))
    (el_Refused : K.lookup C_Refused = some (excClassObj nm_Refused q_Refused C_Refused N_Refused bs_Refused bm_Refused true sn_Refused sub_Refused ab_Refused col_Refused dd_Refused k0_Refused k1_Refused k2_Refused k3_Refused k5_Refused "ValueError.__new__"))
    (ei_Refused : PySem.W.findIn K (.ref C_Refused) "__init__" = some (some (.ref I_Refused)))
    (ef_Refused : K.lookup I_Refused = some ⟨oc_Refused, od_Refused, .func (PySem.W.ksFn "__init__" qual_Refused (HLX.iA "name" p1_Refused p2_Refused) (HLX.iB "name" pre_Refused suf_Refused q1_Refused q2_Refused q3_Refused q4_Refused q5_Refused q6_Refused q7_Refused q8_Refused q9_Refused r1_Refused r2_Refused r3_Refused r4_Refused) (HLX.iS "name") .none kV_Refused doc_Refused pm_Refused an_Refused (.ref cda_Refused) ct_Refused cc_Refused), osl_Refused⟩)
    (ec_Refused : K.lookup cda_Refused = some ⟨ccl_Refused, cdd_Refused, .fields vs_Refused, ccs_Refused⟩) (eL_Refused : K.lookup cc_Refused = some ⟨cl_Refused, cld_Refused, .cell (some (.ref C_Refused)), csl_Refused⟩)
    (eb_Refused : errB l.prog K "name" C_Refused I_Refused cda_Refused vs_Refused bm_Refused qual_Refused pre_Refused suf_Refused q3_Refused q8_Refused = true)
    (ex : exB K [("TooMany", C_TooMany), ("Unread", C_Unread), ("BadHead", C_BadHead), ("BadRow", C_BadRow), ("NoTable", C_NoTable), ("Refused", C_Refused)] = true)
    (cb_Term : clsB K C_Term = true)
    (xf : fldB K [("TooMany", C_TooMany), ("Unread", C_Unread), ("BadHead", C_BadHead), ("BadRow", C_BadRow), ("NoTable", C_NoTable), ("Refused", C_Refused), ("Term", C_Term)] = true)
    : ∃ fd : FuncData, (∀ (s : Shared) (v : Value), BindsTo s fd ⟨[v], []⟩ [("_law_script", v)]) ∧ ∀ base : Heap, K.In base → base.Ns mainGlobals mg → FnOk l.prog w K mg base (L2.CX l.prog w) 54 fa fd ["_law_script"] (spD (clOf [("TooMany", C_TooMany), ("Unread", C_Unread), ("BadHead", C_BadHead), ("BadRow", C_BadRow), ("NoTable", C_NoTable), ("Refused", C_Refused), ("Term", C_Term)]) 1 f_law) := by
  have e := hfa.symm.trans (PySem.W.mg_of X G a12)
  cases e
  have E_TooMany : ErrAll l.prog K mg (clOf [("TooMany", C_TooMany), ("Unread", C_Unread), ("BadHead", C_BadHead), ("BadRow", C_BadRow), ("NoTable", C_NoTable), ("Refused", C_Refused), ("Term", C_Term)]) "TooMany" "limit" := err_mk X G z_super rfl ea_TooMany el_TooMany ei_TooMany ef_TooMany ec_TooMany eL_TooMany eb_TooMany
  have E_Unread : ErrAll l.prog K mg (clOf [("TooMany", C_TooMany), ("Unread", C_Unread), ("BadHead", C_BadHead), ("BadRow", C_BadRow), ("NoTable", C_NoTable), ("Refused", C_Refused), ("Term", C_Term)]) "Unread" "at" := err_mk X G z_super rfl ea_Unread el_Unread ei_Unread ef_Unread ec_Unread eL_Unread eb_Unread
  have E_BadHead : ErrAll l.prog K mg (clOf [("TooMany", C_TooMany), ("Unread", C_Unread), ("BadHead", C_BadHead), ("BadRow", C_BadRow), ("NoTable", C_NoTable), ("Refused", C_Refused), ("Term", C_Term)]) "BadHead" "column" := err_mk X G z_super rfl ea_BadHead el_BadHead ei_BadHead ef_BadHead ec_BadHead eL_BadHead eb_BadHead
  have E_BadRow : ErrAll l.prog K mg (clOf [("TooMany", C_TooMany), ("Unread", C_Unread), ("BadHead", C_BadHead), ("BadRow", C_BadRow), ("NoTable", C_NoTable), ("Refused", C_Refused), ("Term", C_Term)]) "BadRow" "at" := err_mk X G z_super rfl ea_BadRow el_BadRow ei_BadRow ef_BadRow ec_BadRow eL_BadRow eb_BadRow
  have E_NoTable : ErrAll l.prog K mg (clOf [("TooMany", C_TooMany), ("Unread", C_Unread), ("BadHead", C_BadHead), ("BadRow", C_BadRow), ("NoTable", C_NoTable), ("Refused", C_Refused), ("Term", C_Term)]) "NoTable" "name" := err_mk X G z_super rfl ea_NoTable el_NoTable ei_NoTable ef_NoTable ec_NoTable eL_NoTable eb_NoTable
  have E_Refused : ErrAll l.prog K mg (clOf [("TooMany", C_TooMany), ("Unread", C_Unread), ("BadHead", C_BadHead), ("BadRow", C_BadRow), ("NoTable", C_NoTable), ("Refused", C_Refused), ("Term", C_Term)]) "Refused" "name" := err_mk X G z_super rfl ea_Refused el_Refused ei_Refused ef_Refused ec_Refused eL_Refused eb_Refused
  have E1_TooMany : ErrAll l.prog K mg (clOf [("TooMany", C_TooMany), ("Unread", C_Unread), ("BadHead", C_BadHead), ("BadRow", C_BadRow), ("NoTable", C_NoTable), ("Refused", C_Refused)]) "TooMany" "limit" := err_mk X G z_super rfl ea_TooMany el_TooMany ei_TooMany ef_TooMany ec_TooMany eL_TooMany eb_TooMany
  have E1_Unread : ErrAll l.prog K mg (clOf [("TooMany", C_TooMany), ("Unread", C_Unread), ("BadHead", C_BadHead), ("BadRow", C_BadRow), ("NoTable", C_NoTable), ("Refused", C_Refused)]) "Unread" "at" := err_mk X G z_super rfl ea_Unread el_Unread ei_Unread ef_Unread ec_Unread eL_Unread eb_Unread
  have E1_BadHead : ErrAll l.prog K mg (clOf [("TooMany", C_TooMany), ("Unread", C_Unread), ("BadHead", C_BadHead), ("BadRow", C_BadRow), ("NoTable", C_NoTable), ("Refused", C_Refused)]) "BadHead" "column" := err_mk X G z_super rfl ea_BadHead el_BadHead ei_BadHead ef_BadHead ec_BadHead eL_BadHead eb_BadHead
  have E1_BadRow : ErrAll l.prog K mg (clOf [("TooMany", C_TooMany), ("Unread", C_Unread), ("BadHead", C_BadHead), ("BadRow", C_BadRow), ("NoTable", C_NoTable), ("Refused", C_Refused)]) "BadRow" "at" := err_mk X G z_super rfl ea_BadRow el_BadRow ei_BadRow ef_BadRow ec_BadRow eL_BadRow eb_BadRow
  have E1_NoTable : ErrAll l.prog K mg (clOf [("TooMany", C_TooMany), ("Unread", C_Unread), ("BadHead", C_BadHead), ("BadRow", C_BadRow), ("NoTable", C_NoTable), ("Refused", C_Refused)]) "NoTable" "name" := err_mk X G z_super rfl ea_NoTable el_NoTable ei_NoTable ef_NoTable ec_NoTable eL_NoTable eb_NoTable
  have E1_Refused : ErrAll l.prog K mg (clOf [("TooMany", C_TooMany), ("Unread", C_Unread), ("BadHead", C_BadHead), ("BadRow", C_BadRow), ("NoTable", C_NoTable), ("Refused", C_Refused)]) "Refused" "name" := err_mk X G z_super rfl ea_Refused el_Refused ei_Refused ef_Refused ec_Refused eL_Refused eb_Refused
  have hxe : ∀ p ∈ ([("TooMany", C_TooMany), ("Unread", C_Unread), ("BadHead", C_BadHead), ("BadRow", C_BadRow), ("NoTable", C_NoTable), ("Refused", C_Refused)] : List (Str × Addr)), L2.XfC K p.2 ∧ XkC K p.2 := by
    simp only [List.mem_cons, List.not_mem_nil, or_false]
    rintro p (rfl | rfl | rfl | rfl | rfl | rfl) <;> first | exact E1_TooMany.xf rfl | exact E1_Unread.xf rfl | exact E1_BadHead.xf rfl | exact E1_BadRow.xf rfl | exact E1_NoTable.xf rfl | exact E1_Refused.xf rfl
  have T : Txt l.prog K mg (clOf [("TooMany", C_TooMany), ("Unread", C_Unread), ("BadHead", C_BadHead), ("BadRow", C_BadRow), ("NoTable", C_NoTable), ("Refused", C_Refused), ("Term", C_Term)]) 0 C_TooMany C_Unread C_BadHead C_BadRow C_NoTable C_Refused C_Term := ⟨PySem.W.mg_none_of X G z_len, PySem.W.mg_none_of X G z_range, PySem.W.mg_none_of X G z_int, PySem.W.mg_none_of X G z_isinstance, PySem.W.mg_none_of X G z_str, cst_int X G c_MOST_CHARACTERS, cst_int X G c_MOST_LEAVES, cst_str X G c_ALPHABET, E_TooMany, PySem.W.mg_of X G ea_TooMany, rfl, E_Unread, PySem.W.mg_of X G ea_Unread, rfl, E_BadHead, PySem.W.mg_of X G ea_BadHead, rfl, E_BadRow, PySem.W.mg_of X G ea_BadRow, rfl, E_NoTable, PySem.W.mg_of X G ea_NoTable, rfl, E_Refused, PySem.W.mg_of X G ea_Refused, rfl, errTab_mk2 (le := [("TooMany", C_TooMany), ("Unread", C_Unread), ("BadHead", C_BadHead), ("BadRow", C_BadRow), ("NoTable", C_NoTable), ("Refused", C_Refused)]) (lc := [("Term", C_Term)]) ex hxe (by rfl), PySem.W.mg_of X G ca_Term, rfl, fldTab_mk xf⟩
  have F0 := fun_mk (st := s__law_string) l0 c0 k0
  have B0 := F0.binds (ps := ["_law_cells"]) fun _ _ _ _ _ _ us hl => match us, hl with | [_], _ => rfl
  have F1 := fun_mk (st := s__law_drawn) l1 c1 k1
  have B1 := F1.binds (ps := ["_law_script", "_law_k", "_law_many"]) fun _ _ _ _ _ _ us hl => match us, hl with | [_, _, _], _ => rfl
  have F2 := fun_mk (st := s__law_wrong_at) l2 c2 k2
  have B2 := F2.binds (ps := ["_law_text"]) fun _ _ _ _ _ _ us hl => match us, hl with | [_], _ => rfl
  have F3 := fun_mk (st := s__law_parsed) l3 c3 k3
  have B3 := F3.binds (ps := ["_law_text"]) fun _ _ _ _ _ _ us hl => match us, hl with | [_], _ => rfl
  have F4 := fun_mk (st := s__law_leaves_of) l4 c4 k4
  have B4 := F4.binds (ps := ["_law_tree"]) fun _ _ _ _ _ _ us hl => match us, hl with | [_], _ => rfl
  have F5 := fun_mk (st := s_check_text) l5 c5 k5
  have B5 := F5.binds (ps := ["text"]) fun _ _ _ _ _ _ us hl => match us, hl with | [_], _ => rfl
  have F6 := fun_mk (st := s_leaves) l6 c6 k6
  have B6 := F6.binds (ps := ["tree"]) fun _ _ _ _ _ _ us hl => match us, hl with | [_], _ => rfl
  have F7 := fun_mk (st := s_read_tree) l7 c7 k7
  have B7 := F7.binds (ps := ["text"]) fun _ _ _ _ _ _ us hl => match us, hl with | [_], _ => rfl
  have F8 := fun_mk (st := s__law_told) l8 c8 k8
  have B8 := F8.binds (ps := ["_law_text"]) fun _ _ _ _ _ _ us hl => match us, hl with | [_], _ => rfl
  have F9 := fun_mk (st := s_Term___init__) l9 c9 k9
  have B9 := F9.binds (ps := ["self", "tree"]) fun _ _ _ _ _ _ us hl => match us, hl with | [_, _], _ => rfl
  have F10 := fun_mk (st := s_Term_read) l10 c10 k10
  have B10 := F10.binds (ps := ["cls", "text"]) fun _ _ _ _ _ _ us hl => match us, hl with | [_, _], _ => rfl
  have F11 := fun_mk (st := s__law_term_told) l11 c11 k11
  have B11 := F11.binds (ps := ["_law_text"]) fun _ _ _ _ _ _ us hl => match us, hl with | [_], _ => rfl
  have F12 := fun_mk (st := s_law) l12 c12 k12
  refine ⟨PySem.W.fnOf "law" "law" (defArgs s_law) (defBody s_law) (defScope s_law) .none kV12 dc12 pm12 an12 cd12 ct12, fun s v => .of_eq rfl, fun base _ _ => ?_⟩
  have D__law_string : Df l.prog w K mg base (clOf [("TooMany", C_TooMany), ("Unread", C_Unread), ("BadHead", C_BadHead), ("BadRow", C_BadRow), ("NoTable", C_NoTable), ("Refused", C_Refused), ("Term", C_Term)]) (1) "_law_string" 1 f__law_string := ⟨_, _, _, (d__law_string T F0 ), PySem.W.mg_of X G a0, F0.kp, B0⟩
  have D__law_drawn : Df l.prog w K mg base (clOf [("TooMany", C_TooMany), ("Unread", C_Unread), ("BadHead", C_BadHead), ("BadRow", C_BadRow), ("NoTable", C_NoTable), ("Refused", C_Refused), ("Term", C_Term)]) (1) "_law_drawn" 3 f__law_drawn := ⟨_, _, _, (d__law_drawn T F1 ), PySem.W.mg_of X G a1, F1.kp, B1⟩
  have D__law_wrong_at : Df l.prog w K mg base (clOf [("TooMany", C_TooMany), ("Unread", C_Unread), ("BadHead", C_BadHead), ("BadRow", C_BadRow), ("NoTable", C_NoTable), ("Refused", C_Refused), ("Term", C_Term)]) (1) "_law_wrong_at" 1 f__law_wrong_at := ⟨_, _, _, (d__law_wrong_at T F2 ), PySem.W.mg_of X G a2, F2.kp, B2⟩
  have R__law_parsed : ∀ n, Df l.prog w K mg base (clOf [("TooMany", C_TooMany), ("Unread", C_Unread), ("BadHead", C_BadHead), ("BadRow", C_BadRow), ("NoTable", C_NoTable), ("Refused", C_Refused), ("Term", C_Term)]) (1 + 1 * n) "_law_parsed" 1 (fr__law_parsed n) := by
    intro n
    induction n with
    | zero => exact ⟨_, _, _, fn_stuck, PySem.W.mg_of X G a3, F3.kp, B3⟩
    | succ n ih =>
      exact ⟨_, _, _, ((d__law_parsed (kk := 1 + 1 * n) (by omega) T F3 ih).mono (by omega)), PySem.W.mg_of X G a3, F3.kp, B3⟩
  have D__law_parsed : Df l.prog w K mg base (clOf [("TooMany", C_TooMany), ("Unread", C_Unread), ("BadHead", C_BadHead), ("BadRow", C_BadRow), ("NoTable", C_NoTable), ("Refused", C_Refused), ("Term", C_Term)]) (49) "_law_parsed" 1 f__law_parsed := R__law_parsed 48
  have R__law_leaves_of : ∀ n, Df l.prog w K mg base (clOf [("TooMany", C_TooMany), ("Unread", C_Unread), ("BadHead", C_BadHead), ("BadRow", C_BadRow), ("NoTable", C_NoTable), ("Refused", C_Refused), ("Term", C_Term)]) (1 + 1 * n) "_law_leaves_of" 1 (fr__law_leaves_of n) := by
    intro n
    induction n with
    | zero => exact ⟨_, _, _, fn_stuck, PySem.W.mg_of X G a4, F4.kp, B4⟩
    | succ n ih =>
      exact ⟨_, _, _, ((d__law_leaves_of (kk := 1 + 1 * n) (by omega) T F4 ih).mono (by omega)), PySem.W.mg_of X G a4, F4.kp, B4⟩
  have D__law_leaves_of : Df l.prog w K mg base (clOf [("TooMany", C_TooMany), ("Unread", C_Unread), ("BadHead", C_BadHead), ("BadRow", C_BadRow), ("NoTable", C_NoTable), ("Refused", C_Refused), ("Term", C_Term)]) (49) "_law_leaves_of" 1 f__law_leaves_of := R__law_leaves_of 48
  have D_check_text : Df l.prog w K mg base (clOf [("TooMany", C_TooMany), ("Unread", C_Unread), ("BadHead", C_BadHead), ("BadRow", C_BadRow), ("NoTable", C_NoTable), ("Refused", C_Refused), ("Term", C_Term)]) (2) "check_text" 1 f_check_text := ⟨_, _, _, (d_check_text T F5 ), PySem.W.mg_of X G a5, F5.kp, B5⟩
  have R_leaves : ∀ n, Df l.prog w K mg base (clOf [("TooMany", C_TooMany), ("Unread", C_Unread), ("BadHead", C_BadHead), ("BadRow", C_BadRow), ("NoTable", C_NoTable), ("Refused", C_Refused), ("Term", C_Term)]) (1 + 1 * n) "leaves" 1 (fr_leaves n) := by
    intro n
    induction n with
    | zero => exact ⟨_, _, _, fn_stuck, PySem.W.mg_of X G a6, F6.kp, B6⟩
    | succ n ih =>
      exact ⟨_, _, _, ((d_leaves (kk := 1 + 1 * n) (by omega) T F6 ih).mono (by omega)), PySem.W.mg_of X G a6, F6.kp, B6⟩
  have D_leaves : Df l.prog w K mg base (clOf [("TooMany", C_TooMany), ("Unread", C_Unread), ("BadHead", C_BadHead), ("BadRow", C_BadRow), ("NoTable", C_NoTable), ("Refused", C_Refused), ("Term", C_Term)]) (49) "leaves" 1 f_leaves := R_leaves 48
  have D_read_tree : Df l.prog w K mg base (clOf [("TooMany", C_TooMany), ("Unread", C_Unread), ("BadHead", C_BadHead), ("BadRow", C_BadRow), ("NoTable", C_NoTable), ("Refused", C_Refused), ("Term", C_Term)]) (50) "read_tree" 1 f_read_tree := ⟨_, _, _, (d_read_tree T F7 D_check_text D_leaves), PySem.W.mg_of X G a7, F7.kp, B7⟩
  have D__law_told : Df l.prog w K mg base (clOf [("TooMany", C_TooMany), ("Unread", C_Unread), ("BadHead", C_BadHead), ("BadRow", C_BadRow), ("NoTable", C_NoTable), ("Refused", C_Refused), ("Term", C_Term)]) (51) "_law_told" 1 f__law_told := ⟨_, _, _, (d__law_told T F8 D_read_tree), PySem.W.mg_of X G a8, F8.kp, B8⟩
  have D_Term___init__ : Dc l.prog w K mg base (clOf [("TooMany", C_TooMany), ("Unread", C_Unread), ("BadHead", C_BadHead), ("BadRow", C_BadRow), ("NoTable", C_NoTable), ("Refused", C_Refused), ("Term", C_Term)]) (50) "Term" 1 f_Term___init__ := dc_mk cb_Term (d_Term___init__ T F9 D_leaves) a9 n9 (PySem.W.mg_of X G ca_Term) rfl B9
  have D_Term_read : Dk l.prog w K mg base (clOf [("TooMany", C_TooMany), ("Unread", C_Unread), ("BadHead", C_BadHead), ("BadRow", C_BadRow), ("NoTable", C_NoTable), ("Refused", C_Refused), ("Term", C_Term)]) (52) "Term" "read" 1 f_Term_read := ⟨_, _, _, _, (d_Term_read T B10 F10 D_read_tree D_Term___init__), ⟨rd_Term, ga_Term⟩, ⟨a10, ⟨_, pr10⟩, fi10⟩, PySem.W.mg_of X G ca_Term⟩
  have D__law_term_told : Df l.prog w K mg base (clOf [("TooMany", C_TooMany), ("Unread", C_Unread), ("BadHead", C_BadHead), ("BadRow", C_BadRow), ("NoTable", C_NoTable), ("Refused", C_Refused), ("Term", C_Term)]) (53) "_law_term_told" 1 f__law_term_told := ⟨_, _, _, (d__law_term_told T F11 D_Term_read), PySem.W.mg_of X G a11, F11.kp, B11⟩
  exact d_law T F12 D__law_string D__law_drawn D__law_wrong_at D__law_parsed D__law_leaves_of D__law_told D__law_term_told
end Gk16

namespace Gk16
open PySem PySem.Spec PyProof.Rows L2 HL
/-! ### the defs that call themselves -/
theorem leaves_eq : ∀ n, fr_leaves n = recF (fun g => fnS 1 (bt_leaves g)) n
  | 0 => rfl
  | n + 1 => by show fnS 1 (b_leaves (fr_leaves n)) = _; rw [leaves_eq n]; rfl
theorem leaves2_eq : ∀ n, fr__law_leaves_of n = recF (fun g => fnS 1 (bt_leaves g)) n
  | 0 => rfl
  | n + 1 => by show fnS 1 (b__law_leaves_of (fr__law_leaves_of n)) = _; rw [leaves2_eq n]; rfl
structure Sm (t : Tr) : Prop where
  ok : t.ok = true
  dep : t.dep < 48
  ls : t.ls.length ≤ 1000
theorem f_leaves_ok {t : Tr} (h : Sm t) : ∃ o, f_leaves [t.d] = .ok (o, .lst (t.ls.map nm)) := by
  show ∃ o, fr_leaves 48 [t.d] = _
  rw [leaves_eq]
  exact leaves_rec (fun _ => rfl) 48 t h.dep h.ls
theorem f_leaves2_ok {t : Tr} (h : Sm t) : ∃ o, f__law_leaves_of [t.d] = .ok (o, .lst (t.ls.map nm)) := by
  show ∃ o, fr__law_leaves_of 48 [t.d] = _
  rw [leaves2_eq]
  exact leaves_rec (fun _ => rfl) 48 t h.dep h.ls
def big7 : Er := ⟨"TooMany", "limit", .int 7⟩
def big7D : D := .tup [.str "TooMany", .int 7, .bl false]
def tm (t : Tr) : D := .ins "Term" [("tree", t.d)]
theorem gt7 {m : HEnv → R D} {env : HEnv} {ds : List D} (h : m env = .ok (.lst ds)) : (m1 truB (m2 (cmpI fun i j => decide (j < i)) (m1 lenD m) (mC (.int 7)))) env = .ok (decide (7 < ds.length)) := by
  refine (m1_ok (a := D.bl (decide (7 < ds.length))) ((m2_ok (a := D.int ds.length) (b := D.int 7) ((m1_ok h).trans rfl) rfl).trans ?_)).trans rfl
  have e : decide ((7 : Int) < (ds.length : Int)) = decide (7 < ds.length) := by
    rw [decide_eq_decide]
    omega
  rw [← e]
  rfl
theorem init_ok {t : Tr} (h : Sm t) : f_Term___init__ [t.d] = if 7 < t.ls.length then .er big7 else .ok [("tree", t.d)] := by
  obtain ⟨o, h1⟩ := f_leaves_ok h
  have g := gt7 (m := mCall f_leaves (mCons (mVar 1) mNil)) (env := [.lent (.ins "Term" []), .val t.d]) (ds := t.ls.map nm) (mCall_ok (mCons_ok rfl rfl) h1)
  rw [List.length_map] at g
  show (match b_Term___init__ f_leaves [.lent (.ins "Term" []), .val t.d] with
    | .nx e => insOf "Term" e
    | .er x _ => .er x
    | _ => .stuck) = _
  by_cases hb : 7 < t.ls.length
  · rw [if_pos hb]
    rw [show b_Term___init__ f_leaves [.lent (.ins "Term" []), .val t.d] = .er big7 [.lent (.ins "Term" []), .val t.d] from mSeq_er ((mIf_tt (g.trans (congrArg R.ok (decide_eq_true hb)))).trans rfl)]
  · rw [if_neg hb]
    rw [show b_Term___init__ f_leaves [.lent (.ins "Term" []), .val t.d] = .nx [.lent (.ins "Term" [("tree", t.d)]), .val t.d] from (mSeq_nx ((mIf_ff (g.trans (congrArg R.ok (decide_eq_false hb)))).trans rfl)).trans rfl]
    rfl
theorem isC_tm (t : Tr) : isC "Term" (tm t) = true := by
  show (("Term" : Str) == ("Term" : Str)) = true
  decide
def mk (t : Tr) : R D := if 7 < t.ls.length then .er big7 else .ok (tm t)
theorem make_ok {t : Tr} (h : Sm t) {ms : HEnv → R (List D)} {env : HEnv} (hm : ms env = .ok [t.d]) : mMake "Term" f_Term___init__ ms env = mk t := by
  show ((ms env).bind fun ds => (f_Term___init__ ds).bind fun fs => R.ok (D.ins "Term" fs)) = _
  rw [hm, R.bind_ok, init_ok h]
  unfold mk
  (split <;> first | rfl | (rename_i q; split at q <;> first | (cases q; rfl) | (cases q; rename_i h1; first | (rw [if_pos h1]; done) | (rw [if_neg h1]; done) | (rw [if_pos h1]; rfl) | (rw [if_neg h1]; rfl)) | cases q))
theorem f_check_ok {u : List Nat} (hu : u.length ≤ 1000) (hc : ∀ c ∈ u, c < 128) : f_check_text [.str (tx u)] = match chk u 0 0 true with
    | none => .ok (false, .non)
    | some i => .er ⟨"Unread", "at", .int (i : Int)⟩ := check_ok hu hc
theorem f_read_ok {u : List Nat} {t : Tr} (hz : u.length ≤ 1000) (hc : ∀ c ∈ u, c < 128) (hs : Sm t) (hr : u.length ≤ 80 → chk u 0 0 true = none → rrun (40 :: (u.filter (· != 32) ++ [41])) [] [] = some ([], [t])) : f_read_tree [.str (tx u)] = readA u t := by
  obtain ⟨o, hl⟩ := f_leaves_ok hs
  exact read_ok hz hc (f_check_ok hz hc) hr fun _ _ => hl
theorem parsed_eq : ∀ n, fr__law_parsed n = recF (fun g => fnS 4 (bt_parsed g)) n
  | 0 => rfl
  | n + 1 => by show fnS 4 (b__law_parsed (fr__law_parsed n)) = _; rw [parsed_eq n]; rfl
theorem f_parsed_ok {w : List Nat} {t : Tr} (h : Par 2 w t) (hw : w.length < 48) : ∃ o, f__law_parsed [.str (tx w)] = .ok (o, t.d) := by
  show ∃ o, fr__law_parsed 48 [.str (tx w)] = _
  rw [parsed_eq]
  exact parsed_rec (fun _ => rfl) h 48 hw (by omega)
def two : List Cla := [("Unread", "at", "Unread"), ("TooMany", "limit", "TooMany")]
def tag (x : Str) (d : D) : D := .tup [.str x, d, .bl false]
theorem try_u {b : HEnv → SO} {env e : HEnv} {d : D} (h : b env = .er ⟨"Unread", "at", d⟩ e) (hl : e.length = 2) : mTry 1 b two env = .rt false (tag "Unread" d) := by
  unfold mTry
  rw [h]
  simp only [hl]
  rw [if_pos (by decide)]
  unfold two hOut
  rw [if_pos ⟨show errNames.contains "Unread" = true by decide, show ("Unread" : Str) ≠ "HeadlessError" by decide⟩, if_pos (show (("Unread" : Str) == "Unread") = true by decide), if_pos rfl]
  rfl
theorem try_t {b : HEnv → SO} {env e : HEnv} {d : D} (h : b env = .er ⟨"TooMany", "limit", d⟩ e) (hl : e.length = 2) : mTry 1 b two env = .rt false (tag "TooMany" d) := by
  unfold mTry
  rw [h]
  simp only [hl]
  rw [if_pos (by decide)]
  unfold two hOut
  rw [if_pos ⟨show errNames.contains "TooMany" = true by decide, show ("TooMany" : Str) ≠ "HeadlessError" by decide⟩, if_neg (show ¬(("TooMany" : Str) == "Unread") = true by decide)]
  unfold hOut
  rw [if_pos ⟨show errNames.contains "TooMany" = true by decide, show ("TooMany" : Str) ≠ "HeadlessError" by decide⟩, if_pos (show (("TooMany" : Str) == "TooMany") = true by decide), if_pos rfl]
  rfl
theorem try_r {b : HEnv → SO} {env : HEnv} {o : Bool} {d : D} (h : b env = .rt o d) : mTry 1 b two env = .rt o d := by
  unfold mTry
  rw [h]
/-- what is told of a text -/
def toldD (u : List Nat) (t : Tr) : D := if 80 < u.length then tag "TooMany" (.int 80) else match chk u 0 0 true with
  | some i => tag "Unread" (.int (i : Int))
  | none => if 7 < t.ls.length then tag "TooMany" (.int 7) else t.d
theorem read_or (u : List Nat) (t : Tr) : (readA u t = .ok (false, t.d) ∧ toldD u t = t.d ∧ t.ls.length ≤ 7) ∨ (∃ i : Nat, readA u t = .er ⟨"Unread", "at", .int (i : Int)⟩ ∧ toldD u t = tag "Unread" (.int (i : Int))) ∨ ∃ i : Nat, readA u t = .er ⟨"TooMany", "limit", .int (i : Int)⟩ ∧ toldD u t = tag "TooMany" (.int (i : Int)) := by
  unfold readA toldD
  by_cases h : 80 < u.length
  · rw [if_pos h, if_pos h]
    exact .inr (.inr ⟨80, rfl, rfl⟩)
  · rw [if_neg h, if_neg h]
    cases chk u 0 0 true with
    | some i => exact .inr (.inl ⟨i, rfl, rfl⟩)
    | none =>
      by_cases h7 : 7 < t.ls.length
      · simp only
        rw [if_pos h7, if_pos h7]
        exact .inr (.inr ⟨7, rfl, rfl⟩)
      · simp only
        rw [if_neg h7, if_neg h7]
        exact .inl ⟨rfl, rfl, by omega⟩
theorem told_ok {u : List Nat} {t : Tr} (h : f_read_tree [.str (tx u)] = readA u t) : ∃ o, f__law_told [.str (tx u)] = .ok (o, toldD u t) := by
  have er : ∀ {x : Er}, readA u t = .er x → (mRetX (mCallX f_read_tree (mCons (mVar 0) mNil))) [.val (.str (tx u)), .no] = .er x [.val (.str (tx u)), .no] := fun {x} e => by
    show sB _ _ _ = _
    unfold sB
    rw [mCallX_ok (r := .er x) (mCons_ok rfl rfl) (h.trans e)]
  rcases read_or u t with ⟨h1, h2, _⟩ | ⟨i, h1, h2⟩ | ⟨i, h1, h2⟩
  · refine ⟨false, fnS_rt (try_r ?_)⟩
    rw [h2]
    show sB _ _ _ = _
    exact (sB_ok (mCallX_ok (mCons_ok rfl rfl) (h.trans h1))).trans rfl
  · rw [h2]
    exact ⟨false, fnS_rt (try_u (er h1) rfl)⟩
  · rw [h2]
    exact ⟨false, fnS_rt (try_t (er h1) rfl)⟩
theorem term_read_ok {u : List Nat} {t : Tr} (hs : Sm t) (h : f_read_tree [.str (tx u)] = readA u t) : f_Term_read [.str (tx u)] = match readA u t with
    | .ok _ => .ok (true, tm t)
    | .er x => .er x
    | .stuck => .stuck := by
  show ((mCons (mCall f_read_tree (mCons (mVar 1) mNil)) mNil) [.no, .val (.str (tx u))]).bind (fun xs => (f_Term___init__ xs).bind fun fs => R.ok (true, D.ins "Term" fs)) = _
  have er : ∀ {x : Er}, readA u t = .er x → (mCons (mCall f_read_tree (mCons (mVar 1) mNil)) mNil) [.no, .val (.str (tx u))] = .er x := fun {x} e => by
    show (mCall f_read_tree (mCons (mVar 1) mNil) [.no, .val (.str (tx u))]).bind _ = _
    rw [mCall_er (mCons_ok rfl rfl) (h.trans e)]
    rfl
  rcases read_or u t with ⟨h1, h2, h3⟩ | ⟨i, h1, h2⟩ | ⟨i, h1, h2⟩
  · rw [show (mCons (mCall f_read_tree (mCons (mVar 1) mNil)) mNil) [.no, .val (.str (tx u))] = .ok [t.d] from mCons_ok (mCall_ok (mCons_ok rfl rfl) (h.trans h1)) rfl, R.bind_ok, init_ok hs, if_neg (by omega), h1]
    rfl
  · rw [er h1, h1]
    rfl
  · rw [er h1, h1]
    rfl
theorem term_told_ok {u : List Nat} {t : Tr} (hs : Sm t) (h : f_read_tree [.str (tx u)] = readA u t) : ∃ o, f__law_term_told [.str (tx u)] = .ok (o, toldD u t) := by
  have hr := term_read_ok hs h
  have er : ∀ {x : Er}, readA u t = .er x → (mRet (m1 (fldD "tree") (mCall f_Term_read (mCons (mVar 0) mNil)))) [.val (.str (tx u)), .no] = .er x [.val (.str (tx u)), .no] := fun {x} e => by
    rw [e] at hr
    show sB _ _ _ = _
    unfold sB m1
    rw [mCall_er (mCons_ok rfl rfl) hr]
    rfl
  rcases read_or u t with ⟨h1, h2, _⟩ | ⟨i, h1, h2⟩ | ⟨i, h1, h2⟩
  · rw [h1] at hr
    rw [h2]
    exact ⟨false, fnS_rt (try_r (mRet_ok ((m1_ok (f := fldD "tree") (mCall_ok (mCons_ok rfl rfl) hr)).trans rfl)))⟩
  · rw [h2]
    exact ⟨false, fnS_rt (try_u (er h1) rfl)⟩
  · rw [h2]
    exact ⟨false, fnS_rt (try_t (er h1) rfl)⟩
theorem sim_tag (x : Str) (i : Int) : sim (tag x (.int i)) = true := sim_tup rfl
theorem tree_sm {k : Nat} {w : List Nat} {t : Tr} (h : Par k w t) (hw : w.length < 48) : Sm t := by
  have h1 := par_size h
  have h2 := t.dep_ls
  have ok : ∀ {t : Tr}, t.good = true → t.ok = true := by
    intro t
    induction t with
    | lf c => intro _; rfl
    | nd s l r ih1 ih2 =>
      intro h
      simp only [Tr.good, Bool.and_eq_true] at h
      simp only [Tr.ok, Bool.and_eq_true]
      exact ⟨⟨h.1.1, ih1 h.1.2⟩, ih2 h.2⟩
  exact ⟨ok h1.2.1, by omega, by omega⟩
theorem law_true : ∀ ns : List Int, ns.length ≤ 63 → ∃ o, f_law [.lst (ns.map D.int)] = .ok (o, .bl true) := by
  intro ns hns
  obtain ⟨cs, hcl, hcr, hd⟩ := drawn_ok ns 0 24 (by decide) (by decide)
  have hd' : f__law_drawn [.lst (ns.map D.int), .int 0, .int 24] = .ok (true, .lst (cs.map D.int)) := hd
  obtain ⟨u, hu, hul, hs⟩ := string_ok hcl
  have hs' : f__law_string [.lst (cs.map D.int)] = .ok (false, .str (tx u)) := hs
  have hw' : f__law_wrong_at [.str (tx u)] = .ok (false, .int (atW (chk u 0 0 true))) := wrong_ok (by omega) hu
  have ge0 : ∀ {m : HEnv → R D} {env : HEnv} {a : Option Nat}, m env = .ok (.int (atW a)) → m1 truB (m2 (cmpI fun i j => decide (j ≤ i)) m (mC (.int 0))) env = .ok a.isSome := fun {m env a} h => by
    refine (m1_ok (f := truB) (a := .bl (decide (0 ≤ atW a))) ((m2_ok (f := cmpI fun i j => decide (j ≤ i)) (a := .int (atW a)) (b := .int 0) h rfl).trans rfl)).trans ?_
    cases a with
    | none => rfl
    | some p =>
      show R.ok (decide ((0 : Int) ≤ (p : Int))) = R.ok true
      rw [decide_eq_true (by omega)]
  -- what is due, and that it is told
  have main : ∃ d : D, sim d = true ∧ (∃ o, f__law_told [.str (tx u)] = .ok (o, d)) ∧ (∃ o, f__law_term_told [.str (tx u)] = .ok (o, d)) ∧ (mIfS (m1 truB (m2 (cmpI fun i j => decide (j ≤ i)) (mOwn 2) (mC (.int 0))))
      (mSet 3 (mTupE (mCons (mC (.str "Unread")) (mCons (mVar 2) (mCons (mC (.bl false)) mNil)))))
      (mSeq (mSet 3 (mCall f__law_parsed (mCons (m1 (replD " " "") (mVar 1)) mNil)))
      (mIfS (m1 truB (m2 (cmpI fun i j => decide (j < i)) (m1 lenD (mCall f__law_leaves_of (mCons (mVar 3) mNil))) (mC (.int 7))))
      (mSet 3 (mTupE (mCons (mC (.str "TooMany")) (mCons (mC (.int 7)) (mCons (mC (.bl false)) mNil)))))
      mNext))) [.val (.lst (ns.map D.int)), .val (.str (tx u)), .val (.int (atW (chk u 0 0 true))), .no] = .nx [.val (.lst (ns.map D.int)), .val (.str (tx u)), .val (.int (atW (chk u 0 0 true))), .val d] := by
    cases hk : chk u 0 0 true with
    | some i =>
      have sm : Sm (.lf 65) := ⟨rfl, by decide, by decide⟩
      have hr := f_read_ok (u := u) (t := .lf 65) (by omega) hu sm fun _ z => by rw [hk] at z; cases z
      have ht : toldD u (.lf 65) = tag "Unread" (.int (i : Int)) := by
        unfold toldD
        rw [if_neg (by omega), hk]
      have h1 := told_ok hr
      have h2 := term_told_ok sm hr
      rw [ht] at h1 h2
      exact ⟨_, sim_tag _ _, h1, h2, (mIf_tt (ge0 (a := some i) rfl)).trans (mSet_ok (tupE_ok (mCons_ok rfl (mCons_ok rfl (mCons_ok rfl rfl)))))⟩
    | none =>
      obtain ⟨t, hp⟩ := chk_tree hk
      have hfl : (u.filter (· != 32)).length ≤ u.length := List.length_filter_le _ _
      have sm := tree_sm hp (by omega)
      have hr := f_read_ok (u := u) (t := t) (by omega) hu sm fun _ _ => par_read hp
      have ht : toldD u t = if 7 < t.ls.length then tag "TooMany" (.int 7) else t.d := by
        unfold toldD
        rw [if_neg (by omega), hk]
      have h1 := told_ok hr
      have h2 := term_told_ok sm hr
      rw [ht] at h1 h2
      obtain ⟨o, hpar⟩ := f_parsed_ok hp (by omega)
      obtain ⟨o2, hl⟩ := f_leaves2_ok sm
      refine ⟨_, ?_, h1, h2, (mIf_ff (ge0 (a := none) rfl)).trans ?_⟩
      · split
        · exact sim_tag _ _
        · exact Tr.sim_ok (by have := sm.dep; omega)
      have hrep : m1 (replD " " "") (mVar 1) [.val (.lst (ns.map D.int)), .val (.str (tx u)), .val (.int (atW none)), .no] = .ok (.str (tx (u.filter (· != 32)))) := by
        refine (m1_ok (f := replD " " "") (a := .str (tx u)) rfl).trans ?_
        show (if (tx u).length + ((tx u).length + 1) * (Str.ofString "").length ≤ 16777216 then R.ok (D.str (Txt.replace (tx u) (Str.ofString " ") (Str.ofString ""))) else R.stuck) = _
        rw [repl_gap, empty_tx, tx_len, tx_len, List.length_nil, Nat.mul_zero, if_pos (by omega)]
      refine (mSeq_nx (mSet_ok (mCall_ok (mCons_ok hrep rfl) hpar))).trans ?_
      have g := gtK (k := 7) (m := m1 lenD (mCall f__law_leaves_of (mCons (mVar 3) mNil))) (env := [.val (.lst (ns.map D.int)), .val (.str (tx u)), .val (.int (atW none)), .val t.d]) (n := t.ls.length) ((m1_ok (f := lenD) (mCall_ok (mCons_ok rfl rfl) hl)).trans (by show R.ok (D.int ((t.ls.map nm).length : Int)) = _; rw [List.length_map]))
      by_cases hb : 7 < t.ls.length
      · rw [if_pos hb]
        exact (mIf_tt (g.trans (congrArg R.ok (decide_eq_true hb)))).trans rfl
      · rw [if_neg hb]
        exact (mIf_ff (g.trans (congrArg R.ok (decide_eq_false hb)))).trans rfl
  obtain ⟨d, hsim, ⟨o1, h1⟩, ⟨o2, h2⟩, h3⟩ := main
  refine ⟨false, fnS_rt ?_⟩
  unfold b_law
  refine (mSeq_nx (mSet_ok (d := .str (tx u)) (mCall_ok (mCons_ok (mCall_ok (ds := [.lst (ns.map D.int), .int 0, .int 24]) rfl hd') rfl) hs'))).trans ?_
  refine (mSeq_nx (mSet_ok (d := .int (atW (chk u 0 0 true))) (mCall_ok (mCons_ok rfl rfl) hw'))).trans ?_
  refine (mSeq_nx h3).trans (mRet_ok (andV_ok (x := true) (y := true) ?_ fun _ => ?_))
  · exact (m2_ok (f := eqD) (mCall_ok (mCons_ok rfl rfl) h1) rfl).trans (eqD_self hsim)
  · exact (m2_ok (f := eqD) (mCall_ok (mCons_ok rfl rfl) h2) rfl).trans (eqD_self hsim)
end Gk16

open PySem PySem.W PyProof.Rows
set_option maxHeartbeats 0 in
theorem PySem.Challenge.cw_headless_k16_texts_of_no_term_holds : PySem.Challenge.rw_headless_k16_texts_of_no_term.Holds := by
  w_on; o_law; k_head; (case hw => w_witness2)
  k_fill
  refine L2.walk_of (l := PySem.Challenge.rw_headless_k16_texts_of_no_term) (n := 63) (k := 54) (x := "_law_script") (CX := fun w => L2.CX PySem.Challenge.rw_headless_k16_texts_of_no_term.prog w) (sp := Function.const PySem.World (HL.spD ?cl 1 Gk16.f_law)) rfl (by decide) rfl ⟨rfl, by decide, by decide⟩ (fun w h Y => PySem.W.kIn_of Y) ?F ?S (fun _ _ _ _ _ h => HL.cx_end h)
  case F =>
    intro w mg fa h KX G hmg
    refine' Gk16.all_mk KX G hmg ?ca_Term ?a0 ?l0 ?c0 ?k0 ?a1 ?l1 ?c1 ?k1 ?a2 ?l2 ?c2 ?k2 ?a3 ?l3 ?c3 ?k3 ?a4 ?l4 ?c4 ?k4 ?a5 ?l5 ?c5 ?k5 ?a6 ?l6 ?c6 ?k6 ?a7 ?l7 ?c7 ?k7 ?a8 ?l8 ?c8 ?k8 ?a9 ?l9 ?c9 ?k9 ?n9 ?a10 ?pr10 ?fi10 ?rd_Term ?ga_Term ?l10 ?c10 ?k10 ?n10 ?a11 ?l11 ?c11 ?k11 ?a12 ?l12 ?c12 ?k12 ?z_len ?z_range ?z_int ?z_isinstance ?z_str ?z_super ?c_MOST_CHARACTERS ?c_MOST_LEAVES ?c_ALPHABET ?ea_TooMany ?el_TooMany ?ei_TooMany ?ef_TooMany ?ec_TooMany ?eL_TooMany ?eb_TooMany ?ea_Unread ?el_Unread ?ei_Unread ?ef_Unread ?ec_Unread ?eL_Unread ?eb_Unread ?ea_BadHead ?el_BadHead ?ei_BadHead ?ef_BadHead ?ec_BadHead ?eL_BadHead ?eb_BadHead ?ea_BadRow ?el_BadRow ?ei_BadRow ?ef_BadRow ?ec_BadRow ?eL_BadRow ?eb_BadRow ?ea_NoTable ?el_NoTable ?ei_NoTable ?ef_NoTable ?ec_NoTable ?eL_NoTable ?eb_NoTable ?ea_Refused ?el_Refused ?ei_Refused ?ef_Refused ?ec_Refused ?eL_Refused ?eb_Refused ?ex ?cb_Term ?xf
    (case ca_Term => k_is); (case a0 => k_is); (case l0 => k_is); (case c0 => k_is); (case k0 => k_is); (case a1 => k_is); (case l1 => k_is); (case c1 => k_is); (case k1 => k_is); (case a2 => k_is); (case l2 => k_is); (case c2 => k_is); (case k2 => k_is); (case a3 => k_is); (case l3 => k_is); (case c3 => k_is); (case k3 => k_is); (case a4 => k_is); (case l4 => k_is); (case c4 => k_is); (case k4 => k_is); (case a5 => k_is); (case l5 => k_is); (case c5 => k_is); (case k5 => k_is); (case a6 => k_is); (case l6 => k_is); (case c6 => k_is); (case k6 => k_is); (case a7 => k_is); (case l7 => k_is); (case c7 => k_is); (case k7 => k_is); (case a8 => k_is); (case l8 => k_is); (case c8 => k_is); (case k8 => k_is); (case a9 => k_is); (case l9 => k_is); (case c9 => k_is); (case k9 => k_is); (case n9 => k_is); (case a10 => k_is); (case pr10 => k_is); (case fi10 => k_is); (case rd_Term => k_is); (case ga_Term => k_is); (case l10 => k_is); (case c10 => k_is); (case k10 => k_is); (case n10 => k_is); (case a11 => k_is); (case l11 => k_is); (case c11 => k_is); (case k11 => k_is); (case a12 => k_is); (case l12 => k_is); (case c12 => k_is); (case k12 => k_is); (case z_len => k_is); (case z_range => k_is); (case z_int => k_is); (case z_isinstance => k_is); (case z_str => k_is); (case z_super => k_is); (case c_MOST_CHARACTERS => k_is); (case c_MOST_LEAVES => k_is); (case c_ALPHABET => k_is); (case ea_TooMany => k_is); (case el_TooMany => k_is); (case ei_TooMany => k_is); (case ef_TooMany => k_is); (case ec_TooMany => k_is); (case eL_TooMany => k_is); (case ea_Unread => k_is); (case el_Unread => k_is); (case ei_Unread => k_is); (case ef_Unread => k_is); (case ec_Unread => k_is); (case eL_Unread => k_is); (case ea_BadHead => k_is); (case el_BadHead => k_is); (case ei_BadHead => k_is); (case ef_BadHead => k_is); (case ec_BadHead => k_is); (case eL_BadHead => k_is); (case ea_BadRow => k_is); (case el_BadRow => k_is); (case ei_BadRow => k_is); (case ef_BadRow => k_is); (case ec_BadRow => k_is); (case eL_BadRow => k_is); (case ea_NoTable => k_is); (case el_NoTable => k_is); (case ei_NoTable => k_is); (case ef_NoTable => k_is); (case ec_NoTable => k_is); (case eL_NoTable => k_is); (case ea_Refused => k_is); (case el_Refused => k_is); (case ei_Refused => k_is); (case ef_Refused => k_is); (case ec_Refused => k_is); (case eL_Refused => k_is)
    (case eb_TooMany => kernel_rfl)
    (case eb_Unread => kernel_rfl)
    (case eb_BadHead => kernel_rfl)
    (case eb_BadRow => kernel_rfl)
    (case eb_NoTable => kernel_rfl)
    (case eb_Refused => kernel_rfl)
    (case ex => kernel_rfl)
    (case cb_Term => kernel_rfl)
    (case xf => kernel_rfl)
  case S => exact fun w H a ns h1 h2 h3 => HL.script_ok (by decide) Gk16.law_true (by kernel_rfl) h1 h3
