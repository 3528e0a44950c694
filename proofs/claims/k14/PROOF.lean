import PyProof.Rows.All
import HandS.ForMost
import HandS.ForExc
import HandS.ExcOwn
import HandS.Wide
import HandS.IsInst
import HandS.TupAny
import HandS.Style
import HandS.Flow
import HandS.Evl
import HandS.Iter
import HandS.Comp
import HandS.Deep
import HandS.TupLe
import HandS.SortInts
import KE.SortData
import KE.DataCmp
import HandS.DictComp
import HandS.Defaults
import HandS.Head0
import HandS.Head1
import HandS.Head2
import HandS.HeadEnd
import HandS.HeadHook1
import HandS.HeadHook2
import PySem.Challenge.RW_leastbroken_k14_whole_what_is_pushed_is
set_option Elab.async false
set_option linter.all false
set_option maxRecDepth 100000
set_option maxHeartbeats 4000000
/-! DPA: plain data in the tracked heap; a def's slots as plain data; what a piece of syntax comes to as a plain function of them. -/
namespace DP
open PySem L2
abbrev PD := PyData
abbrev AS := Addr → Prop
def kD : Key → PD
  | .inl i => .int i
  | .inr x => .str x
mutual
/-- the value v stands for the data d; its lists and dicts lie in A -/
inductive Rp (A : AS) (H : Hp) : V → PD → Prop
  | non : Rp A H .non .none
  | bl (b : Bool) : Rp A H (.bl b) (.bool b)
  | int (i : Int) : Rp A H (.int i) (.int i)
  | str (x : Str) : Rp A H (.str x) (.str x)
  | lst {a : Addr} {xs : List V} {ds : List PD} : A a → H a = some (.lst xs) → RpAll A H xs ds → Rp A H (.ref a) (.list ds)
  | tup {a : Addr} {xs : List V} {ds : List PD} : H a = some (.tup xs) → RpAll A H xs ds → Rp A H (.ref a) (.tuple ds)
  | dic {a : Addr} {kvs : List (Key × V)} {ds : List (PD × PD)} : A a → H a = some (.dK kvs) → RpKV A H kvs ds → Rp A H (.ref a) (.dict ds)
inductive RpAll (A : AS) (H : Hp) : List V → List PD → Prop
  | nil : RpAll A H [] []
  | cons {v : V} {vs : List V} {d : PD} {ds : List PD} : Rp A H v d → RpAll A H vs ds → RpAll A H (v :: vs) (d :: ds)
inductive RpKV (A : AS) (H : Hp) : List (Key × V) → List (PD × PD) → Prop
  | nil : RpKV A H [] []
  | cons {k : Key} {v : V} {kvs : List (Key × V)} {d : PD} {ds : List (PD × PD)} : Rp A H v d → RpKV A H kvs ds → RpKV A H ((k, v) :: kvs) ((kD k, d) :: ds)
end
/-- what keeps data: A's objects, and tuples -/
structure Kp (A A' : AS) (H H' : Hp) : Prop where
  sub : ∀ a, A a → A' a
  obj : ∀ a o, A a → H a = some o → H' a = some o
  tup : ∀ a xs, H a = some (.tup xs) → H' a = some (.tup xs)
mutual
theorem Rp.kp {A A' : AS} {H H' : Hp} (k : Kp A A' H H') : ∀ {v : V} {d : PD}, Rp A H v d → Rp A' H' v d
  | _, _, .non => .non
  | _, _, .bl b => .bl b
  | _, _, .int i => .int i
  | _, _, .str x => .str x
  | _, _, .lst ha hr r => .lst (k.sub _ ha) (k.obj _ _ ha hr) (RpAll.kp k r)
  | _, _, .tup h r => .tup (k.tup _ _ h) (RpAll.kp k r)
  | _, _, .dic ha h r => .dic (k.sub _ ha) (k.obj _ _ ha h) (RpKV.kp k r)
theorem RpAll.kp {A A' : AS} {H H' : Hp} (k : Kp A A' H H') : ∀ {vs : List V} {ds : List PD}, RpAll A H vs ds → RpAll A' H' vs ds
  | _, _, .nil => .nil
  | _, _, .cons r rs => .cons (Rp.kp k r) (RpAll.kp k rs)
theorem RpKV.kp {A A' : AS} {H H' : Hp} (k : Kp A A' H H') : ∀ {vs : List (Key × V)} {ds : List (PD × PD)}, RpKV A H vs ds → RpKV A' H' vs ds
  | _, _, .nil => .nil
  | _, _, .cons r rs => .cons (Rp.kp k r) (RpKV.kp k rs)
end
end DP
/-! DPB: owned lists and dicts, the relation of slots, steps. -/
namespace DP
open PySem L2
/-- the object at p, owned, holds d: a list or a dict whose parts are data -/
def OwnObj (A : AS) (H : Hp) (p : Addr) (d : PD) : Prop :=
  match d with
  | .list ds => ∃ xs, H p = some (.lst xs) ∧ RpAll A H xs ds
  | .dict ds => ∃ kvs, H p = some (.dK kvs) ∧ RpKV A H kvs ds
  | _ => False
def isLD : Option HO → Prop
  | some (.lst _) => True
  | some (.dK _) => True
  | _ => False
theorem OwnObj.ld {A : AS} {H : Hp} {p : Addr} {d : PD} (h : OwnObj A H p d) : isLD (H p) := by
  cases d <;> simp only [OwnObj] at h
  · obtain ⟨xs, e, _⟩ := h; rw [e]; trivial
  · obtain ⟨xs, e, _⟩ := h; rw [e]; trivial
theorem OwnObj.kp {A A' : AS} {H H' : Hp} {p : Addr} {d : PD} (k : Kp A A' H H') (e : H' p = H p) (h : OwnObj A H p d) : OwnObj A' H' p d := by
  cases d <;> simp only [OwnObj] at h ⊢
  · obtain ⟨xs, e1, r⟩ := h; exact ⟨xs, by rw [e, e1], r.kp k⟩
  · obtain ⟨xs, e1, r⟩ := h; exact ⟨xs, by rw [e, e1], r.kp k⟩
/-- what a slot holds: data that stays; an owned list or dict (true: handed in to be changed) -/
inductive Sl where
  | imm (d : PD)
  | own (b : Bool) (d : PD)
  | scr (ns : List Int)
abbrev Dn := List (Option Sl)
/-- a value on the way: data that stays; a new list or dict that nobody else has; a slot's -/
inductive Rv where
  | val (d : PD)
  | fresh (d : PD)
  | slot (i : Nat)
def Ow (σ : L2.St) (ρ : Dn) (p : Addr) : Prop := ∃ (i : Nat) (b : Bool) (d : PD), ρ[i]? = some (some (.own b d)) ∧ σ[i]? = some (some (.ref p))
/-- a def's entry -/
structure Ent where
  A : AS
  H : Hp
  ins : List (Nat × Addr)
def Ent.S (F : Ent) (p : Addr) : Prop := ∃ q ∈ F.ins, q.2 = p
/-- the script: read, never written -/
def Scr (K : PySem.W.Frag) (H : Hp) (p : Addr) (xs : List V) : Prop := ∀ H' : Hp, (∀ o u, H p = some (.frz o u) → H' p = some (.frz o u)) → SqL K H' p xs
theorem Scr.kp {K : PySem.W.Frag} {H H' : Hp} {p : Addr} {xs : List V} (h : ∀ o u, H p = some (.frz o u) → H' p = some (.frz o u)) (s : Scr K H p xs) : Scr K H' p xs := fun H2 h2 => s H2 fun o u e => h2 o u (h o u e)
def SlR (K : PySem.W.Frag) (A : AS) (H : Hp) (v : V) : Sl → Prop
  | .imm d => Rp A H v d
  | .own _ d => ∃ p, v = .ref p ∧ ¬ A p ∧ OwnObj A H p d
  | .scr ns => ∃ p, v = .ref p ∧ Scr K H p (ns.map V.int)
structure ER (K : PySem.W.Frag) (F : Ent) (A : AS) (H : Hp) (σ : L2.St) (ρ : Dn) : Prop where
  len : σ.length = ρ.length
  slot : ∀ (i : Nat) (s : Sl), ρ[i]? = some (some s) → ∃ v, σ[i]? = some (some v) ∧ SlR K A H v s
  dist : ∀ (i j : Nat) (b b' : Bool) (d d' : PD) (p : Addr), ρ[i]? = some (some (.own b d)) → ρ[j]? = some (some (.own b' d')) → σ[i]? = some (some (.ref p)) → σ[j]? = some (some (.ref p)) → i = j
  dom : ∀ a, A a → H a ≠ none
  kp : ∀ b o, F.H b = some o → ¬ F.S b → H b = some o
  mono : ∀ a, F.A a → A a
  grow : ∀ a, A a → F.A a ∨ F.H a = none
  ownF : ∀ (i : Nat) (b : Bool) (d : PD) (p : Addr), ρ[i]? = some (some (.own b d)) → σ[i]? = some (some (.ref p)) → if b = true then F.S p else F.H p = none
  FS : ∀ p, F.S p → ¬ A p
  ins : ∀ q ∈ F.ins, σ[q.1]? = some (some (.ref q.2)) ∧ ∃ d, ρ[q.1]? = some (some (.own true d))
structure Step (A : AS) (H : Hp) (σ : L2.St) (ρ : Dn) (A' : AS) (H' : Hp) (ρ' : Dn) : Prop where
  kp : ∀ b o, H b = some o → ¬ Ow σ ρ b → H' b = some o
  mono : ∀ a, A a → A' a
  grow : ∀ a, A' a → A a ∨ H a = none ∨ Ow σ ρ a
  sub : ∀ p, Ow σ ρ' p → Ow σ ρ p
  def_ : ∀ (i : Nat) (s : Sl), ρ[i]? = some (some s) → ∃ s', ρ'[i]? = some (some s')
  live : ∀ b, H' b = none → H b = none
  len : ρ'.length = ρ.length
section
variable {K : PySem.W.Frag} {F : Ent} {A A' A'' : AS} {H H' H'' : Hp} {σ : L2.St} {ρ ρ' ρ'' : Dn}
theorem ER.ow (E : ER K F A H σ ρ) {p : Addr} (h : Ow σ ρ p) : ¬ A p ∧ isLD (H p) := by
  obtain ⟨i, b, d, e1, e2⟩ := h
  obtain ⟨v, e3, p', rfl, h1, h2⟩ := E.slot i _ e1
  rw [e2] at e3
  cases e3
  exact ⟨h1, h2.ld⟩
theorem ER.free (E : ER K F A H σ ρ) {p : Addr} (h : H p = none) : ¬ A p := fun z => E.dom p z h
theorem ER.notOw (E : ER K F A H σ ρ) {p : Addr} (h : A p) : ¬ Ow σ ρ p := fun z => (E.ow z).1 h
theorem Step.kpr (s : Step A H σ ρ A' H' ρ') (E : ER K F A H σ ρ) : Kp A A' H H' :=
  ⟨s.mono, fun a o ha e => s.kp a o e (E.notOw ha), fun a xs e => s.kp a _ e fun z => by
    have := (E.ow z).2
    rw [e] at this
    exact this⟩
theorem Step.refl : Step A H σ ρ A H ρ := ⟨fun _ _ h _ => h, fun _ h => h, fun _ h => .inl h, fun _ h => h, fun _ s h => ⟨s, h⟩, fun _ h => h, rfl⟩
theorem Step.trans (s : Step A H σ ρ A' H' ρ') (t : Step A' H' σ ρ' A'' H'' ρ'') : Step A H σ ρ A'' H'' ρ'' := by
  refine ⟨fun b o h n => t.kp b o (s.kp b o h n) fun z => n (s.sub b z), fun a h => t.mono a (s.mono a h), fun a h => ?_, fun p h => s.sub p (t.sub p h), fun i sl h => ?_, fun b h => s.live b (t.live b h), t.len.trans s.len⟩
  · rcases t.grow a h with h1 | h1 | h1
    · exact s.grow a h1
    · by_cases ho : Ow σ ρ a
      · exact .inr (.inr ho)
      · cases e : H a with
        | none => exact .inr (.inl rfl)
        | some o => rw [s.kp a o e ho] at h1; cases h1
    · exact .inr (.inr (s.sub a h1))
  · obtain ⟨s', h'⟩ := s.def_ i sl h
    exact t.def_ i s' h'
theorem keep_none (h : ∀ b o, H b = some o → H' b = some o) {b : Addr} (e : H' b = none) : H b = none := by
  cases q : H b with
  | none => rfl
  | some o => rw [h b o q] at e; cases e
/-- all that stood is kept, new things are there -/
theorem Step.ext (h : ∀ b o, H b = some o → H' b = some o) : Step A H σ ρ A H' ρ := ⟨fun b o e _ => h b o e, fun _ h => h, fun _ h => .inl h, fun _ h => h, fun _ s h => ⟨s, h⟩, fun b e => keep_none h e, rfl⟩
theorem Kp.ext (h : ∀ b o, H b = some o → H' b = some o) : Kp A A H H' := ⟨fun _ h => h, fun a o _ e => h a o e, fun a xs e => h a _ e⟩
theorem SlR.kp {v : V} {s : Sl} (k : Kp A A H H') (hx : ∀ b o, H b = some o → H' b = some o) (e : ∀ b d p, s = .own b d → v = .ref p → H' p = H p) (h : SlR K A H v s) : SlR K A H' v s := by
  cases s with
  | imm d => exact Rp.kp k h
  | own b d =>
    obtain ⟨p, rfl, n, o⟩ := h
    exact ⟨p, rfl, n, o.kp k (e b d p rfl rfl)⟩
  | scr ns =>
    obtain ⟨p, rfl, q⟩ := h
    exact ⟨p, rfl, q.kp fun o u e => hx p _ e⟩
theorem ER.ext (E : ER K F A H σ ρ) (h : ∀ b o, H b = some o → H' b = some o) : ER K F A H' σ ρ := by
  refine ⟨E.len, fun i s e => ?_, E.dist, fun a ha z => ?_, fun b o e n => h b o (E.kp b o e n), E.mono, E.grow, E.ownF, E.FS, E.ins⟩
  · obtain ⟨v, e1, r⟩ := E.slot i s e
    refine ⟨v, e1, r.kp (Kp.ext h) h fun b d p e2 e3 => ?_⟩
    subst e2 e3
    obtain ⟨p', e4, _, o⟩ := r
    cases e4
    have := o.ld
    cases e5 : H p with
    | none => rw [e5] at this; exact this.elim
    | some o => exact h p o e5
  · cases e : H a with
    | none => exact E.dom a ha e
    | some o => rw [h a o e] at z; cases z
end
/-- a value on the way, at its place -/
def RvR (F : Ent) (Z : Hp) (A : AS) (H : Hp) (σ : L2.St) (ρ : Dn) (v : V) : Rv → Prop
  | .val d => Rp A H v d
  | .fresh d => ∃ p, v = .ref p ∧ (¬ A p ∧ ¬ Ow σ ρ p ∧ F.H p = none ∧ Z p = none) ∧ OwnObj A H p d
  | .slot i => σ[i]? = some (some v) ∧ ∃ s, ρ[i]? = some (some s)
theorem RvR.step {K : PySem.W.Frag} {F : Ent} {Z : Hp} {A A' : AS} {H H' : Hp} {σ : L2.St} {ρ ρ' : Dn} {v : V} {r : Rv} (E : ER K F A H σ ρ) (s : Step A H σ ρ A' H' ρ') (h : RvR F Z A H σ ρ v r) : RvR F Z A' H' σ ρ' v r := by
  cases r with
  | val d => exact Rp.kp (s.kpr E) h
  | fresh d =>
    obtain ⟨p, rfl, ⟨h1, h2, h3, hz⟩, h4⟩ := h
    have hl := h4.ld
    refine ⟨p, rfl, ⟨fun z => ?_, fun z => h2 (s.sub p z), h3, hz⟩, h4.kp (s.kpr E) ?_⟩
    · rcases s.grow p z with q | q | q
      · exact h1 q
      · rw [q] at hl; exact hl
      · exact h2 q
    · cases e : H p with
      | none => rw [e] at hl; exact hl.elim
      | some o => exact s.kp p o e h2
  | slot i =>
    obtain ⟨e, sl, h⟩ := h
    exact ⟨e, s.def_ i sl h⟩
theorem RvR.back {F : Ent} {Z Z' : Hp} {A : AS} {H : Hp} {σ : L2.St} {ρ : Dn} {v : V} {r : Rv} (l : ∀ b, Z b = none → Z' b = none) (h : RvR F Z A H σ ρ v r) : RvR F Z' A H σ ρ v r := by
  cases r with
  | val d => exact h
  | fresh d => obtain ⟨p, rfl, ⟨h1, h2, h3, hz⟩, h4⟩ := h; exact ⟨p, rfl, ⟨h1, h2, h3, l p hz⟩, h4⟩
  | slot i => exact h
/-- what is read of a value on the way -/
def slD : Sl → Option PD
  | .imm d => some d
  | .own _ d => some d
  | .scr _ => none
def rd (r : Rv) (ρ : Dn) : Option PD :=
  match r with
  | .val d => some d
  | .fresh d => some d
  | .slot i => match ρ[i]? with
    | some (some s) => slD s
    | _ => none
/-- to be read: data that stays, or an owned thing -/
def Rt (A : AS) (H : Hp) (v : V) (d : PD) : Prop := Rp A H v d ∨ ∃ p, v = .ref p ∧ OwnObj A H p d
theorem RvR.rt {K : PySem.W.Frag} {F : Ent} {Z : Hp} {A : AS} {H : Hp} {σ : L2.St} {ρ : Dn} {v : V} {r : Rv} {d : PD} (E : ER K F A H σ ρ) (h : RvR F Z A H σ ρ v r) (e : rd r ρ = some d) : Rt A H v d := by
  cases r with
  | val d' => cases e; exact .inl h
  | fresh d' => cases e; obtain ⟨p, rfl, _, o⟩ := h; exact .inr ⟨p, rfl, o⟩
  | slot i =>
    obtain ⟨e1, s, e2⟩ := h
    obtain ⟨v', e3, r⟩ := E.slot i s e2
    rw [e1] at e3
    cases e3
    simp only [rd, e2] at e
    cases s with
    | imm d => cases e; exact .inl r
    | own b d => cases e; obtain ⟨p, rfl, _, o⟩ := r; exact .inr ⟨p, rfl, o⟩
    | scr ns => cases e
end DP
/-! DPC: what expressions come to. -/
namespace DP
open PySem L2
structure Exn where
  cls : Str
  fs : List (Str × PD)
inductive Rs (α : Type) where
  | ok (a : α) (ρ : Dn)
  | ex (e : Exn) (ρ : Dn)
  | no
abbrev M (α : Type) := Dn → Rs α
def bnd {α β : Type} (m : M α) (k : α → M β) : M β := fun ρ =>
  match m ρ with
  | .ok a ρ' => k a ρ'
  | .ex e ρ' => .ex e ρ'
  | .no => .no
def retM {α : Type} (a : α) : M α := fun ρ => .ok a ρ
def optM {α : Type} (o : Option α) : M α := fun ρ =>
  match o with
  | some a => .ok a ρ
  | none => .no
/-- an exception of a class of the module: its fields -/
def XR (mg : Str → Option Value) (A : AS) (H : Hp) (e : Exn) (cls : Value) (d : Option Addr) : Prop :=
  ∃ C, mg e.cls = some (.ref C) ∧ cls = .ref C ∧ ((e.fs = [] ∧ d = none) ∨ ∃ (da : Addr) (fs : List (Str × V)), d = some da ∧ H da = some (.xd fs) ∧ fs.map (·.1) = e.fs.map (·.1) ∧ RpAll A H (fs.map (·.2)) (e.fs.map (·.2)))
/-- what is wanted behind -/
def Pst {α β : Type} (K : PySem.W.Frag) (mg : Str → Option Value) (W : WX) (F : Ent) (A : AS) (H : Hp) (σ : L2.St) (ρ : Dn) (RR : AS → Hp → Dn → β → α → Prop) (Q : β → Hp → Prop) : Rs α → Prop
  | .ok a ρ' => ∀ A' H' b, ER K F A' H' σ ρ' → Step A H σ ρ A' H' ρ' → RR A' H' ρ' b a → Q b H'
  | .ex e ρ' => ∀ A' H' cls d, ER K F A' H' σ ρ' → Step A H σ ρ A' H' ρ' → XR mg A' H' e cls d → W cls d σ H'
  | .no => False
section
variable {α β γ δ : Type} {K : PySem.W.Frag} {mg : Str → Option Value} {W : WX} {F : Ent} {A A1 : AS} {H H1 : Hp} {σ : L2.St} {ρ ρ1 : Dn}
theorem Pst.after {RR : AS → Hp → Dn → β → α → Prop} {Q : β → Hp → Prop} {r : Rs α} (S : Step A H σ ρ A1 H1 ρ1) (h : Pst K mg W F A H σ ρ RR Q r) : Pst K mg W F A1 H1 σ ρ1 RR Q r := by
  cases r with
  | ok a ρ' => exact fun A' H' b E S' R => h A' H' b E (S.trans S') R
  | ex e ρ' => exact fun A' H' c d E S' R => h A' H' c d E (S.trans S') R
  | no => exact h
theorem Pst.split {RR : AS → Hp → Dn → β → α → Prop} {RR1 : AS → Hp → Dn → δ → γ → Prop} {Q : β → Hp → Prop} {Q1 : δ → Hp → Prop} {m : M γ} {k : γ → M α} (h : Pst K mg W F A H σ ρ RR Q (bnd m k ρ))
    (hk : ∀ a ρ1 A1 H1 b, ER K F A1 H1 σ ρ1 → Step A H σ ρ A1 H1 ρ1 → RR1 A1 H1 ρ1 b a → Pst K mg W F A H σ ρ RR Q (k a ρ1) → Q1 b H1) : Pst K mg W F A H σ ρ RR1 Q1 (m ρ) := by
  unfold bnd at h
  cases e : m ρ with
  | ok a ρ1 =>
    rw [e] at h
    exact fun A1 H1 b E S R => hk a ρ1 A1 H1 b E S R h
  | ex x ρ1 =>
    rw [e] at h
    exact h
  | no => rw [e] at h; exact h
end
/-- an expression comes to f -/
def RE (F : Ent) (Z : Hp) (σ : L2.St) : AS → Hp → Dn → V → Rv → Prop := fun A H ρ v r => RvR F Z A H σ ρ v r
def SimE (X : Cx) (W : WX) (e : Expr) (f : M Rv) : Prop := ∃ t : TE, PE X e t ∧ ∀ F A H σ ρ, ER X.K F A H σ ρ → ∀ Q : VK, Pst X.K X.mg W F A H σ ρ (RE F H σ) Q (f ρ) → t σ H Q
inductive RvRs (F : Ent) (Z : Hp) (A : AS) (H : Hp) (σ : L2.St) (ρ : Dn) : List V → List Rv → Prop
  | nil : RvRs F Z A H σ ρ [] []
  | cons {v : V} {vs : List V} {r : Rv} {rs : List Rv} : RvR F Z A H σ ρ v r → RvRs F Z A H σ ρ vs rs → RvRs F Z A H σ ρ (v :: vs) (r :: rs)
def RA (F : Ent) (Z : Hp) (σ : L2.St) : AS → Hp → Dn → List V → List Rv → Prop := fun A H ρ v r => RvRs F Z A H σ ρ v r
def SimA (X : Cx) (W : WX) (es : List Expr) (f : M (List Rv)) : Prop := ∃ t : TA, PA X es t ∧ ∀ F A H σ ρ, ER X.K F A H σ ρ → ∀ Q : List V → Hp → Prop, Pst X.K X.mg W F A H σ ρ (RA F H σ) Q (f ρ) → t σ H Q
def RT : AS → Hp → Dn → Bool → Bool → Prop := fun _ _ _ b c => b = c
def SimT (X : Cx) (W : WX) (e : Expr) (f : M Bool) : Prop := ∃ t : TT, PT X e t ∧ ∀ F A H σ ρ, ER X.K F A H σ ρ → ∀ Q : Bool → Hp → Prop, Pst X.K X.mg W F A H σ ρ RT Q (f ρ) → t σ H Q
def SimW (X : Cx) (W : WX) (e : Expr) (f : M Bool) : Prop := ∃ t : TT, PW X e t ∧ ∀ F A H σ ρ, ER X.K F A H σ ρ → ∀ Q : Bool → Hp → Prop, Pst X.K X.mg W F A H σ ρ RT Q (f ρ) → t σ H Q
/-- what an operation hands back: data, or a new list or dict -/
inductive Rc where
  | val (d : PD)
  | fresh (d : PD)
def Rc.rv : Rc → Rv
  | .val d => .val d
  | .fresh d => .fresh d
def NewR (A : AS) (H H' : Hp) (v : V) (c : Rc) : Prop := (∀ b o, H b = some o → H' b = some o) ∧
  match c with
  | .val d => Rp A H' v d
  | .fresh d => ∃ p, v = .ref p ∧ H p = none ∧ OwnObj A H' p d
section
variable {X : Cx} {K : PySem.W.Frag} {W : WX} {F : Ent} {Z : Hp} {A A' : AS} {H H' : Hp} {σ : L2.St} {ρ : Dn} {v : V} {c : Rc}
theorem ER.fnone (E : ER K F A H σ ρ) {p : Addr} (h : H p = none) : F.H p = none := by
  cases e : F.H p with
  | none => rfl
  | some o =>
    by_cases hs : F.S p
    · obtain ⟨q, hq, rfl⟩ := hs
      obtain ⟨e1, d, e2⟩ := E.ins q hq
      have := (E.ow ⟨q.1, true, d, e2, e1⟩).2
      rw [h] at this
      exact this.elim
    · rw [E.kp p o e hs] at h
      cases h
theorem ER.owne (E : ER K F A H σ ρ) {p : Addr} (h : H p = none) : ¬ Ow σ ρ p := fun z => by
  have := (E.ow z).2
  rw [h] at this
  exact this
theorem NewR.rv (l : ∀ b, H b = none → Z b = none) (E : ER K F A H σ ρ) (h : NewR A H H' v c) : ER K F A H' σ ρ ∧ Step A H σ ρ A H' ρ ∧ RvR F Z A H' σ ρ v c.rv := by
  obtain ⟨k, h⟩ := h
  refine ⟨E.ext k, Step.ext k, ?_⟩
  cases c with
  | val d => exact h
  | fresh d =>
    obtain ⟨p, rfl, hn, o⟩ := h
    exact ⟨p, rfl, ⟨E.free hn, E.owne hn, E.fnone hn, l p hn⟩, o⟩
/-- the values on the way, read -/
def rds (rs : List Rv) (ρ : Dn) : Option (List PD) :=
  match rs with
  | [] => some []
  | r :: rs => match rd r ρ with
    | some d => (rds rs ρ).map (d :: ·)
    | none => none
inductive Rts (A : AS) (H : Hp) : List V → List PD → Prop
  | nil : Rts A H [] []
  | cons {v : V} {vs : List V} {d : PD} {ds : List PD} : Rt A H v d → Rts A H vs ds → Rts A H (v :: vs) (d :: ds)
theorem RvRs.rts (E : ER K F A H σ ρ) : ∀ {vs : List V} {rs : List Rv} {ds : List PD}, RvRs F Z A H σ ρ vs rs → rds rs ρ = some ds → Rts A H vs ds
  | _, _, _, .nil, e => by cases e; exact .nil
  | _, _, ds, .cons (r := r) (rs := rs) h hs, e => by
    unfold rds at e
    cases e1 : rd r ρ with
    | none => rw [e1] at e; cases e
    | some d =>
      rw [e1] at e
      simp only at e
      cases e2 : rds rs ρ with
      | none => rw [e2] at e; cases e
      | some ds' =>
        rw [e2] at e
        cases e
        exact .cons (h.rt E e1) (RvRs.rts E hs e2)
theorem RvRs.back {Z' : Hp} (l : ∀ b, Z b = none → Z' b = none) : ∀ {vs : List V} {rs : List Rv}, RvRs F Z A H σ ρ vs rs → RvRs F Z' A H σ ρ vs rs
  | _, _, .nil => .nil
  | _, _, .cons h hs => .cons (h.back l) (RvRs.back l hs)
theorem RvRs.step {A' : AS} {H' : Hp} {ρ' : Dn} (E : ER K F A H σ ρ) (s : Step A H σ ρ A' H' ρ') : ∀ {vs : List V} {rs : List Rv}, RvRs F Z A H σ ρ vs rs → RvRs F Z A' H' σ ρ' vs rs
  | _, _, .nil => .nil
  | _, _, .cons h hs => .cons (h.step E s) (RvRs.step E s hs)
end
/-- an operation, by values, on data -/
structure Op2 (r : R2) (g : PD → PD → Option Rc) : Prop where
  run : ∀ A H x y d1 d2 c (Q : VK), (∀ a, A a → H a ≠ none) → Rt A H x d1 → Rt A H y d2 → g d1 d2 = some c → (∀ v H', NewR A H H' v c → Q v H') → r x y H Q
structure Op1 (r : V → Hp → VK → Prop) (g : PD → Option Rc) : Prop where
  run : ∀ A H x d1 c (Q : VK), (∀ a, A a → H a ≠ none) → Rt A H x d1 → g d1 = some c → (∀ v H', NewR A H H' v c → Q v H') → r x H Q
structure OpN (r : List V → Hp → VK → Prop) (g : List PD → Option Rc) : Prop where
  run : ∀ A H xs ds c (Q : VK), (∀ a, A a → H a ≠ none) → Rts A H xs ds → g ds = some c → (∀ v H', NewR A H H' v c → Q v H') → r xs H Q
/-- handing an operation's answer on -/
def fin (o : Option Rc) : M Rv := fun ρ =>
  match o with
  | some c => .ok c.rv ρ
  | none => .no
def rdM (r : Rv) : M PD := fun ρ =>
  match rd r ρ with
  | some d => .ok d ρ
  | none => .no
def rdsM (r : List Rv) : M (List PD) := fun ρ =>
  match rds r ρ with
  | some d => .ok d ρ
  | none => .no
def eOp2 (g : PD → PD → Option Rc) (a b : M Rv) : M Rv := bnd a fun x => bnd b fun y => bnd (rdM x) fun d1 => bnd (rdM y) fun d2 => fin (g d1 d2)
def eOp1 (g : PD → Option Rc) (a : M Rv) : M Rv := bnd a fun x => bnd (rdM x) fun d1 => fin (g d1)
def eOpN (g : List PD → Option Rc) (a : M (List Rv)) : M Rv := bnd a fun xs => bnd (rdsM xs) fun ds => fin (g ds)
section
variable {X : Cx} {W : WX} {F : Ent} {A : AS} {H : Hp} {σ : L2.St} {ρ : Dn} {v : V} {α : Type}
theorem Pst.rd {β : Type} {RR : AS → Hp → Dn → β → α → Prop} {Q : β → Hp → Prop} {r : Rv} {k : PD → M α} {ρ1 : Dn} (h : Pst X.K X.mg W F A H σ ρ RR Q (bnd (rdM r) k ρ1)) : ∃ d, rd r ρ1 = some d ∧ Pst X.K X.mg W F A H σ ρ RR Q (k d ρ1) := by
  unfold bnd rdM at h
  cases e : DP.rd r ρ1 with
  | none => rw [e] at h; exact h.elim
  | some d => rw [e] at h; exact ⟨d, rfl, h⟩
theorem Pst.rds {β : Type} {RR : AS → Hp → Dn → β → α → Prop} {Q : β → Hp → Prop} {r : List Rv} {k : List PD → M α} {ρ1 : Dn} (h : Pst X.K X.mg W F A H σ ρ RR Q (bnd (rdsM r) k ρ1)) : ∃ d, rds r ρ1 = some d ∧ Pst X.K X.mg W F A H σ ρ RR Q (k d ρ1) := by
  unfold bnd rdsM at h
  cases e : DP.rds r ρ1 with
  | none => rw [e] at h; exact h.elim
  | some d => rw [e] at h; exact ⟨d, rfl, h⟩
theorem Pst.fin {Q : VK} {o : Option Rc} {A1 : AS} {H1 : Hp} {ρ1 : Dn} (S : Step A H σ ρ A1 H1 ρ1) (E : ER X.K F A1 H1 σ ρ1) (h : Pst X.K X.mg W F A H σ ρ (RE F H σ) Q (fin o ρ1)) : ∃ c, o = some c ∧ ∀ v H', NewR A1 H1 H' v c → Q v H' := by
  unfold DP.fin at h
  cases o with
  | none => exact h.elim
  | some c => exact ⟨c, rfl, fun v H' n => let ⟨a, b, r⟩ := n.rv S.live E; h A1 H' v a (S.trans b) r⟩
theorem Pst.fin' {Q : VK} {o : Option Rc} {A0 A1 : AS} {H0 H1 : Hp} {ρ0 ρ1 : Dn} (S : Step A H σ ρ A1 H1 ρ1) (E : ER X.K F A1 H1 σ ρ1) (S0 : Step A0 H0 σ ρ0 A H ρ) (h : Pst X.K X.mg W F A H σ ρ (RE F H0 σ) Q (DP.fin o ρ1)) : ∃ c, o = some c ∧ ∀ v H', NewR A1 H1 H' v c → Q v H' := by
  unfold DP.fin at h
  cases o with
  | none => exact h.elim
  | some c => exact ⟨c, rfl, fun v H' n => let ⟨a, b, r⟩ := n.rv (S0.trans S).live E; h A1 H' v a (S.trans b) r⟩
variable {a b : Expr} {fa fb : M Rv} {es : List Expr} {fs : M (List Rv)} {r : R2} {g : PD → PD → Option Rc} {pos : Pos}
theorem op2_run {ta tb : TE} (hg : Op2 r g) (ha : ∀ F A H σ ρ, ER X.K F A H σ ρ → ∀ Q : VK, Pst X.K X.mg W F A H σ ρ (RE F H σ) Q (fa ρ) → ta σ H Q) (hb : ∀ F A H σ ρ, ER X.K F A H σ ρ → ∀ Q : VK, Pst X.K X.mg W F A H σ ρ (RE F H σ) Q (fb ρ) → tb σ H Q) :
    ∀ F A H σ ρ, ER X.K F A H σ ρ → ∀ Q : VK, Pst X.K X.mg W F A H σ ρ (RE F H σ) Q (eOp2 g fa fb ρ) → tOp r ta tb σ H Q := by
  intro F A H σ ρ E Q h
  refine ha F A H σ ρ E _ (h.split fun x ρ1 A1 H1 v1 E1 S1 R1 h1 => ?_)
  refine hb F A1 H1 σ ρ1 E1 _ ((h1.after S1).split fun y ρ2 A2 H2 v2 E2 S2 R2 h2 => ?_)
  obtain ⟨d1, e1, h3⟩ := h2.rd
  obtain ⟨d2, e2, h4⟩ := h3.rd
  obtain ⟨c, e3, h5⟩ := h4.fin' S2 E2 S1
  have R1' : RvR F H A2 H2 σ ρ2 v1 x := RvR.step E1 S2 R1
  exact hg.run A2 H2 v1 v2 d1 d2 c Q E2.dom (R1'.rt E2 e1) (RvR.rt E2 R2 e2) e3 h5
theorem sim_op {op : Operator} (ho : OpR X (binaryOp op) r) (hg : Op2 r g) (ha : SimE X W a fa) (hb : SimE X W b fb) : SimE X W (.BinOp a op b pos) (eOp2 g fa fb) := by
  obtain ⟨ta, pa, ha⟩ := ha
  obtain ⟨tb, pb, hb⟩ := hb
  exact ⟨_, pe_op ho pa pb, op2_run hg ha hb⟩
theorem sim_cmp {op : CmpOp} (ho : OpR X (compareOp op) r) (hg : Op2 r g) (ha : SimE X W a fa) (hb : SimE X W b fb) (hm : behindInMarks op b = false) : SimE X W (.Compare a [op] [b] pos) (eOp2 g fa fb) := by
  obtain ⟨ta, pa, ha⟩ := ha
  obtain ⟨tb, pb, hb⟩ := hb
  exact ⟨_, pe_cmpR ho pa pb hm, op2_run hg ha hb⟩
theorem sim_ix (ho : IxR X r) (hg : Op2 r g) (ha : SimE X W a fa) (hb : SimE X W b fb) (hs : PlainIx b) : SimE X W (.Subscript a b pos) (eOp2 g fa fb) := by
  obtain ⟨ta, pa, ha⟩ := ha
  obtain ⟨tb, pb, hb⟩ := hb
  exact ⟨_, pe_ix ho pa pb hs, op2_run hg ha hb⟩
theorem sim_un {op : UnaryOp} {r : V → Hp → VK → Prop} {g : PD → Option Rc} (ho : UnR X (unaryOp op) r) (hg : Op1 r g) (ha : SimE X W a fa) : SimE X W (.UnaryOp op a pos) (eOp1 g fa) := by
  obtain ⟨ta, pa, ha⟩ := ha
  refine ⟨_, pe_un ho pa, fun F A H σ ρ E Q h => ?_⟩
  refine ha F A H σ ρ E _ (h.split fun x ρ1 A1 H1 v1 E1 S1 R1 h1 => ?_)
  obtain ⟨d1, e1, h3⟩ := h1.rd
  obtain ⟨c, e3, h5⟩ := h3.fin S1 E1
  exact hg.run A1 H1 v1 d1 c Q E1.dom (RvR.rt E1 R1 e1) e3 h5
/-! names, constants -/
def eVar (i : Nat) : M Rv := fun ρ =>
  match ρ[i]? with
  | some (some (.imm d)) => .ok (.val d) ρ
  | some (some (.own _ _)) => .ok (.slot i) ρ
  | _ => .no
def eC (d : PD) : M Rv := fun ρ => .ok (.val d) ρ
theorem sim_var {i : Nat} {x : Str} {pos : Pos} (h : PE X (.Name x pos) (tVar i)) : SimE X W (.Name x pos) (eVar i) := by
  refine ⟨_, h, fun F A H σ ρ E Q h => ?_⟩
  unfold eVar at h
  cases e : ρ[i]? with
  | none => rw [e] at h; exact h.elim
  | some o =>
    rw [e] at h
    cases o with
    | none => exact h.elim
    | some s =>
      obtain ⟨v, e1, r⟩ := E.slot i s e
      refine ⟨v, e1, ?_⟩
      cases s with
      | imm d => exact h A H v E Step.refl r
      | own b d => exact h A H v E Step.refl ⟨e1, _, e⟩
      | scr ns => exact h.elim
theorem sim_c {e : Expr} {v : V} {d : PD} (h : PE X e (tC v)) (hr : ∀ A H, Rp A H v d) : SimE X W e (eC d) :=
  ⟨_, h, fun F A H σ ρ E Q h => h A H v E Step.refl (hr A H)⟩
theorem sim_int {i : Int} {j : Nat} {pos : Pos} : SimE X W (.Constant (.int i) j pos) (eC (.int i)) := sim_c pe_int fun _ _ => .int i
theorem sim_bl {i : Bool} {j : Nat} {pos : Pos} : SimE X W (.Constant (.bool i) j pos) (eC (.bool i)) := sim_c pe_bl fun _ _ => .bl i
theorem sim_non {j : Nat} {pos : Pos} : SimE X W (.Constant .none j pos) (eC .none) := sim_c pe_non fun _ _ => .non
theorem sim_str {i : Str} {j : Nat} {pos : Pos} : SimE X W (.Constant (.str i) j pos) (eC (.str i)) := sim_c pe_str fun _ _ => .str i
/-! argument lists -/
def aNil : M (List Rv) := fun ρ => .ok [] ρ
def aCons (a : M Rv) (b : M (List Rv)) : M (List Rv) := bnd a fun x => bnd b fun xs => retM (x :: xs)
theorem sim_anil : SimA X W [] aNil := ⟨_, pa_nil, fun F A H σ ρ E Q h => h A H [] E Step.refl .nil⟩
theorem sim_acons (ha : SimE X W a fa) (hb : SimA X W es fs) (hs : starEach (a :: es) X.env = (false, eval a X.env) :: starEach es X.env := by rfl) : SimA X W (a :: es) (aCons fa fs) := by
  obtain ⟨ta, pa, ha⟩ := ha
  obtain ⟨tb, pb, hb⟩ := hb
  refine ⟨_, pa_cons pa pb hs, fun F A H σ ρ E Q h => ?_⟩
  refine ha F A H σ ρ E _ (h.split fun x ρ1 A1 H1 v1 E1 S1 R1 h1 => ?_)
  refine hb F A1 H1 σ ρ1 E1 _ ((h1.after S1).split fun xs ρ2 A2 H2 vs E2 S2 R2 h2 => ?_)
  exact h2 A2 H2 (v1 :: vs) E2 S2 (.cons (RvR.step E1 S2 R1) (R2.back S1.live))
/-- a call of a built-in by its name -/
theorem sim_callB {r : List V → Hp → VK → Prop} {g : List PD → Option Rc} {id : String} {x : Str} {p : Pos} (hc : CallR X (.builtin id) r) (hg : OpN r g) (hgl : Gl X x) (hm : X.mg x = none) (hv : bootBuiltins x = some (.builtin id)) (ha : SimA X W (a :: es) fs) (hn : x ≠ "__name__" := by decide) (hdb : (x == ("__debug__" : Str)) = false := by decide)
    (he : starEach (a :: es) X.env = (false, eval a X.env) :: starEach es X.env := by rfl) (hpl : (backTo pos (starEach es X.env)).any (·.1) = false := by rfl) : SimE X W (.Call (.Name x p) (a :: es) [] pos) (eOpN g fs) := by
  obtain ⟨ta, pa, ha⟩ := ha
  refine ⟨_, pe_callB hc hgl hm hv pa hn hdb he hpl, fun F A H σ ρ E Q h => ?_⟩
  refine ha F A H σ ρ E _ (h.split fun xs ρ1 A1 H1 vs E1 S1 R1 h1 => ?_)
  obtain ⟨ds, e1, h3⟩ := h1.rds
  obtain ⟨c, e3, h5⟩ := h3.fin S1 E1
  exact hg.run A1 H1 vs ds c Q E1.dom (RvRs.rts E1 R1 e1) e3 h5
theorem sim_callTy {r : List V → Hp → VK → Prop} {g : List PD → Option Rc} {T : String} {x : Str} {p : Pos} (hc : CallR X (.type T) r) (hg : OpN r g) (hgl : Gl X x) (hm : X.mg x = none) (hv : bootBuiltins x = some (.type T)) (ha : SimA X W (a :: es) fs) (hn : x ≠ "__name__" := by decide) (hdb : (x == ("__debug__" : Str)) = false := by decide)
    (he : starEach (a :: es) X.env = (false, eval a X.env) :: starEach es X.env := by rfl) (hpl : (backTo pos (starEach es X.env)).any (·.1) = false := by rfl) : SimE X W (.Call (.Name x p) (a :: es) [] pos) (eOpN g fs) := by
  obtain ⟨ta, pa, ha⟩ := ha
  refine ⟨_, pe_callTy hc hgl hm hv pa hn hdb he hpl, fun F A H σ ρ E Q h => ?_⟩
  refine ha F A H σ ρ E _ (h.split fun xs ρ1 A1 H1 vs E1 S1 R1 h1 => ?_)
  obtain ⟨ds, e1, h3⟩ := h1.rds
  obtain ⟨c, e3, h5⟩ := h3.fin S1 E1
  exact hg.run A1 H1 vs ds c Q E1.dom (RvRs.rts E1 R1 e1) e3 h5
end
end DP
/-! DPD: slots set and frozen; tests; targets; statements; loops; comprehensions. -/
namespace DP
open PySem L2
section
variable {K : PySem.W.Frag} {F : Ent} {A : AS} {H : Hp} {σ : L2.St} {ρ : Dn} {v : V} {d : PD} {i : Nat} {p : Addr}
/-- slot i may be stored to -/
def freeSl (ρ : Dn) (i : Nat) : Bool :=
  match ρ[i]? with
  | some (some (.own true _)) => false
  | some _ => true
  | none => false
theorem freeSl_lt (h : freeSl ρ i = true) : i < ρ.length := by
  unfold freeSl at h
  cases e : ρ[i]? with
  | none => rw [e] at h; cases h
  | some o => exact (List.getElem?_eq_some_iff.mp e).1
theorem freeSl_no (h : freeSl ρ i = true) : ρ[i]? ≠ some (some (.own true d)) := by
  intro e
  unfold freeSl at h
  rw [e] at h
  cases h
theorem get_set_self {α : Type} {l : List α} {i : Nat} {a : α} (h : i < l.length) : (l.set i a)[i]? = some a := List.getElem?_set_self h
theorem get_set_ne {α : Type} {l : List α} {i j : Nat} {a : α} (h : i ≠ j) : (l.set i a)[j]? = l[j]? := List.getElem?_set_ne h
/-- a store to a slot: data that stays, or a thing of its own -/
theorem ER.store (E : ER K F A H σ ρ) (hf : freeSl ρ i = true) {s : Sl} (hs : SlR K A H v s) (ho : ∀ b d p, s = .own b d → v = .ref p → b = false ∧ (∀ j, j ≠ i → ∀ b' d', ρ[j]? = some (some (.own b' d')) → σ[j]? ≠ some (some (.ref p))) ∧ F.H p = none) :
    ER K F A H (σ.set i (some v)) (ρ.set i (some s)) := by
  have hi := freeSl_lt hf
  have hiσ : i < σ.length := by rw [E.len]; exact hi
  refine ⟨by simp [E.len], fun j t e => ?_, fun j k b b' d d' q e1 e2 e3 e4 => ?_, E.dom, E.kp, E.mono, E.grow, fun j b d q e1 e2 => ?_, E.FS, fun q hq => ?_⟩
  · by_cases hj : i = j
    · subst hj
      rw [get_set_self hi] at e
      cases e
      exact ⟨v, get_set_self hiσ, hs⟩
    · rw [get_set_ne hj] at e
      rw [get_set_ne hj]
      exact E.slot j t e
  · by_cases hj : i = j
    · by_cases hk : i = k
      · exact hj.symm.trans hk
      · subst hj
        rw [get_set_self hi] at e1
        rw [get_set_self hiσ] at e3
        rw [get_set_ne hk] at e2 e4
        cases e1
        cases e3
        exact absurd e4 ((ho _ _ q rfl rfl).2.1 k (Ne.symm hk) _ _ e2)
    · by_cases hk : i = k
      · subst hk
        rw [get_set_self hi] at e2
        rw [get_set_self hiσ] at e4
        rw [get_set_ne hj] at e1 e3
        cases e2
        cases e4
        exact absurd e3 ((ho _ _ q rfl rfl).2.1 j (Ne.symm hj) _ _ e1)
      · rw [get_set_ne hj] at e1 e3
        rw [get_set_ne hk] at e2 e4
        exact E.dist j k b b' d d' q e1 e2 e3 e4
  · by_cases hj : i = j
    · subst hj
      rw [get_set_self hi] at e1
      rw [get_set_self hiσ] at e2
      cases e1
      cases e2
      obtain ⟨rfl, _, z⟩ := ho _ _ q rfl rfl
      exact z
    · rw [get_set_ne hj] at e1 e2
      exact E.ownF j b d q e1 e2
  · obtain ⟨e1, d, e2⟩ := E.ins q hq
    have hne : i ≠ q.1 := fun z => by subst z; exact freeSl_no hf e2
    exact ⟨by rw [get_set_ne hne]; exact e1, d, by rw [get_set_ne hne]; exact e2⟩
theorem ER.setImm (E : ER K F A H σ ρ) (hf : freeSl ρ i = true) (h : Rp A H v d) : ER K F A H (σ.set i (some v)) (ρ.set i (some (.imm d))) :=
  E.store hf (s := .imm d) h fun _ _ _ e => nomatch e
theorem ER.setOwn (E : ER K F A H σ ρ) (hf : freeSl ρ i = true) (h1 : ¬ A p) (h2 : ¬ Ow σ ρ p) (h3 : F.H p = none) (h4 : OwnObj A H p d) : ER K F A H (σ.set i (some (.ref p))) (ρ.set i (some (.own false d))) :=
  E.store hf (s := .own false d) ⟨p, rfl, h1, h4⟩ fun b d' q e1 e2 => by
    cases e1
    cases e2
    exact ⟨rfl, fun j _ b' d' e3 e4 => h2 ⟨j, b', d', e3, e4⟩, h3⟩
/-- A and p -/
def plus (A : AS) (p : Addr) : AS := fun a => A a ∨ a = p
theorem Kp.plus : Kp A (plus A p) H H := ⟨fun _ h => .inl h, fun _ _ _ e => e, fun _ _ e => e⟩
theorem OwnObj.rp (h : OwnObj A H p d) : Rp (plus A p) H (.ref p) d := by
  cases d <;> simp only [OwnObj] at h
  · obtain ⟨xs, e, r⟩ := h; exact .lst (.inr rfl) e (r.kp Kp.plus)
  · obtain ⟨xs, e, r⟩ := h; exact .dic (.inr rfl) e (r.kp Kp.plus)
theorem OwnObj.ne (h : OwnObj A H p d) : H p ≠ none := fun z => by
  have := h.ld
  rw [z] at this
  exact this
/-- a new thing that nobody else has is frozen -/
theorem ER.freeze (E : ER K F A H σ ρ) (h1 : ¬ A p) (h2 : ¬ Ow σ ρ p) (h3 : F.H p = none) (h4 : H p ≠ none) : ER K F (plus A p) H σ ρ := by
  refine ⟨E.len, fun i s e => ?_, E.dist, fun a ha => ?_, E.kp, fun a ha => .inl (E.mono a ha), fun a ha => ?_, E.ownF, fun q hq z => ?_, E.ins⟩
  · obtain ⟨v, e1, r⟩ := E.slot i s e
    refine ⟨v, e1, ?_⟩
    cases s with
    | imm d => exact Rp.kp Kp.plus r
    | own b d =>
      obtain ⟨q, rfl, n, o⟩ := r
      refine ⟨q, rfl, fun z => z.elim n fun z => ?_, o.kp Kp.plus rfl⟩
      subst z
      exact h2 ⟨i, b, d, e, e1⟩
    | scr ns => exact r
  · rcases ha with ha | rfl
    · exact E.dom a ha
    · exact h4
  · rcases ha with ha | rfl
    · exact E.grow a ha
    · exact .inr h3
  · rcases z with z | rfl
    · exact E.FS q hq z
    · obtain ⟨q', hq', rfl⟩ := hq
      obtain ⟨e1, d, e2⟩ := E.ins q' hq'
      exact h2 ⟨q'.1, true, d, e2, e1⟩
/-- a slot's own thing is frozen -/
theorem ER.freezeSlot (E : ER K F A H σ ρ) (e1 : ρ[i]? = some (some (.own false d))) (e2 : σ[i]? = some (some (.ref p))) : ER K F (plus A p) H σ (ρ.set i (some (.imm d))) ∧ Step A H σ ρ (plus A p) H (ρ.set i (some (.imm d))) ∧ Rp (plus A p) H (.ref p) d := by
  have hi : i < ρ.length := (List.getElem?_eq_some_iff.mp e1).1
  obtain ⟨v, e3, p', rfl, hn, ho⟩ := E.slot i _ e1
  rw [e2] at e3
  cases e3
  have hr : Rp (plus A p) H (.ref p) d := ho.rp
  have sub : ∀ q, Ow σ (ρ.set i (some (.imm d))) q → Ow σ ρ q ∧ q ≠ p := fun q ⟨j, b, d', f1, f2⟩ => by
    by_cases hj : i = j
    · subst hj
      rw [get_set_self hi] at f1
      cases f1
    · rw [get_set_ne hj] at f1
      refine ⟨⟨j, b, d', f1, f2⟩, fun z => ?_⟩
      subst z
      exact hj (E.dist i j _ _ _ _ q e1 f1 e2 f2)
  refine ⟨⟨by simp [E.len], fun j s e => ?_, fun j k b b' d1 d2 q f1 f2 f3 f4 => ?_, fun a ha => ?_, E.kp, fun a ha => .inl (E.mono a ha), fun a ha => ?_, fun j b d1 q f1 f2 => ?_, fun q hq z => ?_, fun q hq => ?_⟩, ⟨fun b o e _ => e, fun _ h => .inl h, fun a ha => ?_, fun q h => (sub q h).1, fun j s e => ?_, fun _ h => h, by simp⟩, hr⟩
  · by_cases hj : i = j
    · subst hj
      rw [get_set_self hi] at e
      cases e
      exact ⟨_, e2, hr⟩
    · rw [get_set_ne hj] at e
      obtain ⟨v, e1', r⟩ := E.slot j s e
      refine ⟨v, e1', ?_⟩
      cases s with
      | imm d => exact Rp.kp Kp.plus r
      | own b d1 =>
        obtain ⟨q, rfl, n, o⟩ := r
        refine ⟨q, rfl, fun z => z.elim n fun z => ?_, o.kp Kp.plus rfl⟩
        subst z
        exact hj (E.dist i j _ _ _ _ q e1 e e2 e1')
      | scr ns => exact r
  · by_cases hj : i = j
    · subst hj; rw [get_set_self hi] at f1; cases f1
    · by_cases hk : i = k
      · subst hk; rw [get_set_self hi] at f2; cases f2
      · rw [get_set_ne hj] at f1
        rw [get_set_ne hk] at f2
        exact E.dist j k _ _ _ _ q f1 f2 f3 f4
  · rcases ha with ha | rfl
    · exact E.dom a ha
    · exact ho.ne
  · rcases ha with ha | rfl
    · exact E.grow a ha
    · have := E.ownF i false d a e1 e2
      exact .inr (by simpa using this)
  · by_cases hj : i = j
    · subst hj; rw [get_set_self hi] at f1; cases f1
    · rw [get_set_ne hj] at f1
      exact E.ownF j b d1 q f1 f2
  · rcases z with z | rfl
    · exact E.FS q hq z
    · obtain ⟨q', hq', hqe⟩ := hq
      obtain ⟨g1, d', g2⟩ := E.ins q' hq'
      subst hqe
      have hj := E.dist i q'.1 _ _ _ _ q'.2 e1 g2 e2 g1
      rw [← hj, e1] at g2
      cases g2
  · obtain ⟨g1, d', g2⟩ := E.ins q hq
    have hne : i ≠ q.1 := fun z => by rw [← z, e1] at g2; cases g2
    exact ⟨g1, d', by rw [get_set_ne hne]; exact g2⟩
  · rcases ha with ha | rfl
    · exact .inl ha
    · exact .inr (.inr ⟨i, false, d, e1, e2⟩)
  · by_cases hj : i = j
    · subst hj; exact ⟨_, get_set_self hi⟩
    · exact ⟨s, by rw [get_set_ne hj]; exact e⟩
end
/-- a value on the way becomes data that stays -/
def frz (r : Rv) : M PD := fun ρ =>
  match r with
  | .val d => .ok d ρ
  | .fresh d => .ok d ρ
  | .slot i => match ρ[i]? with
    | some (some (.imm d)) => .ok d ρ
    | some (some (.own false d)) => .ok d (ρ.set i (some (.imm d)))
    | _ => .no
/-- several, one after another -/
def frzs : List Rv → M (List PD)
  | [] => fun ρ => .ok [] ρ
  | r :: rs => bnd (frz r) fun d => bnd (frzs rs) fun ds => retM (d :: ds)
/-- a value waiting to be frozen -/
def RvQ (F : Ent) (Z : Hp) (A : AS) (H : Hp) (σ : L2.St) (ρ : Dn) (v : V) : Rv → Prop
  | .val d => Rp A H v d
  | .fresh d => ∃ p, v = .ref p ∧ (¬ Ow σ ρ p ∧ F.H p = none ∧ Z p = none) ∧ OwnObj A H p d
  | .slot i => σ[i]? = some (some v) ∧ ∃ s, ρ[i]? = some (some s)
theorem RvR.q {F : Ent} {Z : Hp} {A : AS} {H : Hp} {σ : L2.St} {ρ : Dn} {v : V} {r : Rv} (h : RvR F Z A H σ ρ v r) : RvQ F Z A H σ ρ v r := by
  cases r with
  | val d => exact h
  | fresh d => obtain ⟨p, e, ⟨_, h2, h3, h4⟩, h5⟩ := h; exact ⟨p, e, ⟨h2, h3, h4⟩, h5⟩
  | slot i => exact h
inductive RvQs (F : Ent) (Z : Hp) (A : AS) (H : Hp) (σ : L2.St) (ρ : Dn) : List V → List Rv → Prop
  | nil : RvQs F Z A H σ ρ [] []
  | cons {v : V} {vs : List V} {r : Rv} {rs : List Rv} : RvQ F Z A H σ ρ v r → RvQs F Z A H σ ρ vs rs → RvQs F Z A H σ ρ (v :: vs) (r :: rs)
theorem RvRs.q {F : Ent} {Z : Hp} {A : AS} {H : Hp} {σ : L2.St} {ρ : Dn} : ∀ {vs : List V} {rs : List Rv}, RvRs F Z A H σ ρ vs rs → RvQs F Z A H σ ρ vs rs
  | _, _, .nil => .nil
  | _, _, .cons h hs => .cons h.q (RvRs.q hs)
section
variable {X : Cx} {K : PySem.W.Frag} {mg : Str → Option Value} {W : WX} {F : Ent} {A0 A : AS} {H0 H : Hp} {σ : L2.St} {ρ0 ρ : Dn} {v : V} {r : Rv} {α β : Type}
/-- A' more than A, the heap as it is -/
theorem RvQ.more {A' : AS} {ρ' : Dn} (k : Kp A A' H H) (hs : ∀ p, Ow σ ρ' p → Ow σ ρ p) (hd : ∀ (i : Nat) (s : Sl), ρ[i]? = some (some s) → ∃ s', ρ'[i]? = some (some s')) (h : RvQ F H0 A H σ ρ v r) : RvQ F H0 A' H σ ρ' v r := by
  cases r with
  | val d => exact Rp.kp k h
  | fresh d => obtain ⟨p, e, ⟨h2, h3, h4⟩, h5⟩ := h; exact ⟨p, e, ⟨fun z => h2 (hs p z), h3, h4⟩, h5.kp k rfl⟩
  | slot i => obtain ⟨e, s, h⟩ := h; exact ⟨e, hd i s h⟩
theorem RvQs.more {A' : AS} {ρ' : Dn} (k : Kp A A' H H) (hs : ∀ p, Ow σ ρ' p → Ow σ ρ p) (hd : ∀ (i : Nat) (s : Sl), ρ[i]? = some (some s) → ∃ s', ρ'[i]? = some (some s')) : ∀ {vs : List V} {rs : List Rv}, RvQs F H0 A H σ ρ vs rs → RvQs F H0 A' H σ ρ' vs rs
  | _, _, .nil => .nil
  | _, _, .cons h h' => .cons (h.more k hs hd) (RvQs.more k hs hd h')
theorem frz_run (E : ER K F A H σ ρ) (S : Step A0 H0 σ ρ0 A H ρ) (R : RvQ F H0 A H σ ρ v r) {d : PD} {ρ' : Dn} (h : frz r ρ = .ok d ρ') :
    ∃ A', ER K F A' H σ ρ' ∧ Step A0 H0 σ ρ0 A' H ρ' ∧ Rp A' H v d ∧ Kp A A' H H ∧ (∀ p, Ow σ ρ' p → Ow σ ρ p) ∧ (∀ (i : Nat) (s : Sl), ρ[i]? = some (some s) → ∃ s', ρ'[i]? = some (some s')) := by
  cases r with
  | val d' => cases h; exact ⟨A, E, S, R, ⟨fun _ h => h, fun _ _ _ e => e, fun _ _ e => e⟩, fun _ h => h, fun _ s h => ⟨s, h⟩⟩
  | fresh d' =>
    cases h
    obtain ⟨p, rfl, ⟨h2, h3, hz⟩, h4⟩ := R
    by_cases ha : A p
    · refine ⟨A, E, S, ?_, ⟨fun _ h => h, fun _ _ _ e => e, fun _ _ e => e⟩, fun _ h => h, fun _ s h => ⟨s, h⟩⟩
      have := h4.rp
      exact Rp.kp ⟨fun a z => z.elim id fun z => by subst z; exact ha, fun _ _ _ e => e, fun _ _ e => e⟩ this
    · refine ⟨plus A p, E.freeze ha h2 h3 h4.ne, ⟨S.kp, fun a h => .inl (S.mono a h), fun a z => ?_, S.sub, S.def_, S.live, S.len⟩, h4.rp, Kp.plus, fun _ h => h, fun _ s h => ⟨s, h⟩⟩
      rcases z with z | rfl
      · exact S.grow a z
      · exact .inr (.inl hz)
  | slot i =>
    obtain ⟨e1, s, e2⟩ := R
    simp only [frz, e2] at h
    cases s with
    | imm d' =>
      cases h
      obtain ⟨v', e3, r⟩ := E.slot i _ e2
      rw [e1] at e3
      cases e3
      exact ⟨A, E, S, r, ⟨fun _ h => h, fun _ _ _ e => e, fun _ _ e => e⟩, fun _ h => h, fun _ s h => ⟨s, h⟩⟩
    | own b d' =>
      cases b with
      | true => cases h
      | false =>
        cases h
        obtain ⟨v', e3, p, rfl, _⟩ := E.slot i _ e2
        rw [e1] at e3
        cases e3
        obtain ⟨x, y, z⟩ := E.freezeSlot e2 e1
        exact ⟨_, x, S.trans y, z, Kp.plus, y.sub, y.def_⟩
    | scr ns => cases h
theorem frzs_run : ∀ {rs : List Rv} {vs : List V} {A : AS} {ρ : Dn} {ds : List PD} {ρ' : Dn}, ER K F A H σ ρ → Step A0 H0 σ ρ0 A H ρ → RvQs F H0 A H σ ρ vs rs → frzs rs ρ = .ok ds ρ' →
    ∃ A', ER K F A' H σ ρ' ∧ Step A0 H0 σ ρ0 A' H ρ' ∧ RpAll A' H vs ds ∧ Kp A A' H H
  | [], _, A, ρ, ds, ρ', E, S, R, h => by
    cases R
    cases h
    exact ⟨A, E, S, .nil, fun _ h => h, fun _ _ _ e => e, fun _ _ e => e⟩
  | r :: rs, _, A, ρ, ds, ρ', E, S, .cons R Rs, h => by
    simp only [frzs, bnd] at h
    cases e1 : frz r ρ with
    | no => rw [e1] at h; cases h
    | ex e ρ1 => rw [e1] at h; cases h
    | ok d ρ1 =>
      rw [e1] at h
      simp only at h
      obtain ⟨A1, E1, S1, R1, k1, hs, hd⟩ := frz_run E S R e1
      cases e2 : frzs rs ρ1 with
      | no => rw [e2] at h; cases h
      | ex e ρ1 => rw [e2] at h; cases h
      | ok ds' ρ2 =>
        rw [e2] at h
        obtain ⟨A2, E2, S2, R2, k2⟩ := frzs_run E1 S1 (Rs.more k1 hs hd) e2
        cases h
        exact ⟨A2, E2, S2, .cons (Rp.kp k2 R1) R2, ⟨fun a h => k2.sub a (k1.sub a h), fun _ _ _ e => e, fun _ _ e => e⟩⟩
theorem frz_ok {ρ : Dn} {d : Rs PD} (h : frz r ρ = d) : d = .no ∨ ∃ x ρ', d = .ok x ρ' := by
  subst h
  cases r with
  | val d => exact .inr ⟨_, _, rfl⟩
  | fresh d => exact .inr ⟨_, _, rfl⟩
  | slot i =>
    unfold frz
    dsimp only
    cases ρ[i]? with
    | none => exact .inl rfl
    | some o =>
      cases o with
      | none => exact .inl rfl
      | some s =>
        cases s with
        | imm d => exact .inr ⟨_, _, rfl⟩
        | own b d => cases b with
          | true => exact .inl rfl
          | false => exact .inr ⟨_, _, rfl⟩
        | scr ns => exact .inl rfl
theorem frzs_ok : ∀ {rs : List Rv} {ρ : Dn}, frzs rs ρ = .no ∨ ∃ x ρ', frzs rs ρ = .ok x ρ'
  | [], ρ => .inr ⟨_, _, rfl⟩
  | r :: rs, ρ => by
    rcases frz_ok (r := r) (ρ := ρ) rfl with h | ⟨x, ρ1, h⟩
    · left; simp only [frzs, bnd, h]
    · rcases frzs_ok (rs := rs) (ρ := ρ1) with h2 | ⟨y, ρ2, h2⟩
      · left; simp only [frzs, bnd, h, h2]
      · right; exact ⟨_, _, by simp only [frzs, bnd, h, h2, retM]; rfl⟩
end
section
variable {X : Cx} {W : WX} {F : Ent} {A A1 : AS} {H H1 : Hp} {σ : L2.St} {ρ ρ1 : Dn} {v : V} {r : Rv} {rs : List Rv} {vs : List V} {α β : Type}
theorem Pst.frz {RR : AS → Hp → Dn → β → α → Prop} {Q : β → Hp → Prop} {k : PD → M α} (E : ER X.K F A1 H1 σ ρ1) (S : Step A H σ ρ A1 H1 ρ1) (R : RvR F H A1 H1 σ ρ1 v r) (h : Pst X.K X.mg W F A H σ ρ RR Q (bnd (DP.frz r) k ρ1)) :
    ∃ d A2 ρ2, ER X.K F A2 H1 σ ρ2 ∧ Step A H σ ρ A2 H1 ρ2 ∧ Rp A2 H1 v d ∧ Pst X.K X.mg W F A H σ ρ RR Q (k d ρ2) := by
  unfold bnd at h
  rcases frz_ok (r := r) (ρ := ρ1) rfl with e | ⟨d, ρ2, e⟩
  · rw [e] at h; exact h.elim
  · rw [e] at h
    obtain ⟨A2, E2, S2, R2, _⟩ := frz_run E S R.q e
    exact ⟨d, A2, ρ2, E2, S2, R2, h⟩
theorem Pst.frzs {RR : AS → Hp → Dn → β → α → Prop} {Q : β → Hp → Prop} {k : List PD → M α} (E : ER X.K F A1 H1 σ ρ1) (S : Step A H σ ρ A1 H1 ρ1) (R : RvRs F H A1 H1 σ ρ1 vs rs) (h : Pst X.K X.mg W F A H σ ρ RR Q (bnd (DP.frzs rs) k ρ1)) :
    ∃ ds A2 ρ2, ER X.K F A2 H1 σ ρ2 ∧ Step A H σ ρ A2 H1 ρ2 ∧ RpAll A2 H1 vs ds ∧ Pst X.K X.mg W F A H σ ρ RR Q (k ds ρ2) := by
  unfold bnd at h
  rcases frzs_ok (rs := rs) (ρ := ρ1) with e | ⟨d, ρ2, e⟩
  · rw [e] at h; exact h.elim
  · rw [e] at h
    obtain ⟨A2, E2, S2, R2, _⟩ := frzs_run E S R.q e
    exact ⟨d, A2, ρ2, E2, S2, R2, h⟩
theorem RpAll.length {A : AS} {H : Hp} : ∀ {vs : List V} {ds : List PD}, RpAll A H vs ds → vs.length = ds.length
  | _, _, .nil => rfl
  | _, _, .cons _ h => by simp [RpAll.length h]
theorem RpAll.get {A : AS} {H : Hp} : ∀ {vs : List V} {ds : List PD} {i : Nat} {d : PD}, RpAll A H vs ds → ds[i]? = some d → ∃ v, vs[i]? = some v ∧ Rp A H v d
  | _, _, _, _, .nil, e => by simp at e
  | _, _, 0, _, .cons r _, e => by simp at e; subst e; exact ⟨_, rfl, r⟩
  | _, _, i + 1, _, .cons _ h, e => by
    obtain ⟨v, e1, r⟩ := RpAll.get (i := i) h (by simpa using e)
    exact ⟨v, by simpa using e1, r⟩
theorem RpAll.append {A : AS} {H : Hp} : ∀ {vs ws : List V} {ds es : List PD}, RpAll A H vs ds → RpAll A H ws es → RpAll A H (vs ++ ws) (ds ++ es)
  | _, _, _, _, .nil, h => h
  | _, _, _, _, .cons r h, h' => .cons r (RpAll.append h h')
theorem RpAll.snoc {A : AS} {H : Hp} {vs : List V} {ds : List PD} {v : V} {d : PD} (h : RpAll A H vs ds) (r : Rp A H v d) : RpAll A H (vs ++ [v]) (ds ++ [d]) := h.append (.cons r .nil)
/-! displays -/
def smallL (n : Nat) : Bool := decide (n ≤ 10000000)
theorem smallL_le {n : Nat} (h : smallL n = true) : n ≤ sizeLine := Nat.le_trans (of_decide_eq_true h) (by decide)
theorem smallL_lt {n : Nat} (h : smallL n = true) : n < sizeLine := Nat.lt_of_le_of_lt (of_decide_eq_true h) (by decide)
def chk (b : Bool) : M Unit := fun ρ => if b = true then .ok () ρ else .no
theorem Pst.chk {RR : AS → Hp → Dn → β → α → Prop} {Q : β → Hp → Prop} {b : Bool} {k : Unit → M α} (h : Pst X.K X.mg W F A H σ ρ RR Q (bnd (DP.chk b) k ρ1)) : b = true ∧ Pst X.K X.mg W F A H σ ρ RR Q (k () ρ1) := by
  unfold bnd DP.chk at h
  cases b with
  | false => exact h.elim
  | true => exact ⟨rfl, h⟩
def eTup (a : M (List Rv)) : M Rv := bnd a fun rs => bnd (frzs rs) fun ds => bnd (chk (smallL ds.length)) fun _ => retM (.val (.tuple ds))
def eLst (a : M (List Rv)) : M Rv := bnd a fun rs => bnd (frzs rs) fun ds => bnd (chk (smallL ds.length)) fun _ => retM (.fresh (.list ds))
variable {es : List Expr} {fs : M (List Rv)} {pos : Pos}
theorem sim_tup {x1} (ha : SimA X W es fs) : SimE X W (.Tuple es x1 pos) (eTup fs) := by
  obtain ⟨ta, pa, ha⟩ := ha
  refine ⟨_, pe_tup pa, fun F A H σ ρ E Q h => ?_⟩
  refine ha F A H σ ρ E _ (h.split fun rs ρ1 A1 H1 vs E1 S1 R1 h1 => ?_)
  obtain ⟨ds, A2, ρ2, E2, S2, R2, h2⟩ := h1.frzs E1 S1 R1
  obtain ⟨hz, h3⟩ := h2.chk
  refine ⟨by rw [R2.length]; exact smallL_le hz, fun p hp => ?_⟩
  have ext : ∀ b o, H1 b = some o → upd H1 p (.tup vs) b = some o := fun b o e => by rw [upd_ne (ne_of_none e hp)]; exact e
  exact h3 A2 _ _ (E2.ext ext) (S2.trans (Step.ext ext)) (.tup upd_same (R2.kp (Kp.ext ext)))
theorem sim_lst (ha : SimA X W es fs) : SimE X W (.List es pos) (eLst fs) := by
  obtain ⟨ta, pa, ha⟩ := ha
  refine ⟨_, pe_lst pa, fun F A H σ ρ E Q h => ?_⟩
  refine ha F A H σ ρ E _ (h.split fun rs ρ1 A1 H1 vs E1 S1 R1 h1 => ?_)
  obtain ⟨ds, A2, ρ2, E2, S2, R2, h2⟩ := h1.frzs E1 S1 R1
  obtain ⟨hz, h3⟩ := h2.chk
  refine ⟨by rw [R2.length]; exact smallL_le hz, fun p hp => ?_⟩
  have ext : ∀ b o, H1 b = some o → upd H1 p (.lst vs) b = some o := fun b o e => by rw [upd_ne (ne_of_none e hp)]; exact e
  exact h3 A2 _ _ (E2.ext ext) (S2.trans (Step.ext ext)) ⟨p, rfl, ⟨E2.free hp, E2.owne hp, E2.fnone hp, S2.live p hp⟩, vs, upd_same, R2.kp (Kp.ext ext)⟩
end
end DP
/-! DPE: tests, choices, targets, statements, loops, comprehensions. -/
namespace DP
open PySem L2
def noM {α : Type} : M α := fun _ => .no
def tBool (f : M Rv) : M Bool := bnd f fun r => bnd (rdM r) fun d =>
  match d with
  | .bool b => retM b
  | _ => noM
section
variable {A : AS} {H : Hp} {v : V} {b : Bool} {i : Int} {x : Str} {ds : List PD} {kvs : List (PD × PD)}
theorem Rt.bool (h : Rt A H v (.bool b)) : v = .bl b := by
  rcases h with h | ⟨p, _, h⟩
  · cases h; rfl
  · exact h.elim
theorem Rt.int (h : Rt A H v (.int i)) : v = .int i := by
  rcases h with h | ⟨p, _, h⟩
  · cases h; rfl
  · exact h.elim
theorem Rt.str (h : Rt A H v (.str x)) : v = .str x := by
  rcases h with h | ⟨p, _, h⟩
  · cases h; rfl
  · exact h.elim
theorem Rt.none (h : Rt A H v .none) : v = .non := by
  rcases h with h | ⟨p, _, h⟩
  · cases h; rfl
  · exact h.elim
theorem Rt.list (h : Rt A H v (.list ds)) : ∃ p xs, v = .ref p ∧ H p = some (.lst xs) ∧ RpAll A H xs ds := by
  rcases h with h | ⟨p, rfl, xs, e, r⟩
  · cases h with
    | lst a e r => exact ⟨_, _, rfl, e, r⟩
  · exact ⟨p, xs, rfl, e, r⟩
theorem Rt.tup (h : Rt A H v (.tuple ds)) : ∃ p xs, v = .ref p ∧ H p = some (.tup xs) ∧ RpAll A H xs ds := by
  rcases h with h | ⟨p, _, h⟩
  · cases h with
    | tup e r => exact ⟨_, _, rfl, e, r⟩
  · exact h.elim
theorem Rt.dic (h : Rt A H v (.dict kvs)) : ∃ p xs, v = .ref p ∧ H p = some (.dK xs) ∧ RpKV A H xs kvs := by
  rcases h with h | ⟨p, rfl, xs, e, r⟩
  · cases h with
    | dic a e r => exact ⟨_, _, rfl, e, r⟩
  · exact ⟨p, xs, rfl, e, r⟩
end
section
variable {X : Cx} {W : WX} {F : Ent} {A A1 : AS} {H H1 : Hp} {σ : L2.St} {ρ ρ1 : Dn} {v : V} {α β : Type} {a b c e : Expr} {fa fb fc : M Rv} {ga gb gc : M Bool} {pos : Pos}
theorem Pst.imp {K : PySem.W.Frag} {mg : Str → Option Value} {RR RR' : AS → Hp → Dn → β → α → Prop} {Q : β → Hp → Prop} {r : Rs α} (h : Pst K mg W F A H σ ρ RR Q r) (i : ∀ A' H' ρ' b a, RR' A' H' ρ' b a → RR A' H' ρ' b a) : Pst K mg W F A H σ ρ RR' Q r := by
  cases r with
  | ok a ρ' => exact fun A' H' b E S R => h A' H' b E S (i _ _ _ _ _ R)
  | ex e ρ' => exact h
  | no => exact h
theorem Pst.weak {K : PySem.W.Frag} {mg : Str → Option Value} {Z Z' : Hp} {Q : VK} {r : Rs Rv} (h : Pst K mg W F A H σ ρ (RE F Z σ) Q r) (l : ∀ b, Z' b = none → Z b = none) : Pst K mg W F A H σ ρ (RE F Z' σ) Q r :=
  h.imp fun A' H' ρ' b a R => RvR.back l R
theorem tBool_run {t : TE} (ha : ∀ F A H σ ρ, ER X.K F A H σ ρ → ∀ Q : VK, Pst X.K X.mg W F A H σ ρ (RE F H σ) Q (fa ρ) → t σ H Q) :
    ∀ F A H σ ρ, ER X.K F A H σ ρ → ∀ Q : Bool → Hp → Prop, Pst X.K X.mg W F A H σ ρ RT Q (tBool fa ρ) → t σ H (fun x H' => ∃ k, x = .bl k ∧ Q k H') := by
  intro F A H σ ρ E Q h
  refine ha F A H σ ρ E _ (h.split fun r ρ1 A1 H1 v1 E1 S1 R1 h1 => ?_)
  obtain ⟨d, e1, h2⟩ := h1.rd
  cases d with
  | bool k =>
    have := Rt.bool (RvR.rt E1 R1 e1)
    exact ⟨k, this, h2 A1 H1 k E1 S1 rfl⟩
  | none => exact h2.elim
  | int i => exact h2.elim
  | str i => exact h2.elim
  | list i => exact h2.elim
  | tuple i => exact h2.elim
  | dict i => exact h2.elim
theorem sim_tval (ha : SimE X W e fa) (he : ∀ whole, isTrue e X.env whole = (do let v ← whole; standAt e.pos; holding [v] (truthy v)) := by intro _; rfl) : SimT X W e (tBool fa) := by
  obtain ⟨t, pa, ha⟩ := ha
  exact ⟨_, pt_val pa he, tBool_run ha⟩
theorem sim_tcmp {op : CmpOp} {r : R2} {g : PD → PD → Option Rc} (ho : OpR X (compareOp op) r) (hg : Op2 r g) (ha : SimE X W a fa) (hb : SimE X W b fb) (hm : behindInMarks op b = false) : SimT X W (.Compare a [op] [b] pos) (tBool (eOp2 g fa fb)) := by
  obtain ⟨ta, pa, ha⟩ := ha
  obtain ⟨tb, pb, hb⟩ := hb
  exact ⟨_, pt_cmpR ho pa pb hm, tBool_run (op2_run hg ha hb)⟩
/-- a op b op' c -/
def eChain (g g' : PD → PD → Option Rc) (a b c : M Rv) : M Rv := bnd a fun x => bnd b fun y => bnd (rdM x) fun d1 => bnd (rdM y) fun d2 => bnd (fin (g d1 d2)) fun z => bnd (rdM z) fun dz =>
  match dz with
  | .bool true => bnd c fun w => bnd (rdM y) fun d2' => bnd (rdM w) fun d3 => fin (g' d2' d3)
  | .bool false => retM (.val (.bool false))
  | _ => noM
theorem chain_run {r r' : R2} {g g' : PD → PD → Option Rc} {ta tb tc : TE} (hg : Op2 r g) (hg' : Op2 r' g') (ha : ∀ F A H σ ρ, ER X.K F A H σ ρ → ∀ Q : VK, Pst X.K X.mg W F A H σ ρ (RE F H σ) Q (fa ρ) → ta σ H Q) (hb : ∀ F A H σ ρ, ER X.K F A H σ ρ → ∀ Q : VK, Pst X.K X.mg W F A H σ ρ (RE F H σ) Q (fb ρ) → tb σ H Q)
    (hc : ∀ F A H σ ρ, ER X.K F A H σ ρ → ∀ Q : VK, Pst X.K X.mg W F A H σ ρ (RE F H σ) Q (fc ρ) → tc σ H Q) :
    ∀ F A H σ ρ, ER X.K F A H σ ρ → ∀ Q : VK, Pst X.K X.mg W F A H σ ρ (RE F H σ) Q (eChain g g' fa fb fc ρ) → tChain r r' ta tb tc σ H Q := by
  intro F A H σ ρ E Q h
  refine ha F A H σ ρ E _ (h.split fun x ρ1 A1 H1 v1 E1 S1 R1 h1 => ?_)
  refine hb F A1 H1 σ ρ1 E1 _ ((h1.after S1).split fun y ρ2 A2 H2 v2 E2 S2 R2 h2 => ?_)
  obtain ⟨d1, e1, h3⟩ := h2.rd
  obtain ⟨d2, e2, h4⟩ := h3.rd
  have R1' : RvR F H A2 H2 σ ρ2 v1 x := RvR.step E1 S2 R1
  cases ec : g d1 d2 with
  | none => unfold bnd fin at h4; rw [ec] at h4; exact h4.elim
  | some cc =>
    refine hg.run A2 H2 v1 v2 d1 d2 cc _ E2.dom (R1'.rt E2 e1) (RvR.rt E2 R2 e2) ec fun z H3 nz => ?_
    obtain ⟨E3, S3, R3⟩ := nz.rv (S1.trans S2).live E2
    unfold bnd fin at h4
    rw [ec] at h4
    have h5 := Pst.rd (k := fun dz => match dz with
      | .bool true => bnd fc fun w => bnd (rdM y) fun d2' => bnd (rdM w) fun d3 => DP.fin (g' d2' d3)
      | .bool false => retM (.val (.bool false))
      | _ => noM) (show Pst X.K X.mg W F A1 H1 σ ρ1 (RE F H σ) Q (bnd (rdM cc.rv) _ ρ2) from h4)
    obtain ⟨dz, e5, h6⟩ := h5
    have hz := R3.rt E3 e5
    cases dz with
    | bool k =>
      refine ⟨k, hz.bool, ?_⟩
      cases k with
      | false => exact h6 A2 H3 (.bl false) E3 (S2.trans S3) (.bl false)
      | true =>
        refine hc F A2 H3 σ ρ2 E3 _ ((h6.after (S2.trans S3)).split fun w ρ4 A4 H4 v4 E4 S4 R4 h7 => ?_)
        obtain ⟨d2', e6, h8⟩ := h7.rd
        obtain ⟨d3, e7, h9⟩ := h8.rd
        obtain ⟨c4, e8, h10⟩ := h9.fin' S4 E4 (S1.trans (S2.trans S3))
        have R2' : RvR F H1 A4 H4 σ ρ4 v2 y := RvR.step E2 (S3.trans S4) R2
        exact hg'.run A4 H4 v2 v4 d2' d3 c4 Q E4.dom (R2'.rt E4 e6) (RvR.rt E4 R4 e7) e8 h10
    | none => exact h6.elim
    | int i => exact h6.elim
    | str i => exact h6.elim
    | list i => exact h6.elim
    | tuple i => exact h6.elim
    | dict i => exact h6.elim
theorem sim_chain {op op' : CmpOp} {r r' : R2} {g g' : PD → PD → Option Rc} (ho : OpR X (compareOp op) r) (ho' : OpR X (compareOp op') r') (hg : Op2 r g) (hg' : Op2 r' g') (ha : SimE X W a fa) (hb : SimE X W b fb) (hc : SimE X W c fc)
    (hm : lastMarks [op, op'] [b, c] = false := by with_unfolding_all rfl) : SimE X W (.Compare a [op, op'] [b, c] pos) (eChain g g' fa fb fc) := by
  obtain ⟨ta, pa, ha⟩ := ha
  obtain ⟨tb, pb, hb⟩ := hb
  obtain ⟨tc, pc, hc⟩ := hc
  exact ⟨_, pe_chain ho ho' pa pb pc hm, chain_run hg hg' ha hb hc⟩
theorem sim_tchain {op op' : CmpOp} {r r' : R2} {g g' : PD → PD → Option Rc} (ho : OpR X (compareOp op) r) (ho' : OpR X (compareOp op') r') (hg : Op2 r g) (hg' : Op2 r' g') (ha : SimE X W a fa) (hb : SimE X W b fb) (hc : SimE X W c fc)
    (hm : lastMarks [op, op'] [b, c] = false := by with_unfolding_all rfl) : SimT X W (.Compare a [op, op'] [b, c] pos) (tBool (eChain g g' fa fb fc)) := by
  obtain ⟨ta, pa, ha⟩ := ha
  obtain ⟨tb, pb, hb⟩ := hb
  obtain ⟨tc, pc, hc⟩ := hc
  exact ⟨_, pt_chain ho ho' pa pb pc hm, tBool_run (chain_run hg hg' ha hb hc)⟩
/-! and, or, not -/
def tAndM (a b : M Bool) : M Bool := bnd a fun k => if k = true then b else retM false
def tOrM (a b : M Bool) : M Bool := bnd a fun k => if k = true then retM true else b
def tNotM (a : M Bool) : M Bool := bnd a fun k => retM (!k)
theorem sim_tnot (ha : SimT X W a ga) : SimT X W (.UnaryOp .Not a pos) (tNotM ga) := by
  obtain ⟨ta, pa, ha⟩ := ha
  refine ⟨_, pt_not pa, fun F A H σ ρ E Q h => ?_⟩
  refine ha F A H σ ρ E _ (h.split (RR1 := RT) fun k ρ1 A1 H1 k' E1 S1 R1 h1 => ?_)
  cases R1
  exact h1 A1 H1 _ E1 S1 rfl
theorem sim_wand1 (ha : SimT X W a ga) : SimW X W (.BoolOp .And [a] pos) ga := by
  obtain ⟨ta, pa, ha⟩ := ha
  exact ⟨_, pw_and1 pa, ha⟩
theorem sim_wor1 (ha : SimT X W a ga) : SimW X W (.BoolOp .Or [a] pos) ga := by
  obtain ⟨ta, pa, ha⟩ := ha
  exact ⟨_, pw_or1 pa, ha⟩
theorem sim_wand {rest : List Expr} (ha : SimT X W a ga) (hb : SimW X W (.BoolOp .And (b :: rest) pos) gb) : SimW X W (.BoolOp .And (a :: b :: rest) pos) (tAndM ga gb) := by
  obtain ⟨ta, pa, ha⟩ := ha
  obtain ⟨tb, pb, hb⟩ := hb
  refine ⟨_, pw_and pa pb, fun F A H σ ρ E Q h => ?_⟩
  refine ha F A H σ ρ E _ (h.split (RR1 := RT) fun k ρ1 A1 H1 k' E1 S1 R1 h1 => ?_)
  cases R1
  cases k with
  | true => exact hb F A1 H1 σ ρ1 E1 Q (h1.after S1)
  | false => exact h1 A1 H1 _ E1 S1 rfl
theorem sim_wor {rest : List Expr} (ha : SimT X W a ga) (hb : SimW X W (.BoolOp .Or (b :: rest) pos) gb) : SimW X W (.BoolOp .Or (a :: b :: rest) pos) (tOrM ga gb) := by
  obtain ⟨ta, pa, ha⟩ := ha
  obtain ⟨tb, pb, hb⟩ := hb
  refine ⟨_, pw_or pa pb, fun F A H σ ρ E Q h => ?_⟩
  refine ha F A H σ ρ E _ (h.split (RR1 := RT) fun k ρ1 A1 H1 k' E1 S1 R1 h1 => ?_)
  cases R1
  cases k with
  | false => exact hb F A1 H1 σ ρ1 E1 Q (h1.after S1)
  | true => exact h1 A1 H1 _ E1 S1 rfl
theorem SimW.t (h : SimW X W e ga) : SimT X W e ga := by
  obtain ⟨t, p, h⟩ := h
  exact ⟨t, p.pt, h⟩
/-- .. as values: the first a truth -/
def eAndV (a b : M Rv) : M Rv := bnd a fun x => bnd (rdM x) fun d =>
  match d with
  | .bool true => b
  | .bool false => retM (.val (.bool false))
  | _ => noM
def eOrV (a b : M Rv) : M Rv := bnd a fun x => bnd (rdM x) fun d =>
  match d with
  | .bool false => b
  | .bool true => retM (.val (.bool true))
  | _ => noM
def eNotV (a : M Rv) : M Rv := bnd a fun x => bnd (rdM x) fun d =>
  match d with
  | .bool k => retM (.val (.bool (!k)))
  | _ => noM
theorem sim_vone {op} (ha : SimE X W a fa) : SimE X W (.BoolOp op [a] pos) fa := by
  obtain ⟨ta, pa, ha⟩ := ha
  exact ⟨_, pe_one pa, ha⟩
theorem sim_vand {rest : List Expr} (ha : SimE X W a fa) (hb : SimE X W (.BoolOp .And (b :: rest) pos) fb) : SimE X W (.BoolOp .And (a :: b :: rest) pos) (eAndV fa fb) := by
  obtain ⟨ta, pa, ha⟩ := ha
  obtain ⟨tb, pb, hb⟩ := hb
  refine ⟨_, pe_and pa pb, fun F A H σ ρ E Q h => ?_⟩
  refine ha F A H σ ρ E _ (h.split fun x ρ1 A1 H1 v1 E1 S1 R1 h1 => ?_)
  obtain ⟨d, e1, h2⟩ := h1.rd
  have hz := RvR.rt E1 R1 e1
  cases d with
  | bool k =>
    refine ⟨k, hz.bool, ?_⟩
    cases k with
    | true => exact hb F A1 H1 σ ρ1 E1 Q ((h2.after S1).weak S1.live)
    | false => exact h2 A1 H1 _ E1 S1 (.bl false)
  | none => exact h2.elim
  | int i => exact h2.elim
  | str i => exact h2.elim
  | list i => exact h2.elim
  | tuple i => exact h2.elim
  | dict i => exact h2.elim
theorem sim_vor {rest : List Expr} (ha : SimE X W a fa) (hb : SimE X W (.BoolOp .Or (b :: rest) pos) fb) : SimE X W (.BoolOp .Or (a :: b :: rest) pos) (eOrV fa fb) := by
  obtain ⟨ta, pa, ha⟩ := ha
  obtain ⟨tb, pb, hb⟩ := hb
  refine ⟨_, pe_or pa pb, fun F A H σ ρ E Q h => ?_⟩
  refine ha F A H σ ρ E _ (h.split fun x ρ1 A1 H1 v1 E1 S1 R1 h1 => ?_)
  obtain ⟨d, e1, h2⟩ := h1.rd
  have hz := RvR.rt E1 R1 e1
  cases d with
  | bool k =>
    refine ⟨k, hz.bool, ?_⟩
    cases k with
    | false => exact hb F A1 H1 σ ρ1 E1 Q ((h2.after S1).weak S1.live)
    | true => exact h2 A1 H1 _ E1 S1 (.bl true)
  | none => exact h2.elim
  | int i => exact h2.elim
  | str i => exact h2.elim
  | list i => exact h2.elim
  | tuple i => exact h2.elim
  | dict i => exact h2.elim
theorem sim_vnot (ha : SimE X W a fa) : SimE X W (.UnaryOp .Not a pos) (eNotV fa) := by
  obtain ⟨ta, pa, ha⟩ := ha
  refine ⟨_, pe_not pa, fun F A H σ ρ E Q h => ?_⟩
  refine ha F A H σ ρ E _ (h.split fun x ρ1 A1 H1 v1 E1 S1 R1 h1 => ?_)
  obtain ⟨d, e1, h2⟩ := h1.rd
  have hz := RvR.rt E1 R1 e1
  cases d with
  | bool k => exact ⟨k, hz.bool, h2 A1 H1 _ E1 S1 (.bl _)⟩
  | none => exact h2.elim
  | int i => exact h2.elim
  | str i => exact h2.elim
  | list i => exact h2.elim
  | tuple i => exact h2.elim
  | dict i => exact h2.elim
def eIf (c : M Bool) (a b : M Rv) : M Rv := bnd c fun k => if k = true then a else b
theorem sim_ifx (hc : SimT X W c gc) (ha : SimE X W a fa) (hb : SimE X W b fb) : SimE X W (.IfExp c a b pos) (eIf gc fa fb) := by
  obtain ⟨tc, pc, hc⟩ := hc
  obtain ⟨ta, pa, ha⟩ := ha
  obtain ⟨tb, pb, hb⟩ := hb
  refine ⟨_, pe_ifExp pc pa pb, fun F A H σ ρ E Q h => ?_⟩
  refine hc F A H σ ρ E _ (h.split (RR1 := RT) fun k ρ1 A1 H1 k' E1 S1 R1 h1 => ?_)
  cases R1
  cases k with
  | true => exact ha F A1 H1 σ ρ1 E1 Q ((h1.after S1).weak S1.live)
  | false => exact hb F A1 H1 σ ρ1 E1 Q ((h1.after S1).weak S1.live)
/-- is None -/
def isNone : PD → Bool
  | .none => true
  | _ => false
theorem Rt.isN {A : AS} {H : Hp} {v : V} {d : PD} (h : Rt A H v d) : decide (v = .non) = isNone d := by
  rcases h with h | ⟨p, rfl, h⟩
  · cases h <;> rfl
  · cases d <;> first | rfl | exact h.elim
def eIsN (a : M Rv) : M Rv := bnd a fun x => bnd (rdM x) fun d => retM (.val (.bool (isNone d)))
def eNotN (a : M Rv) : M Rv := bnd a fun x => bnd (rdM x) fun d => retM (.val (.bool (!isNone d)))
theorem sim_isN {j pos'} (ha : SimE X W a fa) : SimE X W (.Compare a [.Is] [.Constant .none j pos'] pos) (eIsN fa) := by
  obtain ⟨ta, pa, ha⟩ := ha
  refine ⟨_, pe_cmp (pc_isN pa) rfl, fun F A H σ ρ E Q h => ?_⟩
  refine ha F A H σ ρ E _ (h.split fun x ρ1 A1 H1 v1 E1 S1 R1 h1 => ?_)
  obtain ⟨d, e1, h2⟩ := h1.rd
  have hz := (RvR.rt E1 R1 e1).isN
  rw [hz]
  exact h2 A1 H1 _ E1 S1 (.bl _)
theorem sim_notN {j pos'} (ha : SimE X W a fa) : SimE X W (.Compare a [.IsNot] [.Constant .none j pos'] pos) (eNotN fa) := by
  obtain ⟨ta, pa, ha⟩ := ha
  refine ⟨_, pe_cmp (pc_notN pa) rfl, fun F A H σ ρ E Q h => ?_⟩
  refine ha F A H σ ρ E _ (h.split fun x ρ1 A1 H1 v1 E1 S1 R1 h1 => ?_)
  obtain ⟨d, e1, h2⟩ := h1.rd
  have hz := (RvR.rt E1 R1 e1).isN
  rw [hz]
  exact h2 A1 H1 _ E1 S1 (.bl _)
theorem sim_tcmpV {op : CmpOp} (ha : SimE X W (.Compare a [op] [b] pos) fa) (hp : ∀ t, PE X (.Compare a [op] [b] pos) t → ∃ u, PC X op a b u ∧ u = t) (h1 : behindInMarks op b = false) : SimT X W (.Compare a [op] [b] pos) (tBool fa) := by
  obtain ⟨ta, pa, ha⟩ := ha
  obtain ⟨u, pu, rfl⟩ := hp ta pa
  exact ⟨_, pt_cmp pu h1, tBool_run ha⟩
theorem sim_tisN {j pos'} (ha : SimE X W a fa) : SimT X W (.Compare a [.Is] [.Constant .none j pos'] pos) (tBool (eIsN fa)) := by
  obtain ⟨ta, pa, ha⟩ := ha
  refine ⟨_, pt_cmp (pc_isN pa) rfl, tBool_run fun F A H σ ρ E Q h => ?_⟩
  refine ha F A H σ ρ E _ (h.split fun x ρ1 A1 H1 v1 E1 S1 R1 h1 => ?_)
  obtain ⟨d, e1, h2⟩ := h1.rd
  have hz := (RvR.rt E1 R1 e1).isN
  rw [hz]
  exact h2 A1 H1 _ E1 S1 (.bl _)
theorem sim_tnotN {j pos'} (ha : SimE X W a fa) : SimT X W (.Compare a [.IsNot] [.Constant .none j pos'] pos) (tBool (eNotN fa)) := by
  obtain ⟨ta, pa, ha⟩ := ha
  refine ⟨_, pt_cmp (pc_notN pa) rfl, tBool_run fun F A H σ ρ E Q h => ?_⟩
  refine ha F A H σ ρ E _ (h.split fun x ρ1 A1 H1 v1 E1 S1 R1 h1 => ?_)
  obtain ⟨d, e1, h2⟩ := h1.rd
  have hz := (RvR.rt E1 R1 e1).isN
  rw [hz]
  exact h2 A1 H1 _ E1 S1 (.bl _)
/-! ### targets -/
def SimG (X : Cx) (tg : Expr) (g : PD → Dn → Option Dn) (is : List Nat) : Prop := ∃ t : TG, PG X tg t ∧ ∀ F A H σ ρ v d ρ' (Q : L2.St → Hp → Prop), ER X.K F A H σ ρ → Rp A H v d → g d ρ = some ρ' →
  (∀ σ', ER X.K F A H σ' ρ' → (∀ j, j ∉ is → σ'[j]? = σ[j]? ∧ ρ'[j]? = ρ[j]?) → (∀ j, j ∈ is → ∃ d, ρ'[j]? = some (some (.imm d))) → σ'.length = σ.length → Q σ' H) → t v σ H Q
def gNm (i : Nat) : PD → Dn → Option Dn := fun d ρ => if freeSl ρ i = true then some (ρ.set i (some (.imm d))) else none
theorem sim_gname {i : Nat} {x : Str} (hN : X.N.Nodup) (hi : X.N[i]? = some x) (hx : Loc X.env.scope x) (hf : X.fn x = true ∨ X.env.scope.names.lookup x = some .local := by first | exact .inl rfl | exact .inr rfl | assumption) : SimG X (.Name x pos) (gNm i) [i] := by
  refine ⟨_, pg_name hN hi hx hf, fun F A H σ ρ v d ρ' Q E R hg k => ?_⟩
  unfold gNm at hg
  split at hg
  · rename_i h
    cases hg
    exact k _ (E.setImm h R) (fun j hj => ⟨List.getElem?_set_ne (fun e => hj (by simp [e])), List.getElem?_set_ne (fun e => hj (by simp [e]))⟩) (fun j hj => by
      have e : j = i := by simpa using hj
      subst e
      exact ⟨d, get_set_self (freeSl_lt h)⟩) (by simp)
  · cases hg
def SimGs (X : Cx) (tgs : List Expr) (g : List PD → Dn → Option Dn) (is : List Nat) : Prop := ∃ t : TGs, PGs X tgs t ∧ ∀ F A H σ ρ vs ds ρ' (Q : L2.St → Hp → Prop), ER X.K F A H σ ρ → RpAll A H vs ds → g ds ρ = some ρ' →
  (∀ σ', ER X.K F A H σ' ρ' → (∀ j, j ∉ is → σ'[j]? = σ[j]? ∧ ρ'[j]? = ρ[j]?) → (∀ j, j ∈ is → ∃ d, ρ'[j]? = some (some (.imm d))) → σ'.length = σ.length → Q σ' H) → t vs σ H Q
def gsNil : List PD → Dn → Option Dn := fun ds ρ =>
  match ds with
  | [] => some ρ
  | _ => none
def gsCons (g : PD → Dn → Option Dn) (gs : List PD → Dn → Option Dn) : List PD → Dn → Option Dn := fun ds ρ =>
  match ds with
  | d :: ds => match g d ρ with
    | some ρ1 => gs ds ρ1
    | none => none
  | [] => none
theorem sim_gsnil : SimGs X [] gsNil [] := by
  refine ⟨_, pgs_nil, fun F A H σ ρ vs ds ρ' Q E R hg k => ?_⟩
  cases R with
  | nil => cases hg; exact ⟨rfl, k σ E (fun _ _ => ⟨rfl, rfl⟩) (fun _ h => nomatch h) rfl⟩
  | cons _ _ => cases hg
theorem sim_gscons {t : Expr} {ts : List Expr} {g : PD → Dn → Option Dn} {gs : List PD → Dn → Option Dn} {is js : List Nat} (h1 : SimG X t g is) (h2 : SimGs X ts gs js) (hs : (assignEach (t :: ts) X.env).map (·.2) = assign t X.env :: (assignEach ts X.env).map (·.2) := by rfl) : SimGs X (t :: ts) (gsCons g gs) (is ++ js) := by
  obtain ⟨tt, pt, h1⟩ := h1
  obtain ⟨tts, pts, h2⟩ := h2
  refine ⟨_, pgs_cons pt pts hs, fun F A H σ ρ vs ds ρ' Q E R hg k => ?_⟩
  cases R with
  | nil => cases hg
  | @cons v vs d ds r rs =>
    simp only [gsCons] at hg
    cases e1 : g d ρ with
    | none => rw [e1] at hg; cases hg
    | some ρ1 =>
      rw [e1] at hg
      refine ⟨v, vs, rfl, h1 F A H σ ρ v d ρ1 _ E r e1 fun σ1 E1 n1 m1 l1 => ?_⟩
      exact h2 F A H σ1 ρ1 vs ds ρ' Q E1 rs hg fun σ2 E2 n2 m2 l2 => k σ2 E2 (fun j hj => by
        simp only [List.mem_append, not_or] at hj
        rw [(n2 j hj.2).1, (n1 j hj.1).1, (n2 j hj.2).2, (n1 j hj.1).2]
        exact ⟨rfl, rfl⟩) (fun j hj => by
        by_cases hjs : j ∈ js
        · exact m2 j hjs
        · rw [(n2 j hjs).2]
          exact m1 j ((List.mem_append.mp hj).resolve_right hjs)) (l2.trans l1)
def gTupM (gs : List PD → Dn → Option Dn) : PD → Dn → Option Dn := fun d ρ =>
  match d with
  | .tuple ds => gs ds ρ
  | _ => none
theorem sim_gtup {es : List Expr} {k : Nat} {gs : List PD → Dn → Option Dn} {is : List Nat} (hc : X.calm = true) (h : SimGs X es gs is) {n : Nat} (hl : ∀ ds ρ ρ', gs ds ρ = some ρ' → ds.length = n) (hn : (assignEach es X.env).length = n := by rfl) (hst : (assignEach es X.env).findIdx? (·.1) = none := by rfl) :
    SimG X (.Tuple es k pos) (gTupM gs) is := by
  obtain ⟨t, p, h⟩ := h
  refine ⟨_, pg_tup hc p hn hst, fun F A H σ ρ v d ρ' Q E R hg k => ?_⟩
  cases R with
  | tup e r => exact ⟨_, _, rfl, SqT.of e, by rw [r.length]; exact hl _ _ _ hg, h F A H σ ρ _ _ ρ' Q E r hg k⟩
  | _ => cases hg
end
end DP
/-! DPS: statements, loops, comprehensions. -/
namespace DP
open PySem L2
inductive Ou where
  | nx (ρ : Dn)
  | rt (r : Rv) (ρ : Dn)
  | bk (ρ : Dn)
  | ct (ρ : Dn)
  | ex (e : Exn) (ρ : Dn)
  | no
abbrev SM := Dn → Ou
def bndS {α : Type} (m : M α) (k : α → SM) : SM := fun ρ =>
  match m ρ with
  | .ok a ρ' => k a ρ'
  | .ex e ρ' => .ex e ρ'
  | .no => .no
def PstS (K : PySem.W.Frag) (mg : Str → Option Value) (W : WX) (F : Ent) (A : AS) (H : Hp) (D : Ends) : Ou → Prop
  | .nx ρ' => ∀ A' H' σ', ER K F A' H' σ' ρ' → Kp A A' H H' → D.nx σ' H'
  | .rt r ρ' => ∀ A' H' σ' v, ER K F A' H' σ' ρ' → Kp A A' H H' → RvR F F.H A' H' σ' ρ' v r → D.rt v H'
  | .bk ρ' => ∀ A' H' σ', ER K F A' H' σ' ρ' → Kp A A' H H' → D.bk σ' H'
  | .ct ρ' => ∀ A' H' σ', ER K F A' H' σ' ρ' → Kp A A' H H' → D.ct σ' H'
  | .ex e ρ' => ∀ A' H' σ' cls d, ER K F A' H' σ' ρ' → Kp A A' H H' → XR mg A' H' e cls d → W cls d σ' H'
  | .no => False
section
variable {K : PySem.W.Frag} {mg : Str → Option Value} {W : WX} {F : Ent} {A : AS} {H : Hp} {σ : L2.St} {ρ : Dn} {D : Ends} {α β : Type}
theorem Kp.refl : Kp A A H H := ⟨fun _ h => h, fun _ _ _ e => e, fun _ _ e => e⟩
theorem Kp.trans {A1 A2 : AS} {H1 H2 : Hp} (k : Kp A A1 H H1) (l : Kp A1 A2 H1 H2) : Kp A A2 H H2 := ⟨fun a h => l.sub a (k.sub a h), fun a o h e => l.obj a o (k.sub a h) (k.obj a o h e), fun a xs e => l.tup a xs (k.tup a xs e)⟩
theorem PstS.after {A1 : AS} {H1 : Hp} {o : Ou} (k : Kp A A1 H H1) (h : PstS K mg W F A H D o) : PstS K mg W F A1 H1 D o := by
  cases o with
  | nx ρ' => exact fun A' H' σ' E l => h A' H' σ' E (k.trans l)
  | rt r ρ' => exact fun A' H' σ' v E l R => h A' H' σ' v E (k.trans l) R
  | bk ρ' => exact fun A' H' σ' E l => h A' H' σ' E (k.trans l)
  | ct ρ' => exact fun A' H' σ' E l => h A' H' σ' E (k.trans l)
  | ex e ρ' => exact fun A' H' σ' c d E l R => h A' H' σ' c d E (k.trans l) R
  | no => exact h
theorem PstS.split {RR : AS → Hp → Dn → β → α → Prop} {Q1 : β → Hp → Prop} {m : M α} {k : α → SM} (E : ER K F A H σ ρ) (h : PstS K mg W F A H D (bndS m k ρ))
    (hk : ∀ a ρ1 A1 H1 b, ER K F A1 H1 σ ρ1 → Step A H σ ρ A1 H1 ρ1 → RR A1 H1 ρ1 b a → PstS K mg W F A H D (k a ρ1) → Q1 b H1) : Pst K mg W F A H σ ρ RR Q1 (m ρ) := by
  unfold bndS at h
  cases e : m ρ with
  | ok a ρ1 =>
    rw [e] at h
    exact fun A1 H1 b E S R => hk a ρ1 A1 H1 b E S R h
  | ex x ρ1 =>
    rw [e] at h
    exact fun A1 H1 cls d E1 S1 X => h A1 H1 σ cls d E1 (S1.kpr E) X
  | no => rw [e] at h; exact h
theorem PstS.rd {r : Rv} {k : PD → SM} (h : PstS K mg W F A H D (bndS (rdM r) k ρ)) : ∃ d, rd r ρ = some d ∧ PstS K mg W F A H D (k d ρ) := by
  unfold bndS rdM at h
  cases e : DP.rd r ρ with
  | none => rw [e] at h; exact h.elim
  | some d => rw [e] at h; exact ⟨d, rfl, h⟩
theorem PstS.frz {A0 : AS} {H0 : Hp} {ρ0 : Dn} {r : Rv} {v : V} {k : PD → SM} (E : ER K F A H σ ρ) (S : Step A0 H0 σ ρ0 A H ρ) (R : RvR F H0 A H σ ρ v r) (h : PstS K mg W F A0 H0 D (bndS (DP.frz r) k ρ)) :
    ∃ d A2 ρ2, ER K F A2 H σ ρ2 ∧ Step A0 H0 σ ρ0 A2 H ρ2 ∧ Rp A2 H v d ∧ PstS K mg W F A0 H0 D (k d ρ2) := by
  unfold bndS at h
  rcases frz_ok (r := r) (ρ := ρ) rfl with e | ⟨d, ρ2, e⟩
  · rw [e] at h; exact h.elim
  · rw [e] at h
    obtain ⟨A2, E2, S2, R2, _⟩ := frz_run E S R.q e
    exact ⟨d, A2, ρ2, E2, S2, R2, h⟩
theorem PstS.chk {b : Bool} {k : Unit → SM} (h : PstS K mg W F A H D (bndS (DP.chk b) k ρ)) : b = true ∧ PstS K mg W F A H D (k () ρ) := by
  unfold bndS DP.chk at h
  cases b with
  | false => exact h.elim
  | true => exact ⟨rfl, h⟩
end
def SimS (X : Cx) (W : WX) (st : Stmt) (s : SM) : Prop := ∃ t : TS, PS X st t ∧ ∀ F A H σ ρ D, ER X.K F A H σ ρ → PstS X.K X.mg W F A H D (s ρ) → t D σ H
def SimB (X : Cx) (W : WX) (st : List Stmt) (s : SM) : Prop := ∃ t : TS, PSs X st t ∧ ∀ F A H σ ρ D, ER X.K F A H σ ρ → PstS X.K X.mg W F A H D (s ρ) → t D σ H
def sNil : SM := fun ρ => .nx ρ
def sSeq (a b : SM) : SM := fun ρ =>
  match a ρ with
  | .nx ρ' => b ρ'
  | o => o
section
variable {X : Cx} {W : WX} {st : Stmt} {rest : List Stmt} {a b : SM} {e : Expr} {fe : M Rv} {gc : M Bool} {pos : Pos}
theorem sim_nil : SimB X W [] sNil := ⟨_, pss_nil, fun F A H σ ρ D E h => h A H σ E Kp.refl⟩
theorem sim_one (h : SimS X W st a) : SimB X W [st] a := by
  obtain ⟨t, p, h⟩ := h
  exact ⟨_, pss_one p, h⟩
theorem sim_seq (h1 : SimS X W st a) (h2 : SimB X W rest b) : SimB X W (st :: rest) (sSeq a b) := by
  obtain ⟨t, p, h1⟩ := h1
  obtain ⟨u, q, h2⟩ := h2
  refine ⟨_, pss_cons p q, fun F A H σ ρ D E h => h1 F A H σ ρ _ E ?_⟩
  unfold sSeq at h
  cases e1 : a ρ with
  | nx ρ' => rw [e1] at h; exact fun A' H' σ' E' k => h2 F A' H' σ' ρ' D E' (h.after k)
  | rt r ρ' => rw [e1] at h; exact h
  | bk ρ' => rw [e1] at h; exact h
  | ct ρ' => rw [e1] at h; exact h
  | ex x ρ' => rw [e1] at h; exact h
  | no => rw [e1] at h; exact h
def sPass : SM := fun ρ => .nx ρ
def sBreak : SM := fun ρ => .bk ρ
def sCont : SM := fun ρ => .ct ρ
theorem sim_pass : SimS X W (.Pass pos) sPass := ⟨_, ps_pass, fun F A H σ ρ D E h => h A H σ E Kp.refl⟩
theorem sim_break : SimS X W (.Break pos) sBreak := ⟨_, ps_break, fun F A H σ ρ D E h => h A H σ E Kp.refl⟩
theorem sim_cont : SimS X W (.Continue pos) sCont := ⟨_, ps_continue, fun F A H σ ρ D E h => h A H σ E Kp.refl⟩
def sRet (f : M Rv) : SM := bndS f fun r ρ => .rt r ρ
theorem ER.lives {K : PySem.W.Frag} {F : Ent} {A : AS} {H : Hp} {σ : L2.St} {ρ : Dn} (E : ER K F A H σ ρ) : ∀ b, H b = none → F.H b = none := fun b e => E.fnone e
theorem sim_ret (h : SimE X W e fe) : SimS X W (.Return (some e) pos) (sRet fe) := by
  obtain ⟨t, p, h⟩ := h
  refine ⟨_, ps_ret p, fun F A H σ ρ D E hs => ?_⟩
  refine h F A H σ ρ E D.rt (PstS.split E hs fun r ρ1 A1 H1 v E1 S1 R1 h1 => ?_)
  exact h1 A1 H1 σ v E1 (S1.kpr E) (RvR.back E.lives R1)
def sRetN : SM := fun ρ => .rt (.val .none) ρ
theorem sim_retN : SimS X W (.Return none pos) sRetN := ⟨_, ps_retN, fun F A H σ ρ D E h => h A H σ .non E Kp.refl .non⟩
def sExpr (f : M Rv) : SM := bndS f fun _ ρ => .nx ρ
theorem sim_expr (h : SimE X W e fe) (hs : swapsWith e none pos.line X.env = pure false := by rfl) : SimS X W (.Expr e pos) (sExpr fe) := by
  obtain ⟨t, p, h⟩ := h
  refine ⟨_, ps_expr p hs, fun F A H σ ρ D E hs => ?_⟩
  exact h F A H σ ρ E _ (PstS.split E hs fun r ρ1 A1 H1 v E1 S1 R1 h1 => h1 A1 H1 σ E1 (S1.kpr E))
def sIf (c : M Bool) (a b : SM) : SM := bndS c fun k => if k = true then a else b
theorem sim_if {c : Expr} {sa sb : List Stmt} (hc : SimT X W c gc) (ha : SimB X W sa a) (hb : SimB X W sb b) : SimS X W (.If c sa sb pos) (sIf gc a b) := by
  obtain ⟨tc, pc, hc⟩ := hc
  obtain ⟨ta, pa, ha⟩ := ha
  obtain ⟨tb, pb, hb⟩ := hb
  refine ⟨_, ps_if pc pa pb, fun F A H σ ρ D E h => ?_⟩
  refine hc F A H σ ρ E _ (PstS.split (RR := RT) E h fun k ρ1 A1 H1 k' E1 S1 R1 h1 => ?_)
  cases R1
  cases k with
  | true => exact ha F A1 H1 σ ρ1 D E1 (h1.after (S1.kpr E))
  | false => exact hb F A1 H1 σ ρ1 D E1 (h1.after (S1.kpr E))
/-- a store of a value on the way to a slot -/
def putR (i : Nat) (r : Rv) : SM := fun ρ =>
  if freeSl ρ i = true then
    match r with
    | .val d => .nx (ρ.set i (some (.imm d)))
    | .fresh d => .nx (ρ.set i (some (.own false d)))
    | .slot j => match ρ[j]? with
      | some (some (.imm d)) => .nx (ρ.set i (some (.imm d)))
      | some (some (.own false d)) => .nx ((ρ.set j (some (.imm d))).set i (some (.imm d)))
      | _ => .no
  else .no
theorem putR_run {K : PySem.W.Frag} {mg : Str → Option Value} {F : Ent} {Z : Hp} {A : AS} {H : Hp} {σ : L2.St} {ρ : Dn} {v : V} {r : Rv} {i : Nat} {D : Ends} {A0 : AS} {H0 : Hp} (k : Kp A0 A H0 H) (E : ER K F A H σ ρ) (R : RvR F Z A H σ ρ v r) (h : PstS K mg W F A0 H0 D (putR i r ρ)) : D.nx (σ.set i (some v)) H := by
  unfold putR at h
  split at h
  · rename_i hf
    cases r with
    | val d => exact h A H _ (E.setImm hf R) k
    | fresh d =>
      obtain ⟨p, rfl, ⟨h1, h2, h3, _⟩, h4⟩ := R
      exact h A H _ (E.setOwn hf h1 h2 h3 h4) k
    | slot j =>
      obtain ⟨e1, s, e2⟩ := R
      simp only [e2] at h
      obtain ⟨v', e3, r⟩ := E.slot j s e2
      rw [e1] at e3
      cases e3
      cases s with
      | imm d => exact h A H _ (E.setImm hf r) k
      | own b d =>
        cases b with
        | true => exact h.elim
        | false =>
          obtain ⟨p, rfl, _⟩ := r
          obtain ⟨E2, S2, R2⟩ := E.freezeSlot e2 e1
          refine h (plus A p) H _ (E2.setImm ?_ R2) (k.trans Kp.plus)
          unfold freeSl at hf ⊢
          by_cases hj : j = i
          · subst hj
            rw [get_set_self (by exact (List.getElem?_eq_some_iff.mp e2).1)]
          · rw [get_set_ne hj]
            exact hf
      | scr ns => exact h.elim
  · exact h.elim
def sSet (i : Nat) (f : M Rv) : SM := bndS f fun r => putR i r
theorem sim_set {i : Nat} {x : Str} {pos' : Pos} (hN : X.N.Nodup) (hi : X.N[i]? = some x) (hx : Loc X.env.scope x) (h : SimE X W e fe) (hs : swapsWith e (some (.Name x pos')) pos.line X.env = pure false := by rfl) (hf : X.fn x = true ∨ X.env.scope.names.lookup x = some .local := by first | exact .inl rfl | exact .inr rfl | assumption) :
    SimS X W (.Assign [.Name x pos'] e pos) (sSet i fe) := by
  obtain ⟨t, p, h⟩ := h
  refine ⟨_, ps_set hN hi hx p hs hf, fun F A H σ ρ D E h1 => ?_⟩
  exact h F A H σ ρ E _ (PstS.split E h1 fun r ρ1 A1 H1 v E1 S1 R1 h2 => putR_run (S1.kpr E) E1 R1 h2)
/-- a target of another form -/
def sAsg (f : M Rv) (g : PD → Dn → Option Dn) : SM := bndS f fun r => bndS (frz r) fun d ρ =>
  match g d ρ with
  | some ρ' => .nx ρ'
  | none => .no
theorem sim_asg {tg : Expr} {g : PD → Dn → Option Dn} {is : List Nat} (he : SimE X W e fe) (hg : SimG X tg g is) (hs : swapsWithSole [tg] e pos.line X.env = pure false := by rfl) (hw : swappedStores [tg] e X.env = pure none := by rfl)
    (h1 : (assignEach [tg] X.env).map (·.2) = [assign tg X.env] := by rfl) : SimS X W (.Assign [tg] e pos) (sAsg fe g) := by
  obtain ⟨t, p, h⟩ := he
  obtain ⟨u, q, hg⟩ := hg
  refine ⟨_, ps_asg p q hs hw h1, fun F A H σ ρ D E h1 => ?_⟩
  refine h F A H σ ρ E _ (PstS.split E h1 fun r ρ1 A1 H1 v E1 S1 R1 h2 => ?_)
  obtain ⟨d, A2, ρ2, E2, S2, R2, h3⟩ := h2.frz E1 S1 R1
  cases eg : g d ρ2 with
  | none => rw [eg] at h3; exact h3.elim
  | some ρ3 =>
    rw [eg] at h3
    exact hg F A2 H1 σ ρ2 v d ρ3 _ E2 R2 eg fun σ' E' _ _ _ => h3 A2 H1 σ' E' (S2.kpr E)
/-! loops -/
def ItR (A : AS) (H : Hp) (J : It) (ds : List PD) : Prop := ∀ A' H', Kp A A' H H' → (∀ a, A' a → H' a ≠ none) → J.stop ds.length H' ∧ ∀ i d, ds[i]? = some d → J.go i H' ∧ ∀ x H'', J.yld i H' x H'' → (∀ b o, H' b = some o → H'' b = some o) ∧ Rp A' H'' x d
def SimI (X : Cx) (W : WX) (tg iter : Expr) (it : M (List PD)) : Prop := ∃ w : TI, PI X tg iter w ∧ ∀ F A H σ ρ, ER X.K F A H σ ρ → ∀ R : It → Hp → Prop, Pst X.K X.mg W F A H σ ρ (fun A' H' _ J ds => ItR A' H' J ds) R (it ρ) → w σ H R
def forL (g : PD → Dn → Option Dn) (body : SM) : List PD → SM
  | [] => fun ρ => .nx ρ
  | d :: ds => fun ρ =>
    match g d ρ with
    | none => .no
    | some ρ1 => match body ρ1 with
      | .nx ρ2 => forL g body ds ρ2
      | .ct ρ2 => forL g body ds ρ2
      | .bk ρ2 => .nx ρ2
      | .rt r ρ2 => .rt r ρ2
      | .ex x ρ2 => .ex x ρ2
      | .no => .no
def sFor (it : M (List PD)) (g : PD → Dn → Option Dn) (body : SM) : SM := bndS it fun ds => forL g body ds
end
end DP
/-! DPT: loops, iterators, comprehensions, stores into things. -/
namespace DP
open PySem L2
section
variable {X : Cx} {W : WX} {e tg iter : Expr} {body : List Stmt} {fe : M Rv} {gc : M Bool} {b : SM} {it : M (List PD)} {g : PD → Dn → Option Dn} {is : List Nat} {pos : Pos}
theorem ItR.kp {A A' : AS} {H H' : Hp} {J : It} {ds : List PD} (k : Kp A A' H H') (h : ItR A H J ds) : ItR A' H' J ds := fun A2 H2 k2 d => h A2 H2 (k.trans k2) d
theorem sim_for (hp : PassesOwn (model X.prog X.w) X.A X.env X.xe) (hc : X.calm = true) (hi : SimI X W tg iter it) (hg : SimG X tg g is) (hb : SimB X W body b) (hs : ∀ x, foldedSetIterable iter X.env x = pure x := by intro _; rfl) : SimS X W (.For tg iter body [] pos) (sFor it g b) := by
  obtain ⟨w, pi, hi⟩ := hi
  obtain ⟨tg', pg, hg⟩ := hg
  obtain ⟨tb, pb, hb⟩ := hb
  refine ⟨_, ps_for hp hc pi pg pb hs, fun F A H σ ρ D E h => ?_⟩
  refine hi F A H σ ρ E _ (PstS.split (RR := fun A' H' _ J ds => ItR A' H' J ds) E h fun ds ρ1 A1 H1 J E1 S1 I1 h1 => ?_)
  refine ⟨fun i m σ' H' => m = ds.length - i ∧ i ≤ ds.length ∧ ∃ A' ρ', ER X.K F A' H' σ' ρ' ∧ Kp A1 A' H1 H' ∧ PstS X.K X.mg W F A' H' D (forL g b (ds.drop i) ρ'), ⟨ds.length, by simp, Nat.zero_le _, A1, ρ1, E1, Kp.refl, by simpa using h1.after (S1.kpr E)⟩, ?_⟩
  rintro i m σ2 H2 ⟨rfl, hi2, A2, ρ2, E2, k2, h2⟩
  obtain ⟨hstop, hgo⟩ := (I1.kp k2) A2 H2 Kp.refl E2.dom
  by_cases hlt : i < ds.length
  · have hd : ds[i]? = some ds[i] := by simp [hlt]
    obtain ⟨go, yld⟩ := hgo i _ hd
    have hdrop : ds.drop i = ds[i] :: ds.drop (i + 1) := List.drop_eq_getElem_cons hlt
    rw [hdrop] at h2
    simp only [forL] at h2
    refine .inr ⟨go, fun σ' H' => ∃ A' ρ', ER X.K F A' H' σ' ρ' ∧ Kp A1 A' H1 H' ∧ PstS X.K X.mg W F A' H' D (forL g b (ds.drop (i + 1)) ρ'), fun σ' H' ⟨A', ρ', x, y, z⟩ => ⟨ds.length - (i + 1), by omega, rfl, hlt, A', ρ', x, y, z⟩, fun x H3 y3 => ?_⟩
    obtain ⟨k3, r3⟩ := yld x H3 y3
    have E3 := E2.ext k3
    cases eg : g ds[i] ρ2 with
    | none => rw [eg] at h2; exact h2.elim
    | some ρ3 =>
      rw [eg] at h2
      dsimp only at h2
      refine hg F A2 H3 σ2 ρ2 x ds[i] ρ3 _ E3 r3 eg fun σ3 E4 _ _ _ => ?_
      have kk : Kp A2 A2 H2 H3 := Kp.ext k3
      have h4 := PstS.after kk h2
      refine hb F A2 H3 σ3 ρ3 _ E4 ?_
      cases eb : b ρ3 with
      | nx ρ4 =>
        rw [eb] at h4
        exact fun A' H' σ' E' l => ⟨A', ρ4, E', (k2.trans kk).trans l, PstS.after l h4⟩
      | ct ρ4 =>
        rw [eb] at h4
        exact fun A' H' σ' E' l => ⟨A', ρ4, E', (k2.trans kk).trans l, PstS.after l h4⟩
      | bk ρ4 => rw [eb] at h4; exact h4
      | rt r ρ4 => rw [eb] at h4; exact h4
      | ex x ρ4 => rw [eb] at h4; exact h4
      | no => rw [eb] at h4; exact h4
  · have e : i = ds.length := by omega
    subst e
    refine .inl ⟨hstop, ?_⟩
    rw [List.drop_length] at h2
    exact h2 A2 H2 σ2 E2 Kp.refl
/-! while -/
def whL (c : M Bool) (body : SM) : Nat → SM
  | 0 => fun _ => .no
  | n + 1 => fun ρ =>
    match c ρ with
    | .no => .no
    | .ex e ρ1 => .ex e ρ1
    | .ok false ρ1 => .nx ρ1
    | .ok true ρ1 => match body ρ1 with
      | .nx ρ2 => whL c body n ρ2
      | .ct ρ2 => whL c body n ρ2
      | .bk ρ2 => .nx ρ2
      | .rt r ρ2 => .rt r ρ2
      | .ex x ρ2 => .ex x ρ2
      | .no => .no
theorem sim_while (n : Nat) {c : Expr} (hp : PassesOwn (model X.prog X.w) X.A X.env X.xe) (hc : SimT X W c gc) (hb : SimB X W body b) : SimS X W (.While c body [] pos) (whL gc b n) := by
  obtain ⟨tc, pc, hc⟩ := hc
  obtain ⟨tb, pb, hb⟩ := hb
  refine ⟨_, ps_while hp pc pb, fun F A H σ ρ D E h => ?_⟩
  refine ⟨fun m σ' H' => ∃ A' ρ', ER X.K F A' H' σ' ρ' ∧ PstS X.K X.mg W F A' H' D (whL gc b m ρ'), ⟨n, A, ρ, E, h⟩, ?_⟩
  rintro m σ1 H1 ⟨A1, ρ1, E1, h1⟩
  cases m with
  | zero => exact h1.elim
  | succ m =>
    simp only [whL] at h1
    refine hc F A1 H1 σ1 ρ1 E1 _ ?_
    cases ec : gc ρ1 with
    | no => rw [ec] at h1; exact h1.elim
    | ex x ρ2 =>
      rw [ec] at h1
      exact fun A' H' cls d E' S' R' => h1 A' H' σ1 cls d E' (S'.kpr E1) R'
    | ok k ρ2 =>
      rw [ec] at h1
      intro A2 H2 k' E2 S2 R2
      cases R2
      have h2 := PstS.after (S2.kpr E1) h1
      cases k with
      | false => exact h2 A2 H2 σ1 E2 Kp.refl
      | true =>
        refine ⟨fun σ' H' => ∃ A' ρ', ER X.K F A' H' σ' ρ' ∧ PstS X.K X.mg W F A' H' D (whL gc b m ρ'), fun σ' H' z => ⟨m, Nat.lt_succ_self m, z⟩, ?_⟩
        refine hb F A2 H2 σ1 ρ2 _ E2 ?_
        simp only at h2
        cases eb : b ρ2 with
        | nx ρ4 =>
          rw [eb] at h2
          exact fun A' H' σ' E' l => ⟨A', ρ4, E', PstS.after l h2⟩
        | ct ρ4 =>
          rw [eb] at h2
          exact fun A' H' σ' E' l => ⟨A', ρ4, E', PstS.after l h2⟩
        | bk ρ4 => rw [eb] at h2; exact h2
        | rt r ρ4 => rw [eb] at h2; exact h2
        | ex x ρ4 => rw [eb] at h2; exact h2
        | no => rw [eb] at h2; exact h2
end
/-! ### what is walked -/
section
variable {X : Cx} {W : WX} {e tg : Expr} {fe : M Rv} {pos : Pos}
theorem It_list {K : PySem.W.Frag} {A : AS} {H : Hp} {a : Addr} {xs : List V} {ds : List PD} (ha : A a) (h : H a = some (.lst xs)) (r : RpAll A H xs ds) : ItR A H (Itl K a) ds := by
  intro A' H' k d
  have h' : Rd H' a (.lst xs) := .inl (k.obj _ _ ha h)
  have r' := r.kp k
  refine ⟨⟨xs, .inl h', by rw [r.length]; exact Nat.le_refl _⟩, fun i d hd => ?_⟩
  obtain ⟨x, e, rx⟩ : ∃ x, xs[i]? = some x ∧ Rp A' H' x d := RpAll.get r' hd
  exact ⟨⟨xs, x, .inl h', e⟩, fun y H'' ⟨e2, y2⟩ => by
    subst e2
    have := y2 xs (.inl h')
    rw [e] at this
    cases this
    exact ⟨fun _ _ z => z, rx⟩⟩
theorem It_tup {K : PySem.W.Frag} {A : AS} {H : Hp} {a : Addr} {xs : List V} {ds : List PD} (h : H a = some (.tup xs)) (r : RpAll A H xs ds) : ItR A H (Itt K a) ds := by
  intro A' H' k d
  have h' := k.tup _ _ h
  have r' := r.kp k
  refine ⟨⟨xs, SqT.of h', by rw [r.length]; exact Nat.le_refl _⟩, fun i d hd => ?_⟩
  obtain ⟨x, e, rx⟩ : ∃ x, xs[i]? = some x ∧ Rp A' H' x d := RpAll.get r' hd
  exact ⟨⟨xs, x, SqT.of h', e⟩, fun y H'' ⟨e2, y2⟩ => by
    subst e2
    have := y2 xs (SqT.of h')
    rw [e] at this
    cases this
    exact ⟨fun _ _ z => z, rx⟩⟩
theorem It_rng {A : AS} {H : Hp} (lo : Int) (n : Nat) : ItR A H (Itr lo n) (List.map (fun (i : Nat) => PyData.int (lo + (i : Int))) (List.range n)) := by
  intro A' H' k d
  refine ⟨by show n ≤ _; simp, fun i d hd => ?_⟩
  rw [List.getElem?_map] at hd
  cases e : (List.range n)[i]? with
  | none => rw [e] at hd; cases hd
  | some j =>
    rw [e] at hd
    cases hd
    obtain ⟨h1, h2⟩ := List.getElem?_eq_some_iff.mp e
    have h3 : i < n := by simpa using h1
    have h4 : i = j := by simpa using h2
    subst h4
    exact ⟨h3, fun y H'' ⟨e1, e2⟩ => by subst e1 e2; exact ⟨fun _ _ z => z, .int _⟩⟩
/-- a list or a tuple, walked -/
def iSeq (K : PySem.W.Frag) (te : TE) : TI := fun σ H R => te σ H fun x H1 => ∃ a, x = .ref a ∧ (((∃ xs, SqL K H1 a xs) ∧ R (Itl K a) H1) ∨ ((∃ xs, SqT K H1 a xs) ∧ R (Itt K a) H1))
theorem pi_seq {l : Expr} {tl : TE} (hl : PE X l tl) : PI X tg l (iSeq X.K tl) := by
  refine ⟨fun pins s σ H R I h => ?_⟩
  refine thn (hl.run pins s σ H _ I h) fun v s1 ⟨x, H1, I1, r1, q1⟩ => ?_
  obtain ⟨a, e, q⟩ := q1
  subst e
  cases r1
  rcases q with ⟨⟨xs, hq⟩, q⟩ | ⟨⟨xs, hq⟩, q⟩
  · obtain ⟨its, rv, p, hz⟩ := I1.list hq
    refine wpAny_pyIter_list p.isList ?_
    refine ⟨s1.heap.objs.size, [s1.heap.objs.size], _, _, H1, rfl, I1.kept (t' := s1.toks) fun b o e => Heap.get?_push_of_some _ e, turn_list a _, ⟨_, Heap.get?_push_size _ rfl, rfl, rfl⟩, fun b hb => ?_, q⟩
    have e : b = s1.heap.objs.size := by simpa using hb
    subst e
    exact I1.fpOk (Nat.le_refl _) (I1.hok.fresh (Nat.le_refl _))
  · obtain ⟨its, rv, p, hz⟩ := I1.tuple hq
    refine wpAny_pyIter_tuple (show s1.heap.IsTuple a its.toArray from p) ?_
    refine ⟨s1.heap.objs.size, [s1.heap.objs.size], _, _, H1, rfl, I1.kept (t' := s1.toks) fun b o e => Heap.get?_push_of_some _ e, turn_tuple a _, ⟨_, Heap.get?_push_size _ rfl, rfl, rfl⟩, fun b hb => ?_, q⟩
    have e : b = s1.heap.objs.size := by simpa using hb
    subst e
    exact I1.fpOk (Nat.le_refl _) (I1.hok.fresh (Nat.le_refl _))
/-- the items of a list or a tuple -/
def itemsOf : PD → M (List PD)
  | .list ds => retM ds
  | .tuple ds => retM ds
  | _ => noM
def iSeqM (f : M Rv) : M (List PD) := bnd f fun r => bnd (frz r) itemsOf
theorem sim_iseq (h : SimE X W e fe) : SimI X W tg e (iSeqM fe) := by
  obtain ⟨t, p, h⟩ := h
  refine ⟨_, pi_seq p, fun F A H σ ρ E R hp => ?_⟩
  refine h F A H σ ρ E _ (hp.split fun r ρ1 A1 H1 v E1 S1 R1 h1 => ?_)
  obtain ⟨d, A2, ρ2, E2, S2, R2, h2⟩ := h1.frz E1 S1 R1
  cases R2 with
  | lst ha hr r => exact ⟨_, rfl, .inl ⟨⟨_, SqL.of hr⟩, h2 A2 H1 _ E2 S2 (It_list ha hr r)⟩⟩
  | tup ht r => exact ⟨_, rfl, .inr ⟨⟨_, SqT.of ht⟩, h2 A2 H1 _ E2 S2 (It_tup ht r)⟩⟩
  | non => exact h2.elim
  | bl b => exact h2.elim
  | int b => exact h2.elim
  | str b => exact h2.elim
  | dic _ _ _ => exact h2.elim
def rngL (lo : Int) (n : Nat) : List PD := List.map (fun (i : Nat) => PyData.int (lo + (i : Int))) (List.range n)
def in62 (i : Int) : Bool := decide (-(2 ^ 62) ≤ i ∧ i < 2 ^ 62)
def rng1 : List PD → M (List PD)
  | [.int j] => bnd (chk (in62 j)) fun _ => retM (rngL 0 j.toNat)
  | _ => noM
def rng2 : List PD → M (List PD)
  | [.int i, .int j] => bnd (chk (in62 i && in62 j)) fun _ => retM (rngL i (j - i).toNat)
  | _ => noM
def iRng1M (f : M (List Rv)) : M (List PD) := bnd f fun rs => bnd (rdsM rs) rng1
def iRng2M (f : M (List Rv)) : M (List PD) := bnd f fun rs => bnd (rdsM rs) rng2
theorem Rts.one {A : AS} {H : Hp} {vs : List V} {d : PD} (h : Rts A H vs [d]) : ∃ v, vs = [v] ∧ Rt A H v d := by
  cases h with
  | cons r h => cases h; exact ⟨_, rfl, r⟩
theorem Rts.two {A : AS} {H : Hp} {vs : List V} {d d' : PD} (h : Rts A H vs [d, d']) : ∃ v w, vs = [v, w] ∧ Rt A H v d ∧ Rt A H w d' := by
  cases h with
  | cons r h =>
    obtain ⟨w, rfl, q⟩ := h.one
    exact ⟨_, w, rfl, r, q⟩
theorem sim_irng1 {a : Expr} {fs : M (List Rv)} {p pos : Pos} (hg : Gl X "range") (hm : X.mg "range" = none) (ha : SimA X W [a] fs) (hs : starEach [a] X.env = [(false, eval a X.env)] := by rfl) : SimI X W tg (.Call (.Name "range" p) [a] [] pos) (iRng1M fs) := by
  obtain ⟨t, pa, h⟩ := ha
  refine ⟨_, pi_range1 hg hm pa hs, fun F A H σ ρ E R hp => ?_⟩
  refine h F A H σ ρ E _ (hp.split fun r ρ1 A1 H1 vs E1 S1 R1 h1 => ?_)
  obtain ⟨ds, e1, h2⟩ := h1.rds
  have hr := RvRs.rts E1 R1 e1
  match ds, h2, hr with
  | [.int j], h2, hr =>
    obtain ⟨v, rfl, r⟩ := hr.one
    obtain ⟨hb, h3⟩ := Pst.chk h2
    have hb' := of_decide_eq_true hb
    refine ⟨j, by rw [r.int], hb'.1, hb'.2, h3 A1 H1 _ E1 S1 (It_rng 0 _)⟩
theorem sim_irng2 {a b : Expr} {fs : M (List Rv)} {p pos : Pos} (hg : Gl X "range") (hm : X.mg "range" = none) (ha : SimA X W [a, b] fs) (hs : starEach [a, b] X.env = [(false, eval a X.env), (false, eval b X.env)] := by rfl) (hs2 : starEach [b] X.env = [(false, eval b X.env)] := by rfl) : SimI X W tg (.Call (.Name "range" p) [a, b] [] pos) (iRng2M fs) := by
  obtain ⟨t, pa, h⟩ := ha
  refine ⟨_, pi_range2 hg hm pa hs hs2, fun F A H σ ρ E R hp => ?_⟩
  refine h F A H σ ρ E _ (hp.split fun r ρ1 A1 H1 vs E1 S1 R1 h1 => ?_)
  obtain ⟨ds, e1, h2⟩ := h1.rds
  have hr := RvRs.rts E1 R1 e1
  match ds, h2, hr with
  | [.int i, .int j], h2, hr =>
    obtain ⟨v, w, rfl, r, q⟩ := hr.two
    obtain ⟨hb, h3⟩ := Pst.chk h2
    have hb' := (Bool.and_eq_true_iff.mp hb)
    have h5 := of_decide_eq_true hb'.1
    have h6 := of_decide_eq_true hb'.2
    exact ⟨i, j, by rw [r.int, q.int], ⟨h5.1, h5.2, h6.1, h6.2⟩, h3 A1 H1 _ E1 S1 (It_rng i _)⟩
end
end DP
/-! DPU: list comprehensions. -/
namespace DP
open PySem L2
/-- as Step, where the slots may change too; what stood in the slots vs is left aside -/
structure StepV (vs : List Nat) (A : AS) (H : Hp) (σ : L2.St) (ρ : Dn) (A' : AS) (H' : Hp) (σ' : L2.St) (ρ' : Dn) : Prop where
  kp : ∀ b o, H b = some o → ¬ Ow σ ρ b → H' b = some o
  mono : ∀ a, A a → A' a
  grow : ∀ a, A' a → A a ∨ H a = none ∨ Ow σ ρ a
  sub : ∀ p, Ow σ' ρ' p → Ow σ ρ p
  def_ : ∀ (i : Nat) (s : Sl), i ∉ vs → ρ[i]? = some (some s) → ∃ s', ρ'[i]? = some (some s')
  live : ∀ b, H' b = none → H b = none
  len : ρ'.length = ρ.length
section
variable {vs : List Nat} {K : PySem.W.Frag} {F : Ent} {A A' A'' : AS} {H H' H'' : Hp} {σ σ' σ'' : L2.St} {ρ ρ' ρ'' : Dn}
theorem Step.v (s : Step A H σ ρ A' H' ρ') : StepV vs A H σ ρ A' H' σ ρ' := ⟨s.kp, s.mono, s.grow, s.sub, fun i sl _ h => s.def_ i sl h, s.live, s.len⟩
theorem StepV.trans (s : StepV vs A H σ ρ A' H' σ' ρ') (t : StepV vs A' H' σ' ρ' A'' H'' σ'' ρ'') : StepV vs A H σ ρ A'' H'' σ'' ρ'' := by
  refine ⟨fun b o h n => t.kp b o (s.kp b o h n) fun z => n (s.sub b z), fun a h => t.mono a (s.mono a h), fun a h => ?_, fun p h => s.sub p (t.sub p h), fun i sl hi h => ?_, fun b h => s.live b (t.live b h), t.len.trans s.len⟩
  · rcases t.grow a h with h1 | h1 | h1
    · exact s.grow a h1
    · exact .inr (.inl (s.live a h1))
    · exact .inr (.inr (s.sub a h1))
  · obtain ⟨s', h'⟩ := s.def_ i sl hi h
    exact t.def_ i s' hi h'
theorem StepV.kpr (s : StepV vs A H σ ρ A' H' σ' ρ') (E : ER K F A H σ ρ) : Kp A A' H H' :=
  ⟨s.mono, fun a o ha e => s.kp a o e (E.notOw ha), fun a xs e => s.kp a _ e fun z => by
    have := (E.ow z).2
    rw [e] at this
    exact this⟩
def wipeD (ρ : Dn) : List Nat → Dn
  | [] => ρ
  | v :: vs => (wipeD ρ vs).set v none
theorem wipeD_len (ρ : Dn) : ∀ vs : List Nat, (wipeD ρ vs).length = ρ.length
  | [] => rfl
  | v :: vs => by unfold wipeD; rw [List.length_set, wipeD_len ρ vs]
theorem wipeD_out {i : Nat} : ∀ {vs : List Nat}, i ∉ vs → (wipeD ρ vs)[i]? = ρ[i]?
  | [], _ => rfl
  | v :: vs, h => by
    simp only [List.mem_cons, not_or] at h
    unfold wipeD
    rw [List.getElem?_set_ne (fun e => h.1 e.symm), wipeD_out h.2]
theorem wipeD_in {i : Nat} {s : Sl} : ∀ {vs : List Nat}, i ∈ vs → (wipeD ρ vs)[i]? ≠ some (some s)
  | v :: vs, h => by
    unfold wipeD
    by_cases e : v = i
    · subst e
      by_cases hl : v < (wipeD ρ vs).length
      · rw [List.getElem?_set_self hl]; intro z; cases z
      · rw [List.getElem?_eq_none (by simpa using hl)]; intro z; cases z
    · rw [List.getElem?_set_ne e]
      rcases List.mem_cons.mp h with h | h
      · exact absurd h.symm e
      · exact wipeD_in h
theorem wipe_out {i : Nat} : ∀ {vs : List Nat}, i ∉ vs → (wipe σ vs)[i]? = σ[i]?
  | [], _ => rfl
  | v :: vs, h => by
    simp only [List.mem_cons, not_or] at h
    unfold wipe
    rw [List.getElem?_set_ne (fun e => h.1 e.symm), wipe_out h.2]
theorem ER.wipe (E : ER K F A H σ ρ) (hq : ∀ q ∈ F.ins, q.1 ∉ vs) : ER K F A H (wipe σ vs) (wipeD ρ vs) := by
  have key : ∀ {i : Nat} {s : Sl}, (wipeD ρ vs)[i]? = some (some s) → i ∉ vs ∧ ρ[i]? = some (some s) := fun {i s} e => by
    by_cases hi : i ∈ vs
    · exact absurd e (wipeD_in hi)
    · exact ⟨hi, by rw [← wipeD_out hi]; exact e⟩
  refine ⟨by rw [wipe_length, wipeD_len, E.len], fun i s e => ?_, fun i j b b' d d' p e1 e2 e3 e4 => ?_, E.dom, E.kp, E.mono, E.grow, fun i b d p e1 e2 => ?_, E.FS, fun q h => ?_⟩
  · obtain ⟨hi, e1⟩ := key e
    obtain ⟨v, e2, r⟩ := E.slot i s e1
    exact ⟨v, by rw [wipe_out hi]; exact e2, r⟩
  · obtain ⟨hi, f1⟩ := key e1
    obtain ⟨hj, f2⟩ := key e2
    rw [wipe_out hi] at e3
    rw [wipe_out hj] at e4
    exact E.dist i j b b' d d' p f1 f2 e3 e4
  · obtain ⟨hi, f1⟩ := key e1
    rw [wipe_out hi] at e2
    exact E.ownF i b d p f1 e2
  · obtain ⟨e1, d, e2⟩ := E.ins q h
    exact ⟨by rw [wipe_out (hq q h)]; exact e1, d, by rw [wipeD_out (hq q h)]; exact e2⟩
theorem wipe_ow {p : Addr} (h : Ow (wipe σ vs) (wipeD ρ vs) p) : Ow σ ρ p := by
  obtain ⟨i, b, d, e1, e2⟩ := h
  by_cases hi : i ∈ vs
  · exact absurd e1 (wipeD_in hi)
  · exact ⟨i, b, d, by rw [← wipeD_out hi]; exact e1, by rw [← wipe_out hi]; exact e2⟩
theorem StepV.wipe : StepV vs A H σ ρ A H (wipe σ vs) (wipeD ρ vs) :=
  ⟨fun _ _ e _ => e, fun _ h => h, fun _ h => .inl h, fun p h => wipe_ow h, fun i s hi e => ⟨s, by rw [wipeD_out hi]; exact e⟩, fun _ e => e, wipeD_len ρ vs⟩
theorem wipe_eq (h : ∀ j, j ∉ vs → σ'[j]? = σ[j]?) (hl : σ'.length = σ.length) : L2.wipe σ' vs = L2.wipe σ vs := by
  have inn : ∀ (τ : L2.St) (vs : List Nat) (i : Nat), i ∈ vs → i < τ.length → (L2.wipe τ vs)[i]? = some none := by
    intro τ vs
    induction vs with
    | nil => intro i h; cases h
    | cons v vs ih =>
      intro i h hlt
      unfold L2.wipe
      by_cases e : v = i
      · subst e
        rw [List.getElem?_set_self (by rw [wipe_length]; exact hlt)]
      · rw [List.getElem?_set_ne e]
        rcases List.mem_cons.mp h with h | h
        · exact absurd h.symm e
        · exact ih i h hlt
  apply List.ext_getElem?
  intro i
  by_cases hi : i ∈ vs
  · by_cases hlt : i < σ.length
    · rw [inn σ' vs i hi (by rw [hl]; exact hlt), inn σ vs i hi hlt]
    · rw [List.getElem?_eq_none (by rw [wipe_length, hl]; omega), List.getElem?_eq_none (by rw [wipe_length]; omega)]
  · rw [wipe_out hi, wipe_out hi, h i hi]
theorem wipe_wipe : L2.wipe (L2.wipe σ vs) vs = L2.wipe σ vs := wipe_eq (fun j hj => wipe_out hj) (wipe_length _ _)
def okW (ρ : Dn) (vs : List Nat) : Bool := vs.all fun v =>
  match ρ[v]? with
  | some none => true
  | some (some (.imm _)) => true
  | _ => false
/-- the slots vs as they stood -/
def backD (ρ ρ' : Dn) : List Nat → Dn
  | [] => ρ'
  | v :: vs => (backD ρ ρ' vs).set v (ρ[v]?.join)
theorem backD_out {i : Nat} : ∀ {vs : List Nat}, i ∉ vs → (backD ρ ρ' vs)[i]? = ρ'[i]?
  | [], _ => rfl
  | v :: vs, h => by
    simp only [List.mem_cons, not_or] at h
    unfold backD
    rw [List.getElem?_set_ne (fun e => h.1 e.symm), backD_out h.2]
theorem backD_len : ∀ vs : List Nat, (backD ρ ρ' vs).length = ρ'.length
  | [] => rfl
  | v :: vs => by unfold backD; rw [List.length_set, backD_len vs]
theorem backD_in {i : Nat} (hl : i < ρ'.length) : ∀ {vs : List Nat}, i ∈ vs → (backD ρ ρ' vs)[i]? = some (ρ[i]?.join)
  | v :: vs, h => by
    unfold backD
    by_cases e : v = i
    · subst e
      rw [List.getElem?_set_self (by rw [backD_len]; exact hl)]
    · rw [List.getElem?_set_ne e]
      rcases List.mem_cons.mp h with h | h
      · exact absurd h.symm e
      · exact backD_in hl h
theorem join_get {i : Nat} {s : Sl} (h : ρ[i]?.join = some s) : ρ[i]? = some (some s) := by
  cases e : ρ[i]? with
  | none => rw [e] at h; cases h
  | some o => rw [e] at h; cases o with
    | none => cases h
    | some t => cases h; rfl
theorem okW_get {i : Nat} {s : Sl} (h : okW ρ vs = true) (hi : i ∈ vs) (e : ρ[i]? = some (some s)) : ∃ d, s = .imm d := by
  have := List.all_eq_true.mp h i hi
  rw [e] at this
  cases s with
  | imm d => exact ⟨d, rfl⟩
  | own b d => cases this
  | scr ns => cases this
theorem ER.back (E : ER K F A H σ ρ) (hk : okW ρ vs = true) (E' : ER K F A' H' (L2.wipe σ vs) ρ') (k : Kp A A' H H') (hw : ∀ i s, i ∈ vs → ρ'[i]? ≠ some (some s)) (hl : ρ'.length = ρ.length) : ER K F A' H' σ (backD ρ ρ' vs) := by
  have key : ∀ {i : Nat} {s : Sl}, (backD ρ ρ' vs)[i]? = some (some s) → (i ∈ vs ∧ ρ[i]? = some (some s)) ∨ (i ∉ vs ∧ ρ'[i]? = some (some s)) := fun {i s} e => by
    by_cases hi : i ∈ vs
    · left
      have hlt : i < ρ'.length := by
        have := (List.getElem?_eq_some_iff.mp e).1
        rw [backD_len] at this
        exact this
      rw [backD_in hlt hi] at e
      exact ⟨hi, join_get (Option.some.inj e)⟩
    · right
      rw [backD_out hi] at e
      exact ⟨hi, e⟩
  have own : ∀ {i : Nat} {b : Bool} {d : PD}, (backD ρ ρ' vs)[i]? = some (some (.own b d)) → i ∉ vs ∧ ρ'[i]? = some (some (.own b d)) := fun {i b d} e => by
    rcases key e with ⟨hi, e1⟩ | h
    · obtain ⟨d', z⟩ := okW_get hk hi e1
      cases z
    · exact h
  refine ⟨by rw [backD_len, hl, E.len], fun i s e => ?_, fun i j b b' d d' p e1 e2 e3 e4 => ?_, E'.dom, E'.kp, E'.mono, E'.grow, fun i b d p e1 e2 => ?_, E'.FS, fun q h => ?_⟩
  · rcases key e with ⟨hi, e1⟩ | ⟨hi, e1⟩
    · obtain ⟨v, e2, r⟩ := E.slot i s e1
      obtain ⟨d, rfl⟩ := okW_get hk hi e1
      exact ⟨v, e2, Rp.kp k r⟩
    · obtain ⟨v, e2, r⟩ := E'.slot i s e1
      rw [wipe_out hi] at e2
      exact ⟨v, e2, r⟩
  · obtain ⟨hi, f1⟩ := own e1
    obtain ⟨hj, f2⟩ := own e2
    exact E'.dist i j b b' d d' p f1 f2 (by rw [wipe_out hi]; exact e3) (by rw [wipe_out hj]; exact e4)
  · obtain ⟨hi, f1⟩ := own e1
    exact E'.ownF i b d p f1 (by rw [wipe_out hi]; exact e2)
  · obtain ⟨e1, d, e2⟩ := E'.ins q h
    have hi : q.1 ∉ vs := fun hi => hw q.1 _ hi e2
    exact ⟨by rw [← wipe_out hi]; exact e1, d, by rw [backD_out hi]; exact e2⟩
/-- an object that nobody has is written -/
theorem Kp.other {p : Addr} {o u : HO} (h1 : ¬ A p) (hp : H p = some o) (ht : ∀ xs, o ≠ .tup xs) : Kp A A H (upd H p u) := by
  refine ⟨fun _ h => h, fun a v ha e => ?_, fun a xs e => ?_⟩
  · rw [upd_ne (fun z => by subst z; exact h1 ha)]; exact e
  · rw [upd_ne (fun z => by subst z; rw [hp] at e; cases e; exact ht xs rfl)]; exact e
theorem ER.other {p : Addr} {o u : HO} (E : ER K F A H σ ρ) (h1 : ¬ A p) (h2 : ¬ Ow σ ρ p) (h3 : F.H p = none) (hp : H p = some o) (ht : ∀ xs, o ≠ .tup xs) (hfz : ∀ q v, o ≠ .frz q v) : ER K F A (upd H p u) σ ρ := by
  have kk : Kp A A H (upd H p u) := Kp.other h1 hp ht
  refine ⟨E.len, fun i s e => ?_, E.dist, fun a ha => ?_, fun b v e n => ?_, E.mono, E.grow, E.ownF, E.FS, E.ins⟩
  · obtain ⟨v, e1, r⟩ := E.slot i s e
    refine ⟨v, e1, ?_⟩
    cases s with
    | imm d => exact Rp.kp kk r
    | own b d =>
      obtain ⟨q, rfl, n, r⟩ := r
      refine ⟨q, rfl, n, r.kp kk ?_⟩
      rw [upd_ne]
      intro z
      subst z
      exact h2 ⟨i, b, d, e, e1⟩
    | scr ns =>
      obtain ⟨q, rfl, r⟩ := r
      refine ⟨q, rfl, ?_⟩
      refine r.kp fun ob w z => ?_
      rw [upd_ne]
      · exact z
      · intro y; subst y; rw [hp] at z; cases z; exact hfz _ _ rfl
  · by_cases z : a = p
    · subst z; exact absurd ha h1
    · rw [upd_ne z]; exact E.dom a ha
  · rw [upd_ne]
    · exact E.kp b v e n
    · intro z; subst z; rw [h3] at e; cases e
end
end DP
/-! DPV: list comprehensions, by their loop. -/
namespace DP
open PySem L2
def compL (g : PD → Dn → Option Dn) (vs : List Nat) (cond : M Bool) (elt : M PD) : List PD → List PD → M (List PD)
  | [], acc => fun ρ => .ok acc ρ
  | d :: ds, acc => fun ρ =>
    match g d ρ with
    | none => .no
    | some ρ1 => match cond ρ1 with
      | .ok true ρ2 => match elt ρ2 with
        | .ok y ρ3 => if smallL acc.length = true then compL g vs cond elt ds (acc ++ [y]) (wipeD ρ3 vs) else .no
        | _ => .no
      | .ok false ρ2 => compL g vs cond elt ds acc (wipeD ρ2 vs)
      | _ => .no
/-- [elt for g in it if cond], own names at the slots vs -/
def eComp (it : M (List PD)) (g : PD → Dn → Option Dn) (vs : List Nat) (cond : M Bool) (elt : M Rv) : M Rv := bnd it fun ds ρ =>
  if okW ρ vs = true then
    match compL g vs cond (bnd elt frz) ds [] (wipeD ρ vs) with
    | .ok acc ρ' => .ok (.fresh (.list acc)) (backD ρ ρ' vs)
    | _ => .no
  else .no
abbrev noW : WX := fun _ _ _ _ => False
/-- a clause's tests -/
def SimTs (X : Cx) (ifs : List Expr) (f : M Bool) : Prop := ∃ t : TT, PTs X ifs t ∧ ∀ F A H σ ρ, ER X.K F A H σ ρ → ∀ Q : Bool → Hp → Prop, Pst X.K X.mg noW F A H σ ρ RT Q (f ρ) → t σ H Q
theorem sim_tsnil {X : Cx} : SimTs X [] (retM true) := ⟨_, pts_nil, fun F A H σ ρ E Q h => h A H true E Step.refl rfl⟩
theorem sim_tsone {X : Cx} {c : Expr} {f : M Bool} (h : SimT X noW c f) : SimTs X [c] f := by
  obtain ⟨t, p, h⟩ := h
  exact ⟨_, pts_one p, h⟩
section
variable {K : PySem.W.Frag} {mg : Str → Option Value} {W : WX} {vs : List Nat} {it : M (List PD)} {g : PD → Dn → Option Dn} {is : List Nat} {cond : M Bool} {elt : M Rv} {wi : TI} {tg : TG} {tt : TT} {te : TE}
theorem lc_run (hi : ∀ F A H σ ρ, ER K F A H σ ρ → ∀ R : It → Hp → Prop, Pst K mg W F A H σ ρ (fun A' H' _ J ds => ItR A' H' J ds) R (it ρ) → wi σ H R)
    (hg : ∀ F A H σ ρ v d ρ' (Q : L2.St → Hp → Prop), ER K F A H σ ρ → Rp A H v d → g d ρ = some ρ' → (∀ σ', ER K F A H σ' ρ' → (∀ j, j ∉ is → σ'[j]? = σ[j]? ∧ ρ'[j]? = ρ[j]?) → (∀ j, j ∈ is → ∃ d, ρ'[j]? = some (some (.imm d))) → σ'.length = σ.length → Q σ' H) → tg v σ H Q)
    (his : ∀ i ∈ is, i ∈ vs)
    (ht : ∀ F A H σ ρ, ER K F A H σ ρ → ∀ Q : Bool → Hp → Prop, Pst K mg noW F A H σ ρ RT Q (cond ρ) → tt σ H Q)
    (he : ∀ F A H σ ρ, ER K F A H σ ρ → ∀ Q : VK, Pst K mg noW F A H σ ρ (RE F H σ) Q (elt ρ) → te σ H Q) :
    ∀ F A H σ ρ, ER K F A H σ ρ → ∀ Q : VK, Pst K mg W F A H σ ρ (RE F H σ) Q (eComp it g vs cond elt ρ) → tLc wi tg tt te vs σ H Q := by
  intro F A H σ ρ E Q h
  refine hi F A H σ ρ E _ (h.split (RR1 := fun A' H' _ J ds => ItR A' H' J ds) fun ds ρ1 A1 H1 J E1 S1 I1 h1 => ?_)
  intro D hD
  by_cases hk : okW ρ1 vs = true
  case neg => rw [if_neg hk] at h1; exact h1.elim
  rw [if_pos hk] at h1
  have hq : ∀ q ∈ F.ins, q.1 ∉ vs := fun q hq hv => by
    obtain ⟨_, d, e⟩ := E1.ins q hq
    obtain ⟨d', z⟩ := okW_get hk hv e
    cases z
  cases ec : compL g vs cond (bnd elt frz) ds [] (wipeD ρ1 vs) with
  | no => rw [ec] at h1; exact h1.elim
  | ex x ρ' => rw [ec] at h1; exact h1.elim
  | ok accF ρF =>
    rw [ec] at h1
    have extD : ∀ b o, H1 b = some o → upd H1 D (.lst []) b = some o := fun b o e => by rw [upd_ne (ne_of_none e hD)]; exact e
    have dA : ¬ A1 D := E1.free hD
    have dO : ¬ Ow σ ρ1 D := E1.owne hD
    have dF : F.H D = none := E1.fnone hD
    refine ⟨fun i m H' => m = ds.length - i ∧ i ≤ ds.length ∧ ∃ A' ρ' acc us, ER K F A' H' (wipe σ vs) ρ' ∧ StepV vs A1 H1 σ ρ1 A' H' (wipe σ vs) ρ' ∧ H' D = some (.lst us) ∧ ¬ A' D ∧ RpAll A' H' us acc ∧ (∀ i s, i ∈ vs → ρ'[i]? ≠ some (some s)) ∧
      compL g vs cond (bnd elt frz) (ds.drop i) acc ρ' = .ok accF ρF, ⟨ds.length, by simp, Nat.zero_le _, A1, wipeD ρ1 vs, [], [], (E1.wipe hq).ext extD, ⟨fun b o e _ => extD b o e, fun _ h => h, fun _ h => .inl h, fun p h => wipe_ow h, fun i s hi e => ⟨s, by rw [wipeD_out hi]; exact e⟩, fun b e => keep_none extD e, wipeD_len _ _⟩, upd_same, dA, .nil, fun i s hi => wipeD_in hi, by simpa using ec⟩, ?_⟩
    rintro i m H2 ⟨rfl, hi2, A2, ρ2, acc, us, E2, S2, hD2, dA2, r2, hw2, ec2⟩
    have k2 : Kp A1 A2 H1 H2 := S2.kpr E1
    obtain ⟨hstop, hgo⟩ := (I1.kp k2) A2 H2 Kp.refl E2.dom
    by_cases hlt : i < ds.length
    · have hd : ds[i]? = some ds[i] := by simp [hlt]
      obtain ⟨go, yld⟩ := hgo i _ hd
      rw [List.drop_eq_getElem_cons hlt] at ec2
      simp only [compL] at ec2
      cases eg : g ds[i] ρ2 with
      | none => rw [eg] at ec2; cases ec2
      | some ρ3 =>
        rw [eg] at ec2
        dsimp only at ec2
        refine .inr ⟨go, fun H' => ∃ A' ρ' acc us, ER K F A' H' (wipe σ vs) ρ' ∧ StepV vs A1 H1 σ ρ1 A' H' (wipe σ vs) ρ' ∧ H' D = some (.lst us) ∧ ¬ A' D ∧ RpAll A' H' us acc ∧ (∀ i s, i ∈ vs → ρ'[i]? ≠ some (some s)) ∧
          compL g vs cond (bnd elt frz) (ds.drop (i + 1)) acc ρ' = .ok accF ρF, fun H' z => ⟨ds.length - (i + 1), by omega, rfl, hlt, z⟩, fun x H3 y3 => ?_⟩
        obtain ⟨k3, r3⟩ := yld x H3 y3
        have E3 := E2.ext k3
        refine hg F A2 H3 (wipe σ vs) ρ2 x ds[i] ρ3 _ E3 r3 eg fun σ3 E4 n4 m4 l4 => ?_
        have ww : wipe σ3 vs = wipe σ vs := by
          rw [← wipe_wipe (σ := σ)]
          exact wipe_eq (fun j hj => (n4 j fun z => hj (his j z)).1) l4
        refine ⟨ww, ?_⟩
        -- what the target has done
        have l3 : ρ3.length = ρ2.length := by rw [← E4.len, l4, E3.len]
        have own3 : ∀ p, Ow σ3 ρ3 p → Ow (wipe σ vs) ρ2 p := fun p ⟨j, b, d, e1, e2⟩ => by
          by_cases hj : j ∈ is
          · obtain ⟨d', z⟩ := m4 j hj
            rw [z] at e1
            cases e1
          · exact ⟨j, b, d, by rw [← (n4 j hj).2]; exact e1, by rw [← (n4 j hj).1]; exact e2⟩
        have S3 : StepV vs A2 H2 (wipe σ vs) ρ2 A2 H3 σ3 ρ3 := ⟨fun b o e _ => k3 b o e, fun _ h => h, fun _ h => .inl h, own3, fun j s hj e => ⟨s, by rw [(n4 j fun z => hj (his j z)).2]; exact e⟩, fun b e => keep_none k3 e, l3⟩
        have r3' := r2.kp (Kp.ext (A := A2) k3)
        have hD3 := k3 D _ hD2
        have dO3 : ¬ Ow σ3 ρ3 D := fun z => dO (S2.sub D (own3 D z))
        have fin : ∀ {A5 : AS} {H5 : Hp} {ρ5 : Dn} {us5 : List V} {acc5 : List PD}, ER K F A5 H5 σ3 ρ5 → StepV vs A1 H1 σ ρ1 A5 H5 σ3 ρ5 → H5 D = some (.lst us5) → ¬ A5 D → RpAll A5 H5 us5 acc5 → compL g vs cond (bnd elt frz) (ds.drop (i + 1)) acc5 (wipeD ρ5 vs) = .ok accF ρF →
            ∃ A' ρ' acc us, ER K F A' H5 (wipe σ vs) ρ' ∧ StepV vs A1 H1 σ ρ1 A' H5 (wipe σ vs) ρ' ∧ H5 D = some (.lst us) ∧ ¬ A' D ∧ RpAll A' H5 us acc ∧ (∀ i s, i ∈ vs → ρ'[i]? ≠ some (some s)) ∧ compL g vs cond (bnd elt frz) (ds.drop (i + 1)) acc ρ' = .ok accF ρF :=
          fun {A5 H5 ρ5 us5 acc5} E5 S5 hD5 dA5 r5 e5 => ⟨A5, wipeD ρ5 vs, acc5, us5, by rw [← ww]; exact E5.wipe hq, by rw [← ww]; exact S5.trans StepV.wipe, hD5, dA5, r5, fun i s hi => wipeD_in hi, e5⟩
        refine ht F A2 H3 σ3 ρ3 E4 _ ?_
        cases et : cond ρ3 with
        | no => rw [et] at ec2; cases ec2
        | ex x ρ4 => rw [et] at ec2; cases ec2
        | ok b ρ4 =>
          rw [et] at ec2
          intro A4 H4 b' E5 S4 R4
          cases R4
          have hD4 : H4 D = some (.lst us) := S4.kp D _ hD3 dO3
          have grow4 : ∀ {A' : AS}, (∀ a, A' a → A2 a ∨ H3 a = none ∨ Ow σ3 ρ3 a) → ¬ A' D := fun gr z => by
            rcases gr D z with q | q | q
            · exact dA2 q
            · rw [hD3] at q; cases q
            · exact dO3 q
          cases b with
          | false =>
            rw [if_neg (by simp)]
            exact fin E5 ((S2.trans S3).trans S4.v) hD4 (grow4 S4.grow) (r3'.kp (S4.kpr E4)) ec2
          | true =>
            rw [if_pos rfl]
            dsimp only at ec2
            refine he F A4 H4 σ3 ρ4 E5 _ ?_
            unfold bnd at ec2
            cases ee : elt ρ4 with
            | no => rw [ee] at ec2; cases ec2
            | ex x ρ5 => rw [ee] at ec2; cases ec2
            | ok rv ρ5 =>
              rw [ee] at ec2
              intro A5 H5 y E6 S5 R5
              dsimp only at ec2
              rcases frz_ok (r := rv) (ρ := ρ5) rfl with ez | ⟨d5, ρ6, ez⟩
              · rw [ez] at ec2; cases ec2
              · rw [ez] at ec2
                dsimp only at ec2
                obtain ⟨A6, E7, S6, R6, _⟩ := frz_run E6 S5 R5.q ez
                by_cases hz : smallL acc.length = true
                case neg => rw [if_neg hz] at ec2; cases ec2
                rw [if_pos hz] at ec2
                have S46 := S4.trans S6
                have hD5 : H5 D = some (.lst us) := S46.kp D _ hD3 dO3
                have dA6 := grow4 S46.grow
                have dO6 : ¬ Ow σ3 ρ6 D := fun z => dO3 (S46.sub D z)
                have r6 := r3'.kp (S46.kpr E4)
                have kD : Kp A6 A6 H5 (upd H5 D (.lst (us ++ [y]))) := Kp.other dA6 hD5 fun xs z => by cases z
                refine ⟨us, hD5, by rw [r2.length]; exact smallL_lt hz, ?_⟩
                have E8 : ER K F A6 (upd H5 D (.lst (us ++ [y]))) σ3 ρ6 := E7.other dA6 dO6 dF hD5 (fun xs z => by cases z) fun q v z => by cases z
                have SB : StepV vs A1 H1 σ ρ1 A6 H5 σ3 ρ6 := (S2.trans S3).trans S46.v
                have S7 : StepV vs A1 H1 σ ρ1 A6 (upd H5 D (.lst (us ++ [y]))) σ3 ρ6 := by
                  refine ⟨fun b o e n => ?_, SB.mono, SB.grow, SB.sub, SB.def_, fun b e => ?_, SB.len⟩
                  · rw [upd_ne (ne_of_none e hD)]
                    exact SB.kp b o e n
                  · by_cases hb : b = D
                    · subst hb; rw [upd_same] at e; cases e
                    · rw [upd_ne hb] at e; exact SB.live b e
                exact fin E8 S7 upd_same dA6 (RpAll.snoc (r6.kp kD) (Rp.kp kD R6)) ec2
    · have e : i = ds.length := by omega
      subst e
      refine .inl ⟨hstop, ?_⟩
      rw [List.drop_length] at ec2
      cases ec2
      have EB := E1.back hk E2 k2 hw2 S2.len
      have ow : ∀ p, Ow σ (backD ρ1 ρF vs) p → Ow σ ρ1 p := fun p ⟨j, b, d, e1, e2⟩ => by
        by_cases hj : j ∈ vs
        · have hlt : j < ρF.length := by
            have := (List.getElem?_eq_some_iff.mp e1).1
            rw [backD_len] at this
            exact this
          rw [backD_in hlt hj] at e1
          have e3 := join_get (Option.some.inj e1)
          exact ⟨j, b, d, e3, e2⟩
        · rw [backD_out hj] at e1
          exact S2.sub p ⟨j, b, d, e1, by rw [wipe_out hj]; exact e2⟩
      have SE : Step A1 H1 σ ρ1 A2 H2 (backD ρ1 ρF vs) := ⟨S2.kp, S2.mono, S2.grow, ow, fun j s e => by
        by_cases hj : j ∈ vs
        · have hlt : j < ρF.length := by rw [S2.len]; exact (List.getElem?_eq_some_iff.mp e).1
          exact ⟨s, by rw [backD_in hlt hj, e]; rfl⟩
        · rw [backD_out hj]; exact S2.def_ j s hj e, S2.live, by rw [backD_len, S2.len]⟩
      exact h1 A2 H2 (.ref D) EB (S1.trans SE) ⟨D, rfl, ⟨dA2, fun z => dO (ow D z), dF, S1.live D hD⟩, us, hD2, r2⟩
end
end DP
/-! DPW: list comprehensions as expressions and as statements. -/
namespace DP
open PySem L2
def starE (K : PySem.W.Frag) (mg : Str → Option Value) (W : WX) (f : M Rv) : TE := fun σ H Q => ∃ F A ρ, ER K F A H σ ρ ∧ Pst K mg W F A H σ ρ (RE F H σ) Q (f ρ)
theorem SimE.star {X : Cx} {W : WX} {e : Expr} {f : M Rv} (h : SimE X W e f) : PE X e (starE X.K X.mg W f) := by
  obtain ⟨t, p, h⟩ := h
  exact ⟨fun pins s σ H Q I ⟨F, A, ρ, E, q⟩ => p.run pins s σ H Q I (h F A H σ ρ E Q q)⟩
def starTs (K : PySem.W.Frag) (mg : Str → Option Value) (f : M Bool) : TT := fun σ H Q => ∃ F A ρ, ER K F A H σ ρ ∧ Pst K mg noW F A H σ ρ RT Q (f ρ)
theorem SimTs.star {X : Cx} {e : List Expr} {f : M Bool} (h : SimTs X e f) : PTs X e (starTs X.K X.mg f) := by
  obtain ⟨t, p, h⟩ := h
  exact ⟨fun pins s σ H Q I ⟨F, A, ρ, E, q⟩ => p.run pins s σ H Q I (h F A H σ ρ E Q q)⟩
def starG (K : PySem.W.Frag) (g : PD → Dn → Option Dn) (is : List Nat) : TG := fun v σ H Q => ∃ F A d ρ ρ', ER K F A H σ ρ ∧ Rp A H v d ∧ g d ρ = some ρ' ∧
  (∀ σ', ER K F A H σ' ρ' → (∀ j, j ∉ is → σ'[j]? = σ[j]? ∧ ρ'[j]? = ρ[j]?) → (∀ j, j ∈ is → ∃ d, ρ'[j]? = some (some (.imm d))) → σ'.length = σ.length → Q σ' H)
theorem SimG.star {X : Cx} {e : Expr} {g : PD → Dn → Option Dn} {is : List Nat} (h : SimG X e g is) : PG X e (starG X.K g is) := by
  obtain ⟨t, p, h⟩ := h
  exact ⟨fun pins s σ H v u Q I r ⟨F, A, d, ρ, ρ', E, R, eg, q⟩ => p.run pins s σ H v u Q I r (h F A H σ ρ v d ρ' Q E R eg q)⟩
section
variable {X : Cx} {W : WX} {elt tg iter : Expr} {ifs : List Expr} {scope : Scope} {own : List (Str × Nat)} {pos : Pos} {it : M (List PD)} {g : PD → Dn → Option Dn} {is : List Nat} {cond : M Bool} {f : M Rv}
theorem sim_lc (own : List (Str × Nat)) (hc : X.calm = true) (hN : X.N.Nodup) (hi : SimI X W tg iter it) (ok : BlkOk X.N X.env.scope scope own)
    (hg : ∀ (s : Shared) (H : Hp) (C : Addr) (cl : List (Str × Addr)) (fp : List Addr), SimG (X.blk s H scope (compEnvC scope cl C X.env) fp) tg g is)
    (ht : ∀ (s : Shared) (H : Hp) (C : Addr) (cl : List (Str × Addr)) (fp : List Addr), SimTs (X.blk s H scope (compEnvC scope cl C X.env) fp) ifs cond)
    (he : ∀ (s : Shared) (H : Hp) (C : Addr) (cl : List (Str × Addr)) (fp : List Addr), SimE (X.blk s H scope (compEnvC scope cl C X.env) fp) noW elt f)
    (his : ∀ i ∈ is, i ∈ own.map (·.2)) (hs : ∀ x, foldedSetIterable iter X.env x = pure x := by intro _; rfl) : SimE X W (.ListComp elt [⟨tg, iter, ifs, 0⟩] scope pos) (eComp it g (own.map (·.2)) cond f) := by
  obtain ⟨w, pi, hi⟩ := hi
  refine ⟨_, pe_lc (g := starG X.K g is) (tt := starTs X.K X.mg cond) (te := starE X.K X.mg noW f) hc hN pi ok (fun s H C cl fp => (hg s H C cl fp).star) (fun s H C cl fp => (ht s H C cl fp).star) (fun s H C cl fp => (he s H C cl fp).star) hs, ?_⟩
  exact lc_run (K := X.K) (mg := X.mg) hi (fun F A H σ ρ v d ρ' Q E R eg q => ⟨F, A, d, ρ, ρ', E, R, eg, q⟩) his (fun F A H σ ρ E Q q => ⟨F, A, ρ, E, q⟩) (fun F A H σ ρ E Q q => ⟨F, A, ρ, E, q⟩)
theorem sim_setlc (own : List (Str × Nat)) {i : Nat} {y : Str} {py spos : Pos} (hc : X.calm = true) (hN : X.N.Nodup) (hy : X.N[i]? = some y) (hyl : X.env.scope.names.lookup y = some .local)
    (hw : swapsWith (.ListComp elt [⟨tg, iter, ifs, 0⟩] scope pos) (some (.Name y py)) spos.line X.env = pure true) (hi : SimI X W tg iter it) (ok : BlkOk X.N X.env.scope scope own)
    (hg : ∀ (s : Shared) (H : Hp) (C : Addr) (cl : List (Str × Addr)) (fp : List Addr), SimG (X.blk s H scope (compEnvC scope cl C X.env) fp) tg g is)
    (ht : ∀ (s : Shared) (H : Hp) (C : Addr) (cl : List (Str × Addr)) (fp : List Addr), SimTs (X.blk s H scope (compEnvC scope cl C X.env) fp) ifs cond)
    (he : ∀ (s : Shared) (H : Hp) (C : Addr) (cl : List (Str × Addr)) (fp : List Addr), SimE (X.blk s H scope (compEnvC scope cl C X.env) fp) noW elt f)
    (his : ∀ i ∈ is, i ∈ own.map (·.2)) (hs : ∀ x, foldedSetIterable iter X.env x = pure x := by intro _; rfl) : SimS X W (.Assign [.Name y py] (.ListComp elt [⟨tg, iter, ifs, 0⟩] scope pos) spos) (sSet i (eComp it g (own.map (·.2)) cond f)) := by
  obtain ⟨w, pi, hi⟩ := hi
  refine ⟨_, ps_setLc (g := starG X.K g is) (tt := starTs X.K X.mg cond) (te := starE X.K X.mg noW f) hc hN hy hyl hw pi ok (fun s H C cl fp => (hg s H C cl fp).star) (fun s H C cl fp => (ht s H C cl fp).star) (fun s H C cl fp => (he s H C cl fp).star) hs, fun F A H σ ρ D E h => ?_⟩
  exact lc_run (K := X.K) (mg := X.mg) hi (fun F A H σ ρ v d ρ' Q E R eg q => ⟨F, A, d, ρ, ρ', E, R, eg, q⟩) his (fun F A H σ ρ E Q q => ⟨F, A, ρ, E, q⟩) (fun F A H σ ρ E Q q => ⟨F, A, ρ, E, q⟩) F A H σ ρ E _
    (PstS.split E h fun r ρ1 A1 H1 v E1 S1 R1 h2 => putR_run (S1.kpr E) E1 R1 h2)
end
end DP
/-! DPX: what a def comes to; calls. -/
namespace DP
open PySem L2
inductive FR where
  | ok (c : Rc) (outs : List PD)
  | ex (e : Exn) (outs : List PD)
  | no
/-- no exception -/
def FR.calm : FR → FR
  | .ok c o => .ok c o
  | _ => .no
inductive ArgsR (A : AS) (H : Hp) : List Bool → List V → List PD → List Addr → Prop
  | nil : ArgsR A H [] [] [] []
  | imm {v : V} {d : PD} {ms : List Bool} {vs : List V} {ds : List PD} {ps : List Addr} : Rp A H v d → ArgsR A H ms vs ds ps → ArgsR A H (false :: ms) (v :: vs) (d :: ds) ps
  | inp {p : Addr} {d : PD} {ms : List Bool} {vs : List V} {ds : List PD} {ps : List Addr} : ¬ A p → OwnObj A H p d → p ∉ ps → ArgsR A H ms vs ds ps → ArgsR A H (true :: ms) (.ref p :: vs) (d :: ds) (p :: ps)
structure FrameF (A : AS) (H : Hp) (ps : List Addr) (A' : AS) (H' : Hp) : Prop where
  kp : ∀ b o, H b = some o → b ∉ ps → H' b = some o
  mono : ∀ a, A a → A' a
  grow : ∀ a, A' a → A a ∨ H a = none
  dom : ∀ a, A' a → H' a ≠ none
  live : ∀ b, H' b = none → H b = none
inductive OutsR (A : AS) (H : Hp) : List Addr → List PD → Prop
  | nil : OutsR A H [] []
  | cons {p : Addr} {ps : List Addr} {d : PD} {ds : List PD} : ¬ A p → OwnObj A H p d → OutsR A H ps ds → OutsR A H (p :: ps) (d :: ds)
def ResR (A' : AS) (H H' : Hp) (v : V) : Rc → Prop
  | .val d => Rp A' H' v d
  | .fresh d => ∃ p, v = .ref p ∧ ¬ A' p ∧ H p = none ∧ OwnObj A' H' p d
def PstF (mg : Str → Option Value) (A : AS) (H : Hp) (ps : List Addr) (Q : VK) (E : XK) : FR → Prop
  | .ok c outs => ∀ A' H' v, FrameF A H ps A' H' → OutsR A' H' ps outs → ResR A' H H' v c → Q v H'
  | .ex e outs => ∀ A' H' cls d, FrameF A H ps A' H' → OutsR A' H' ps outs → XR mg A' H' e cls d → E cls d H'
  | .no => False
/-- a def's promise: on data it comes to m -/
def spD (mg : Str → Option Value) (ms : List Bool) (m : List PD → FR) : Sp := fun vs H Q E => ∃ A ds ps, (∀ a, A a → H a ≠ none) ∧ ArgsR A H ms vs ds ps ∧ PstF mg A H ps Q E (m ds)
theorem ArgsR.length {A : AS} {H : Hp} : ∀ {ms : List Bool} {vs : List V} {ds : List PD} {ps : List Addr}, ArgsR A H ms vs ds ps → vs.length = ms.length
  | _, _, _, _, .nil => rfl
  | _, _, _, _, .imm _ h => by simp [ArgsR.length h]
  | _, _, _, _, .inp _ _ _ h => by simp [ArgsR.length h]
/-! ### a def's body -/
def slOf (m : Bool) (d : PD) : Option Sl := some (if m = true then .own true d else .imm d)
def argD : List Bool → List PD → Dn
  | m :: ms, d :: ds => slOf m d :: argD ms ds
  | _, _ => []
def startD (n : Nat) (ms : List Bool) (ds : List PD) : Dn := argD ms ds ++ List.replicate (n - ms.length) none
def outsAt (ρ : Dn) : Nat → List Bool → Option (List PD)
  | _, [] => some []
  | i, false :: ms => outsAt ρ (i + 1) ms
  | i, true :: ms => match ρ[i]? with
    | some (some (.own true d)) => (outsAt ρ (i + 1) ms).map (d :: ·)
    | _ => none
def resOf (ρ : Dn) : Rv → Option Rc
  | .val d => some (.val d)
  | .fresh d => some (.fresh d)
  | .slot i => match ρ[i]? with
    | some (some (.imm d)) => some (.val d)
    | some (some (.own false d)) => some (.fresh d)
    | _ => none
def runF (n : Nat) (ms : List Bool) (b : SM) (ds : List PD) : FR :=
  match b (startD n ms ds) with
  | .nx ρ => match outsAt ρ 0 ms with
    | some o => .ok (.val .none) o
    | none => .no
  | .rt r ρ => match outsAt ρ 0 ms, resOf ρ r with
    | some o, some c => .ok c o
    | _, _ => .no
  | .ex e ρ => match outsAt ρ 0 ms with
    | some o => .ex e o
    | none => .no
  | _ => .no
def insAt : Nat → List Bool → List V → List (Nat × Addr)
  | i, false :: ms, _ :: vs => insAt (i + 1) ms vs
  | i, true :: ms, .ref p :: vs => (i, p) :: insAt (i + 1) ms vs
  | _, _, _ => []
section
variable {K : PySem.W.Frag} {A : AS} {H : Hp}
theorem ins_ps : ∀ {ms : List Bool} {vs : List V} {ds : List PD} {ps : List Addr} (i : Nat), ArgsR A H ms vs ds ps → (insAt i ms vs).map (·.2) = ps
  | _, _, _, _, _, .nil => rfl
  | _, _, _, _, i, .imm _ h => by simp only [insAt]; exact ins_ps (i + 1) h
  | _, _, _, _, i, .inp _ _ _ h => by simp only [insAt, List.map_cons]; rw [ins_ps (i + 1) h]
/-- what the arguments are, by their places -/
theorem args_at : ∀ {ms : List Bool} {vs : List V} {ds : List PD} {ps : List Addr}, ArgsR A H ms vs ds ps → ∀ (j : Nat) (s : Sl), (argD ms ds)[j]? = some (some s) → ∃ v, vs[j]? = some v ∧ SlR K A H v s ∧ (∀ p d b, s = .own b d → v = .ref p → b = true ∧ p ∈ ps)
  | _, _, _, _, .nil, j, s, e => by simp [argD] at e
  | _, _, _, _, .imm r h, 0, s, e => by
    simp only [argD, slOf] at e
    simp at e
    subst e
    exact ⟨_, rfl, r, fun p d b z => nomatch z⟩
  | _, _, _, _, .imm r h, j + 1, s, e => by
    obtain ⟨v, e1, r1, o⟩ := args_at h j s (by simpa [argD] using e)
    exact ⟨v, by simpa using e1, r1, o⟩
  | _, _, _, _, .inp n o hn h, 0, s, e => by
    simp only [argD, slOf] at e
    simp at e
    subst e
    exact ⟨_, rfl, ⟨_, rfl, n, o⟩, fun p d b z y => by cases z; cases y; exact ⟨rfl, by simp⟩⟩
  | _, _, _, _, .inp n o hn h, j + 1, s, e => by
    obtain ⟨v, e1, r1, o⟩ := args_at h j s (by simpa [argD] using e)
    exact ⟨v, by simpa using e1, r1, fun p d b z y => let ⟨x, w⟩ := o p d b z y; ⟨x, List.mem_cons_of_mem _ w⟩⟩
theorem args_dist : ∀ {ms : List Bool} {vs : List V} {ds : List PD} {ps : List Addr}, ArgsR A H ms vs ds ps → ∀ (i j : Nat) (b b' : Bool) (d d' : PD) (p : Addr), (argD ms ds)[i]? = some (some (.own b d)) → (argD ms ds)[j]? = some (some (.own b' d')) → vs[i]? = some (.ref p) → vs[j]? = some (.ref p) → i = j
  | _, _, _, _, .nil, i, j, _, _, _, _, _, e, _, _, _ => by simp [argD] at e
  | _, _, _, _, .imm r h, i, j, b, b', d, d', p, e1, e2, e3, e4 => by
    cases i with
    | zero => simp [argD, slOf] at e1
    | succ i => cases j with
      | zero => simp [argD, slOf] at e2
      | succ j => rw [args_dist h i j b b' d d' p (by simpa [argD] using e1) (by simpa [argD] using e2) (by simpa using e3) (by simpa using e4)]
  | _, _, _, _, .inp (p := q) n o hn h, i, j, b, b', d, d', p, e1, e2, e3, e4 => by
    cases i with
    | zero => cases j with
      | zero => rfl
      | succ j =>
        exfalso
        have hq : q = p := by simpa using e3
        obtain ⟨v, f1, _, f2⟩ := args_at (K := []) h j _ (by simpa [argD] using e2)
        have e4' : v = .ref p := by
          have : _ = some (V.ref p) := e4
          simp at this
          rw [this] at f1
          exact (Option.some.inj f1).symm
        exact hn (by rw [hq]; exact (f2 p _ _ rfl e4').2)
    | succ i => cases j with
      | zero =>
        exfalso
        have hq : q = p := by simpa using e4
        obtain ⟨v, f1, _, f2⟩ := args_at (K := []) h i _ (by simpa [argD] using e1)
        have e4' : v = .ref p := by
          have : _ = some (V.ref p) := e3
          simp at this
          rw [this] at f1
          exact (Option.some.inj f1).symm
        exact hn (by rw [hq]; exact (f2 p _ _ rfl e4').2)
      | succ j => rw [args_dist h i j b b' d d' p (by simpa [argD] using e1) (by simpa [argD] using e2) (by simpa using e3) (by simpa using e4)]
theorem args_ins : ∀ {ms : List Bool} {vs : List V} {ds : List PD} {ps : List Addr} (i : Nat), ArgsR A H ms vs ds ps → ∀ q ∈ insAt i ms vs, i ≤ q.1 ∧ vs[q.1 - i]? = some (.ref q.2) ∧ ∃ d, (argD ms ds)[q.1 - i]? = some (some (.own true d))
  | _, _, _, _, i, .nil, q, h => by simp [insAt] at h
  | _, _, _, _, i, .imm r h, q, hq => by
    simp only [insAt] at hq
    obtain ⟨h1, h2, d, h3⟩ := args_ins (i + 1) h q hq
    have e : q.1 - i = (q.1 - (i + 1)) + 1 := by omega
    exact ⟨by omega, by rw [e]; simpa using h2, d, by rw [e]; simpa [argD] using h3⟩
  | _, _, _, _, i, .inp n o hn h, q, hq => by
    simp only [insAt, List.mem_cons] at hq
    rcases hq with rfl | hq
    · exact ⟨Nat.le_refl _, by simp, _, by simp [argD, slOf]; rfl⟩
    · obtain ⟨h1, h2, d, h3⟩ := args_ins (i + 1) h q hq
      have e : q.1 - i = (q.1 - (i + 1)) + 1 := by omega
      exact ⟨by omega, by rw [e]; simpa using h2, d, by rw [e]; simpa [argD] using h3⟩
theorem argD_len : ∀ {ms : List Bool} {vs : List V} {ds : List PD} {ps : List Addr}, ArgsR A H ms vs ds ps → (argD ms ds).length = vs.length
  | _, _, _, _, .nil => rfl
  | _, _, _, _, .imm _ h => by simp [argD, argD_len h]
  | _, _, _, _, .inp _ _ _ h => by simp [argD, argD_len h]
theorem rep_none {α : Type} {n i : Nat} {s : α} : (List.replicate n (none : Option α))[i]? ≠ some (some s) := by
  intro e
  rw [List.getElem?_replicate] at e
  split at e <;> cases e
theorem ER.begins {N : List Str} {ms : List Bool} {vs : List V} {ds : List PD} {ps : List Addr} (hd : ∀ a, A a → H a ≠ none) (h : ArgsR A H ms vs ds ps) :
    ER K ⟨A, H, insAt 0 ms vs⟩ A H (L2.start N vs) (startD N.length ms ds) := by
  have hl := argD_len h
  have hv := h.length
  have low : ∀ {j : Nat} {s : Sl}, (startD N.length ms ds)[j]? = some (some s) → (argD ms ds)[j]? = some (some s) ∧ j < vs.length := fun {j s} e => by
    unfold startD at e
    by_cases hj : j < (argD ms ds).length
    · rw [List.getElem?_append_left hj] at e
      exact ⟨e, by omega⟩
    · rw [List.getElem?_append_right (by omega)] at e
      exact absurd e rep_none
  have val : ∀ {j : Nat} {v : V}, vs[j]? = some v → (L2.start N vs)[j]? = some (some v) := fun {j v} e => by
    unfold L2.start
    rw [List.getElem?_append_left (by have := (List.getElem?_eq_some_iff.mp e).1; simpa using this), List.getElem?_map, e]
    rfl
  have lav : ∀ {j : Nat} {v : V}, j < vs.length → (L2.start N vs)[j]? = some (some v) → vs[j]? = some v := fun {j v} hj e => by
    unfold L2.start at e
    rw [List.getElem?_append_left (by simpa using hj), List.getElem?_map] at e
    cases q : vs[j]? with
    | none => rw [q] at e; cases e
    | some w => rw [q] at e; cases e; rfl
  have hS : ∀ p, Ent.S ⟨A, H, insAt 0 ms vs⟩ p → p ∈ ps := fun p ⟨q, hq, e⟩ => by
    rw [← ins_ps 0 h]
    exact List.mem_map.mpr ⟨q, hq, e⟩
  refine ⟨by unfold L2.start startD; simp [hl, hv], fun j s e => ?_, fun i j b b' d d' p e1 e2 e3 e4 => ?_, hd, fun _ _ e _ => e, fun _ h => h, fun _ h => .inl h, fun j b d p e1 e2 => ?_, fun p hp => ?_, fun q hq => ?_⟩
  · obtain ⟨e1, _⟩ := low e
    obtain ⟨v, e2, r, _⟩ := args_at h j s e1
    exact ⟨v, val e2, r⟩
  · obtain ⟨f1, g1⟩ := low e1
    obtain ⟨f2, g2⟩ := low e2
    exact args_dist h i j b b' d d' p f1 f2 (lav g1 e3) (lav g2 e4)
  · obtain ⟨f1, g1⟩ := low e1
    obtain ⟨v, e3, _, o⟩ := args_at (K := K) h j _ f1
    rw [lav g1 e2] at e3
    cases e3
    obtain ⟨rfl, hp⟩ := o p d b rfl rfl
    rw [if_pos rfl]
    rw [← ins_ps 0 h] at hp
    obtain ⟨q, hq, e⟩ := List.mem_map.mp hp
    exact ⟨q, hq, e⟩
  · obtain ⟨q, hq, rfl⟩ := hp
    obtain ⟨_, h2, d, h3⟩ := args_ins 0 h q hq
    obtain ⟨v, e3, ⟨p', e4, n, _⟩, _⟩ := args_at (K := K) h _ _ h3
    rw [h2] at e3
    cases e3
    cases e4
    exact n
  · obtain ⟨_, h2, d, h3⟩ := args_ins 0 h q hq
    refine ⟨val (by simpa using h2), d, ?_⟩
    unfold startD
    have hj : q.1 < (argD ms ds).length := by have := (List.getElem?_eq_some_iff.mp h3).1; simpa using this
    rw [List.getElem?_append_left hj]
    simpa using h3
theorem outs_of {F : Ent} {A' : AS} {H' : Hp} {σ : L2.St} {ρ : Dn} (E : ER K F A' H' σ ρ) : ∀ {ms : List Bool} {vs : List V} (i : Nat) {o : List PD}, (∀ q ∈ insAt i ms vs, q ∈ F.ins) → vs.length = ms.length → outsAt ρ i ms = some o → (∀ (j : Nat), ms[j]? = some true → ∃ p, vs[j]? = some (.ref p)) → OutsR A' H' ((insAt i ms vs).map (·.2)) o
  | [], vs, i, o, _, hv, e, _ => by
    cases e
    cases vs with
    | nil => exact .nil
    | cons _ _ => cases hv
  | false :: ms, v :: vs, i, o, hi, hv, e, hr => outs_of E (ms := ms) (vs := vs) (i + 1) (o := o) hi (by simpa using hv) e fun j hj => by
    have := hr (j + 1) (by simpa using hj)
    simpa using this
  | true :: ms, v :: vs, i, o, hi, hv, e, hr => by
    obtain ⟨p, hp⟩ := hr 0 rfl
    have hp' : v = .ref p := by simpa using hp
    subst hp'
    simp only [insAt, List.map_cons]
    have hin := hi (i, p) (by simp [insAt])
    obtain ⟨e1, d, e2⟩ := E.ins _ hin
    simp only [outsAt, e2] at e
    cases e3 : outsAt ρ (i + 1) ms with
    | none => rw [e3] at e; cases e
    | some o' =>
      rw [e3] at e
      cases e
      obtain ⟨v, e4, p', e5, n, ob⟩ := E.slot _ _ e2
      rw [e1] at e4
      cases e4
      cases e5
      exact .cons n ob (outs_of E (i + 1) (fun q hq => hi q (by simp [insAt, hq])) (by simpa using hv) e3 fun j hj => by
        have := hr (j + 1) (by simpa using hj)
        simpa using this)
theorem args_refs : ∀ {ms : List Bool} {vs : List V} {ds : List PD} {ps : List Addr}, ArgsR A H ms vs ds ps → ∀ (j : Nat), ms[j]? = some true → ∃ p, vs[j]? = some (.ref p)
  | _, _, _, _, .nil, j, e => by simp at e
  | _, _, _, _, .imm _ h, 0, e => by simp at e
  | _, _, _, _, .imm _ h, j + 1, e => by
    obtain ⟨p, q⟩ := args_refs h j (by simpa using e)
    exact ⟨p, by simpa using q⟩
  | _, _, _, _, .inp _ _ _ h, 0, e => ⟨_, rfl⟩
  | _, _, _, _, .inp _ _ _ h, j + 1, e => by
    obtain ⟨p, q⟩ := args_refs h j (by simpa using e)
    exact ⟨p, by simpa using q⟩
end
section
variable {K : PySem.W.Frag} {mg : Str → Option Value} {W : WX} {A : AS} {H : Hp}
/-- the body's end is the def's end -/
theorem run_end {N : List Str} {ms : List Bool} {vs : List V} {ds : List PD} {ps : List Addr} {b : SM} {Q : VK} {E : XK} (h : ArgsR A H ms vs ds ps) (hq : PstF mg A H ps Q E (runF N.length ms b ds)) (hW : ∀ cls d σ H', E cls d H' → W cls d σ H') :
    PstS K mg W ⟨A, H, insAt 0 ms vs⟩ A H { nx := fun _ H' => Q .non H', rt := Q } (b (startD N.length ms ds)) := by
  have frame : ∀ {A' : AS} {H' : Hp} {σ' : L2.St} {ρ' : Dn}, ER K ⟨A, H, insAt 0 ms vs⟩ A' H' σ' ρ' → FrameF A H ps A' H' := fun {A' H' σ' ρ'} E' =>
    ⟨fun b o e n => E'.kp b o e fun ⟨q, hq, e'⟩ => n (by rw [← ins_ps 0 h]; exact List.mem_map.mpr ⟨q, hq, e'⟩), E'.mono, E'.grow, E'.dom, fun b e => E'.fnone e⟩
  have outs : ∀ {A' : AS} {H' : Hp} {σ' : L2.St} {ρ' : Dn} {o : List PD}, ER K ⟨A, H, insAt 0 ms vs⟩ A' H' σ' ρ' → outsAt ρ' 0 ms = some o → OutsR A' H' ps o := fun {A' H' σ' ρ' o} E' e => by
    have := outs_of E' 0 (fun q hq => hq) h.length e (args_refs h)
    rw [ins_ps 0 h] at this
    exact this
  unfold runF at hq
  cases eb : b (startD N.length ms ds) with
  | nx ρ =>
    rw [eb] at hq
    dsimp only at hq
    cases eo : outsAt ρ 0 ms with
    | none => rw [eo] at hq; exact hq.elim
    | some o =>
      rw [eo] at hq
      exact fun A' H' σ' E' _ => hq A' H' .non (frame E') (outs E' eo) .non
  | rt r ρ =>
    rw [eb] at hq
    dsimp only at hq
    cases eo : outsAt ρ 0 ms with
    | none => rw [eo] at hq; exact hq.elim
    | some o =>
      rw [eo] at hq
      cases er : resOf ρ r with
      | none => rw [er] at hq; exact hq.elim
      | some c =>
        rw [er] at hq
        refine fun A' H' σ' v E' _ R => hq A' H' v (frame E') (outs E' eo) ?_
        cases r with
        | val d => cases er; exact R
        | fresh d =>
          cases er
          obtain ⟨p, e, ⟨h1, h2, h3, h4⟩, h5⟩ := R
          exact ⟨p, e, h1, h3, h5⟩
        | slot i =>
          obtain ⟨e1, s, e2⟩ := R
          simp only [resOf, e2] at er
          obtain ⟨v', e3, r⟩ := E'.slot i s e2
          rw [e1] at e3
          cases e3
          cases s with
          | imm d => cases er; exact r
          | own bb d =>
            cases bb with
            | true => cases er
            | false =>
              cases er
              obtain ⟨p, rfl, n, ob⟩ := r
              have := E'.ownF i false d p e2 e1
              exact ⟨p, rfl, n, by simpa using this, ob⟩
          | scr ns => cases er
  | ex e ρ =>
    rw [eb] at hq
    dsimp only at hq
    cases eo : outsAt ρ 0 ms with
    | none => rw [eo] at hq; exact hq.elim
    | some o =>
      rw [eo] at hq
      exact fun A' H' σ' cls d E' _ X => hW _ _ _ _ (hq A' H' cls d (frame E') (outs E' eo) X)
  | bk ρ => rw [eb] at hq; exact hq.elim
  | ct ρ => rw [eb] at hq; exact hq.elim
  | no => rw [eb] at hq; exact hq.elim
end
/-- a def that lets no exception out -/
theorem fn_sim {P : Program} {w : World} {K : PySem.W.Frag} {mg : Str → Option Value} {base : Heap} {x qual : Str} {st : Stmt} {f : Addr} {fd : FuncData} {N ps : List Str} {k : Nat} {ms : List Bool} {b : SM} (F : Fun K x qual st f fd) (S : FnScope N ps (defScope st)) (hm : ms.length = ps.length)
    (hb : ∀ (cdv : Value) (A : Around) (outer : List PySem.Env) (s : Shared) (H : Hp) (E : XK), Room k (A.deeper (PyProof.Rows.envOfC qual (defScope st) s.heap.objs.size f cdv)) → SimB (cxOf CX0 P w K mg base N qual (defScope st) f cdv A outer s H E).nox noW (defBody st) b) :
    FnOk P w K mg base CX0 (k + 1) f fd ps (spD mg ms fun ds => (runF N.length ms b ds).calm) := by
  refine F.ok S (fun vs H Q E ⟨A, ds, qs, _, h, _⟩ => by rw [h.length, hm]) fun cdv A outer s H vs Q E hr ⟨Z, ds, qs, hd, ha, hq⟩ => ?_
  obtain ⟨t, p, h⟩ := hb cdv A outer s H E hr
  exact ⟨t, p, h _ Z H _ _ _ (ER.begins hd ha) (run_end (E := fun _ _ _ => False) ha (by
    dsimp only at hq
    cases er : runF N.length ms b ds with
    | ok c o => rw [er] at hq; exact hq
    | ex e o => rw [er] at hq; exact hq.elim
    | no => rw [er] at hq; exact hq) fun _ _ _ _ z => z)⟩
/-- a def that may let exceptions out -/
theorem fn_simX {P : Program} {w : World} {K : PySem.W.Frag} {mg : Str → Option Value} {base : Heap} {x qual : Str} {st : Stmt} {f : Addr} {fd : FuncData} {N ps : List Str} {k : Nat} {ms : List Bool} {b : SM} (F : Fun K x qual st f fd) (S : FnScope N ps (defScope st)) (hm : ms.length = ps.length)
    (hb : ∀ (cdv : Value) (A : Around) (outer : List PySem.Env) (s : Shared) (H : Hp) (E : XK), Room k (A.deeper (PyProof.Rows.envOfC qual (defScope st) s.heap.objs.size f cdv)) → SimB (cxOf (L2.CX P w) P w K mg base N qual (defScope st) f cdv A outer s H E) (fun cls d _ H => E cls d H) (defBody st) b) :
    FnOk P w K mg base (L2.CX P w) (k + 1) f fd ps (spD mg ms (runF N.length ms b)) := by
  refine F.okX S (fun vs H Q E ⟨A, ds, qs, _, h, _⟩ => by rw [h.length, hm]) fun cdv A outer s H vs Q E hr ⟨Z, ds, qs, hd, ha, hq⟩ => ?_
  obtain ⟨t, p, h⟩ := hb cdv A outer s H E hr
  exact ⟨t, p, h _ Z H _ _ _ (ER.begins hd ha) (run_end ha hq fun _ _ _ _ z => z)⟩
/-! ### calls -/
mutual
/-- no lists (l), no dicts (k) within -/
def clean (l k : Bool) : PD → Bool
  | .list ds => !l && cleanAll l k ds
  | .tuple ds => cleanAll l k ds
  | .dict ds => !k && cleanKV l k ds
  | _ => true
def cleanAll (l k : Bool) : List PD → Bool
  | [] => true
  | d :: ds => clean l k d && cleanAll l k ds
def cleanKV (l k : Bool) : List (PD × PD) → Bool
  | [] => true
  | (_, d) :: ds => clean l k d && cleanKV l k ds
end
/-- A without B -/
def less (A B : AS) : AS := fun a => A a ∧ ¬ B a
def Bad (B : AS) (H : Hp) (l k : Bool) : Prop := ∀ a, B a → (l = true ∧ ∃ xs, H a = some (.lst xs)) ∨ (k = true ∧ ∃ xs, H a = some (.dK xs))
mutual
theorem Rp.less {A B : AS} {H : Hp} {l k : Bool} (hb : Bad B H l k) : ∀ {v : V} {d : PD}, Rp A H v d → clean l k d = true → Rp (less A B) H v d
  | _, _, .non, _ => .non
  | _, _, .bl b, _ => .bl b
  | _, _, .int i, _ => .int i
  | _, _, .str x, _ => .str x
  | _, _, .lst (a := a) ha hr r, c => by
    simp only [clean, Bool.and_eq_true, Bool.not_eq_true'] at c
    refine .lst ⟨ha, fun hB => ?_⟩ hr (RpAll.less hb r c.2)
    rcases hb a hB with ⟨h1, _⟩ | ⟨h1, ys, h2⟩
    · rw [c.1] at h1; cases h1
    · rw [hr] at h2; cases h2
  | _, _, .tup h r, c => .tup h (RpAll.less hb r (by simpa [clean] using c))
  | _, _, .dic (a := a) ha h r, c => by
    simp only [clean, Bool.and_eq_true, Bool.not_eq_true'] at c
    refine .dic ⟨ha, fun hB => ?_⟩ h (RpKV.less hb r c.2)
    rcases hb a hB with ⟨h1, ys, h2⟩ | ⟨h1, ys, h2⟩
    · rw [h] at h2; cases h2
    · rw [c.1] at h1; cases h1
theorem RpAll.less {A B : AS} {H : Hp} {l k : Bool} (hb : Bad B H l k) : ∀ {v : List V} {d : List PD}, RpAll A H v d → cleanAll l k d = true → RpAll (less A B) H v d
  | _, _, .nil, _ => .nil
  | _, _, .cons r h, c => by
    simp only [cleanAll, Bool.and_eq_true] at c
    exact .cons (Rp.less hb r c.1) (RpAll.less hb h c.2)
theorem RpKV.less {A B : AS} {H : Hp} {l k : Bool} (hb : Bad B H l k) : ∀ {v : List (Key × V)} {d : List (PD × PD)}, RpKV A H v d → cleanKV l k d = true → RpKV (less A B) H v d
  | _, _, .nil, _ => .nil
  | _, _, .cons r h, c => by
    simp only [cleanKV, Bool.and_eq_true] at c
    exact .cons (Rp.less hb r c.1) (RpKV.less hb h c.2)
end
def cleanTop (l k : Bool) : PD → Bool
  | .list ds => cleanAll l k ds
  | .dict ds => cleanKV l k ds
  | d => clean l k d
theorem OwnObj.less {A B : AS} {H : Hp} {l k : Bool} {p : Addr} {d : PD} (hb : Bad B H l k) (h : OwnObj A H p d) (c : cleanTop l k d = true) : OwnObj (less A B) H p d := by
  cases d <;> simp only [OwnObj] at h ⊢
  · obtain ⟨xs, e, r⟩ := h; exact ⟨xs, e, r.less hb c⟩
  · obtain ⟨xs, e, r⟩ := h; exact ⟨xs, e, r.less hb c⟩
def cleanRc (l k : Bool) : Rc → Bool
  | .val d => clean l k d
  | .fresh d => cleanTop l k d
def isOwn (ρ : Dn) (i : Nat) : Bool :=
  match ρ[i]? with
  | some (some (.own _ _)) => true
  | _ => false
def isOwnL (ρ : Dn) (i : Nat) : Bool :=
  match ρ[i]? with
  | some (some (.own _ (.list _))) => true
  | _ => false
def isOwnD (ρ : Dn) (i : Nat) : Bool :=
  match ρ[i]? with
  | some (some (.own _ (.dict _))) => true
  | _ => false
/-- the arguments: their data, the slots that are lent, the slots that are handed in to be changed -/
def prep : List Bool → List Rv → Dn → Option (List PD × List Nat × List Nat)
  | [], [], _ => some ([], [], [])
  | false :: ms, r :: rs, ρ => match rd r ρ, prep ms rs ρ with
    | some d, some (ds, bs, os) => some (d :: ds, (match r with
      | .slot i => if isOwn ρ i = true then i :: bs else bs
      | _ => bs), os)
    | _, _ => none
  | true :: ms, .slot i :: rs, ρ => match ρ[i]?, prep ms rs ρ with
    | some (some (.own _ d)), some (ds, bs, os) => if os.contains i = true then none else some (d :: ds, bs, i :: os)
    | _, _ => none
  | _, _, _ => none
def okBO (bs os : List Nat) : Bool := os.all fun i => !bs.contains i
def setOwn (ρ : Dn) (i : Nat) (d : PD) : Dn :=
  match ρ[i]? with
  | some (some (.own b _)) => ρ.set i (some (.own b d))
  | _ => ρ
def setOuts : List Nat → List PD → Dn → Dn
  | i :: is, d :: ds, ρ => setOuts is ds (setOwn ρ i d)
  | _, _, ρ => ρ
def eCall (ms : List Bool) (m : List PD → FR) (fa : M (List Rv)) : M Rv := bnd fa fun rs ρ =>
  match prep ms rs ρ with
  | none => .no
  | some (ds, bs, os) => if okBO bs os = true then
      match m ds with
      | .ok c outs => if (cleanRc (bs.any (isOwnL ρ)) (bs.any (isOwnD ρ)) c && outs.all (cleanTop (bs.any (isOwnL ρ)) (bs.any (isOwnD ρ)))) = true then .ok c.rv (setOuts os outs ρ) else .no
      | .ex e outs => if ((e.fs.map (·.2)).all (clean (bs.any (isOwnL ρ)) (bs.any (isOwnD ρ))) && outs.all (cleanTop (bs.any (isOwnL ρ)) (bs.any (isOwnD ρ)))) = true then .ex e (setOuts os outs ρ) else .no
      | .no => .no
    else .no
end DP
/-! DPY: calls of defs. -/
namespace DP
open PySem L2
def frA : List V → List Rv → List Addr
  | .ref a :: vs, .fresh _ :: rs => a :: frA vs rs
  | _ :: vs, _ :: rs => frA vs rs
  | _, _ => []
def BoA (σ : L2.St) (bs : List Nat) : AS := fun a => ∃ i ∈ bs, σ[i]? = some (some (.ref a))
inductive OsP (σ : L2.St) (ρ : Dn) : List Nat → List Addr → Prop
  | nil : OsP σ ρ [] []
  | cons {i : Nat} {p : Addr} {os : List Nat} {ps : List Addr} : σ[i]? = some (some (.ref p)) → (∃ b d, ρ[i]? = some (some (.own b d))) → i ∉ os → OsP σ ρ os ps → OsP σ ρ (i :: os) (p :: ps)
section
variable {K : PySem.W.Frag} {F : Ent} {Z : Hp} {A : AS} {H : Hp} {σ : L2.St} {ρ : Dn}
theorem OsP.mem : ∀ {os : List Nat} {ps : List Addr}, OsP σ ρ os ps → ∀ p ∈ ps, ∃ i ∈ os, σ[i]? = some (some (.ref p)) ∧ ∃ b d, ρ[i]? = some (some (.own b d))
  | _, _, .nil, p, h => nomatch h
  | _, _, .cons e o n r, p, h => by
    rcases List.mem_cons.mp h with rfl | h
    · exact ⟨_, by simp, e, o⟩
    · obtain ⟨i, hi, e', o'⟩ := OsP.mem r p h
      exact ⟨i, List.mem_cons_of_mem _ hi, e', o'⟩
theorem frA_mem : ∀ {vs : List V} {rs : List Rv}, RvRs F Z A H σ ρ vs rs → ∀ a ∈ frA vs rs, ¬ A a ∧ ¬ Ow σ ρ a ∧ F.H a = none ∧ Z a = none ∧ H a ≠ none
  | _, _, .nil, a, h => by simp [frA] at h
  | v :: _, r :: _, .cons h hs, a, ha => by
    cases r with
    | fresh d =>
      obtain ⟨p, rfl, ⟨h1, h2, h3, h4⟩, h5⟩ := h
      simp only [frA, List.mem_cons] at ha
      rcases ha with rfl | ha
      · exact ⟨h1, h2, h3, h4, h5.ne⟩
      · exact frA_mem hs a ha
    | val d => exact frA_mem hs a (by cases v <;> simpa [frA] using ha)
    | slot i => exact frA_mem hs a (by cases v <;> simpa [frA] using ha)
theorem prep_bs : ∀ {ms : List Bool} {rs : List Rv} {ds : List PD} {bs os : List Nat}, prep ms rs ρ = some (ds, bs, os) → ∀ i ∈ bs, isOwn ρ i = true
  | [], [], _, _, _, e, i, h => by simp [prep] at e; obtain ⟨_, rfl, _⟩ := e; cases h
  | [], _ :: _, _, _, _, e, i, h => by simp [prep] at e
  | false :: ms, [], _, _, _, e, i, h => by simp [prep] at e
  | true :: ms, [], _, _, _, e, i, h => by simp [prep] at e
  | false :: ms, r :: rs, ds, bs, os, e, i, h => by
    simp only [prep] at e
    cases e1 : rd r ρ with
    | none => rw [e1] at e; simp at e
    | some d =>
      rw [e1] at e
      cases e2 : prep ms rs ρ with
      | none => rw [e2] at e; simp at e
      | some q =>
        obtain ⟨ds', bs', os'⟩ := q
        rw [e2] at e
        simp only [Option.some.injEq, Prod.mk.injEq] at e
        obtain ⟨rfl, rfl, rfl⟩ := e
        have ih := prep_bs e2
        cases r with
        | val d => exact ih i h
        | fresh d => exact ih i h
        | slot j =>
          dsimp only at h
          split at h
          · rename_i ho
            rcases List.mem_cons.mp h with rfl | h
            · exact ho
            · exact ih i h
          · exact ih i h
  | true :: ms, .val _ :: rs, _, _, _, e, i, h => by simp [prep] at e
  | true :: ms, .fresh _ :: rs, _, _, _, e, i, h => by simp [prep] at e
  | true :: ms, .slot j :: rs, ds, bs, os, e, i, h => by
    simp only [prep] at e
    split at e
    · rename_i b d ds' bs' os' e1 e2
      split at e
      · cases e
      · simp only [Option.some.injEq, Prod.mk.injEq] at e
        obtain ⟨rfl, rfl, rfl⟩ := e
        exact prep_bs e2 i h
    · cases e
theorem prep_run (E : ER K F A H σ ρ) (Ac : AS) (hA : ∀ a, A a → Ac a) : ∀ {ms : List Bool} {rs : List Rv} {vs : List V} {ds : List PD} {bs os : List Nat}, RvRs F Z A H σ ρ vs rs → prep ms rs ρ = some (ds, bs, os) → (∀ a ∈ frA vs rs, Ac a) → (∀ a, BoA σ bs a → Ac a) →
    ∃ ps, OsP σ ρ os ps ∧ ((∀ p ∈ ps, ¬ Ac p) → ArgsR Ac H ms vs ds ps)
  | [], [], _, _, _, _, .nil, e, _, _ => by
    simp [prep] at e
    obtain ⟨rfl, rfl, rfl⟩ := e
    exact ⟨[], .nil, fun _ => .nil⟩
  | [], _ :: _, _, _, _, _, _, e, _, _ => by simp [prep] at e
  | false :: ms, [], _, _, _, _, _, e, _, _ => by simp [prep] at e
  | true :: ms, [], _, _, _, _, _, e, _, _ => by simp [prep] at e
  | false :: ms, r :: rs, v :: vs, ds, bs, os, .cons R Rs, e, hf, hb => by
    simp only [prep] at e
    cases e1 : rd r ρ with
    | none => rw [e1] at e; simp at e
    | some d =>
      rw [e1] at e
      cases e2 : prep ms rs ρ with
      | none => rw [e2] at e; simp at e
      | some q =>
        obtain ⟨ds', bs', os'⟩ := q
        rw [e2] at e
        simp only [Option.some.injEq, Prod.mk.injEq] at e
        obtain ⟨rfl, rfl, rfl⟩ := e
        have kp : Kp A Ac H H := ⟨hA, fun _ _ _ e => e, fun _ _ e => e⟩
        have hf' : ∀ a ∈ frA vs rs, Ac a := fun a ha => hf a (by
          cases r <;> cases v <;> simp [frA, ha])
        have hb' : ∀ a, BoA σ bs' a → Ac a := fun a ⟨i, hi, ei⟩ => hb a ⟨i, by
          cases r with
          | val d => exact hi
          | fresh d => exact hi
          | slot j => dsimp only; split <;> simp [hi], ei⟩
        obtain ⟨ps, h1, h2⟩ := prep_run E Ac hA Rs e2 hf' hb'
        refine ⟨ps, h1, fun hp => .imm ?_ (h2 hp)⟩
        cases r with
        | val d' => cases e1; exact Rp.kp kp R
        | fresh d' =>
          cases e1
          obtain ⟨p, rfl, _, o⟩ := R
          have hc : Ac p := hf p (by simp [frA])
          have hr := o.rp
          exact Rp.kp ⟨fun a z => z.elim (hA a) fun z => by subst z; exact hc, fun _ _ _ e => e, fun _ _ e => e⟩ hr
        | slot i =>
          obtain ⟨e3, s, e4⟩ := R
          simp only [rd, e4] at e1
          obtain ⟨v', e5, rr⟩ := E.slot i s e4
          rw [e3] at e5
          cases e5
          cases s with
          | imm d' => cases e1; exact Rp.kp kp rr
          | own b d' =>
            cases e1
            obtain ⟨p, rfl, n, o⟩ := rr
            have hc : Ac p := hb p ⟨i, by simp [isOwn, e4], e3⟩
            have hr := o.rp
            exact Rp.kp ⟨fun a z => z.elim (hA a) fun z => by subst z; exact hc, fun _ _ _ e => e, fun _ _ e => e⟩ hr
          | scr ns => cases e1
  | true :: ms, .val _ :: rs, _, _, _, _, _, e, _, _ => by simp [prep] at e
  | true :: ms, .fresh _ :: rs, _, _, _, _, _, e, _, _ => by simp [prep] at e
  | true :: ms, .slot j :: rs, v :: vs, ds, bs, os, .cons R Rs, e, hf, hb => by
    simp only [prep] at e
    split at e
    · rename_i b d ds' bs' os' e1 e2
      split at e
      · cases e
      · rename_i hn
        simp only [Option.some.injEq, Prod.mk.injEq] at e
        obtain ⟨rfl, rfl, rfl⟩ := e
        obtain ⟨e3, s, e4⟩ := R
        rw [e1] at e4
        cases e4
        obtain ⟨v', e5, p, rfl, n, o⟩ := E.slot j _ e1
        rw [e3] at e5
        cases e5
        have kp : Kp A Ac H H := ⟨hA, fun _ _ _ e => e, fun _ _ e => e⟩
        obtain ⟨ps, h1, h2⟩ := prep_run E Ac hA Rs e2 (fun a ha => hf a (by simpa [frA] using ha)) hb
        have hj : j ∉ os' := fun z => hn (by simpa using z)
        refine ⟨p :: ps, .cons e3 ⟨b, d, e1⟩ hj h1, fun hp => .inp (hp p (by simp)) (o.kp kp rfl) (fun hm => ?_) (h2 fun q hq => hp q (List.mem_cons_of_mem _ hq))⟩
        obtain ⟨i, hi, f1, b', d', f2⟩ := h1.mem p hm
        exact hj (by rw [E.dist j i b b' d d' p e1 f2 e3 f1]; exact hi)
    · cases e
theorem setOwn_at {i j : Nat} {d : PD} : (setOwn ρ i d)[j]? = if i = j ∧ isOwn ρ i = true then (match ρ[i]? with | some (some (.own b _)) => some (some (.own b d)) | o => o) else ρ[j]? := by
  unfold setOwn isOwn
  split
  · rename_i b d0 e
    by_cases h : i = j
    · subst h
      rw [if_pos ⟨rfl, rfl⟩]
      rw [get_set_self (List.getElem?_eq_some_iff.mp e).1]
      try rw [e]
    · rw [if_neg (fun z => h z.1), get_set_ne h]
  · rename_i h
    rw [if_neg (by intro z; simp at z)]
theorem setOwn_len {i : Nat} {d : PD} : (setOwn ρ i d).length = ρ.length := by
  unfold setOwn
  split <;> simp
end
/-- what the outs say of a slot -/
theorem setOuts_at {A : AS} {H : Hp} {σ : L2.St} : ∀ {os : List Nat} {ps : List Addr} {ρ : Dn} {outs : List PD}, OsP σ ρ os ps → OutsR A H ps outs → ∀ (j : Nat) (s : Sl), (setOuts os outs ρ)[j]? = some (some s) →
    (j ∉ os ∧ ρ[j]? = some (some s)) ∨ (∃ b d p, s = .own b d ∧ σ[j]? = some (some (.ref p)) ∧ p ∈ ps ∧ OwnObj A H p d ∧ ∃ d0, ρ[j]? = some (some (.own b d0)))
  | _, _, ρ, _, .nil, .nil, j, s, e => .inl ⟨by simp, e⟩
  | _, _, ρ, _, .cons (i := i) (p := p) (os := os) (ps := ps) e1 ⟨b, d0, e2⟩ hn r, .cons (d := d) (ds := ds) n o q, j, s, e => by
    have hs : ∀ k, k ≠ i → (setOwn ρ i d)[k]? = ρ[k]? := fun k hk => by rw [setOwn_at, if_neg fun z => hk z.1.symm]
    have hself : (setOwn ρ i d)[i]? = some (some (.own b d)) := by rw [setOwn_at, if_pos ⟨rfl, by simp [isOwn, e2]⟩, e2]
    have r' : OsP σ (setOwn ρ i d) os ps := by
      have : ∀ {os : List Nat} {ps : List Addr}, i ∉ os → OsP σ ρ os ps → OsP σ (setOwn ρ i d) os ps := by
        intro os ps hi h
        induction h with
        | nil => exact .nil
        | cons a1 a2 a3 _ ih =>
          simp only [List.mem_cons, not_or] at hi
          exact .cons a1 (by rw [hs _ (Ne.symm hi.1)]; exact a2) a3 (ih hi.2)
      exact this hn r
    simp only [setOuts] at e
    rcases setOuts_at r' q j s e with ⟨hj, h⟩ | ⟨b', d', p', h1, h2, h3, h4, d1, h5⟩
    · by_cases hij : j = i
      · subst hij
        rw [hself] at h
        cases h
        exact .inr ⟨b, d, p, rfl, e1, by simp, o, d0, e2⟩
      · rw [hs j hij] at h
        exact .inl ⟨by simp [hij, hj], h⟩
    · refine .inr ⟨b', d', p', h1, h2, List.mem_cons_of_mem _ h3, h4, ?_⟩
      by_cases hij : j = i
      · subst hij
        rw [hself] at h5
        cases h5
        exact ⟨d0, e2⟩
      · rw [hs j hij] at h5
        exact ⟨d1, h5⟩
theorem setOuts_len : ∀ {os : List Nat} {outs : List PD} {ρ : Dn}, (setOuts os outs ρ).length = ρ.length
  | [], _, _ => rfl
  | _ :: _, [], _ => rfl
  | i :: os, d :: ds, ρ => by simp only [setOuts]; rw [setOuts_len, setOwn_len]
theorem setOuts_keep : ∀ {os : List Nat} {outs : List PD} {ρ : Dn} {j : Nat} {s : Sl}, ρ[j]? = some (some s) → ∃ s', (setOuts os outs ρ)[j]? = some (some s') ∧ (∀ b d, s = .own b d → ∃ d', s' = .own b d') ∧ ((∀ b d, s ≠ .own b d) → s' = s)
  | [], _, _, _, s, e => ⟨s, e, fun b d h => ⟨d, h⟩, fun _ => rfl⟩
  | _ :: _, [], _, _, s, e => ⟨s, e, fun b d h => ⟨d, h⟩, fun _ => rfl⟩
  | i :: os, d :: ds, ρ, j, s, e => by
    simp only [setOuts]
    by_cases h : i = j ∧ isOwn ρ i = true
    · obtain ⟨rfl, ho⟩ := h
      have hown : ∃ b d0, s = .own b d0 := by
        unfold isOwn at ho
        rw [e] at ho
        cases s with
        | imm d => cases ho
        | own b d0 => exact ⟨b, d0, rfl⟩
        | scr ns => cases ho
      obtain ⟨b, d0, rfl⟩ := hown
      have e1 : (setOwn ρ i d)[i]? = some (some (.own b d)) := by rw [setOwn_at, if_pos ⟨rfl, ho⟩, e]
      obtain ⟨s', f1, f2, f3⟩ := setOuts_keep (os := os) (outs := ds) e1
      obtain ⟨d', rfl⟩ := f2 b d rfl
      exact ⟨_, f1, fun b' d'' z => by cases z; exact ⟨d', rfl⟩, fun n => absurd rfl (n b d0)⟩
    · have e1 : (setOwn ρ i d)[j]? = some (some s) := by rw [setOwn_at, if_neg h]; exact e
      exact setOuts_keep (os := os) (outs := ds) e1
section
variable {K : PySem.W.Frag} {mg : Str → Option Value} {F : Ent} {A0 A : AS} {H0 H : Hp} {σ : L2.St} {ρ0 ρ : Dn}
/-- behind a call: the state of the caller -/
theorem after_call {Ac A' : AS} {H' : Hp} {vs : List V} {rs : List Rv} {bs os : List Nat} {ps : List Addr} {outs : List PD} {l k : Bool} (E : ER K F A H σ ρ) (S : Step A0 H0 σ ρ0 A H ρ) (R : RvRs F H0 A H σ ρ vs rs) (hbs : ∀ i ∈ bs, isOwn ρ i = true)
    (hAc : ∀ a, Ac a ↔ (A a ∨ a ∈ frA vs rs ∨ BoA σ bs a)) (ho : OsP σ ρ os ps) (hok : okBO bs os = true) (hl : l = bs.any (isOwnL ρ)) (hk : k = bs.any (isOwnD ρ)) (fr : FrameF Ac H ps A' H') (out : OutsR A' H' ps outs) (hc : outs.all (cleanTop l k) = true) :
    ER K F (less A' (BoA σ bs)) H' σ (setOuts os outs ρ) ∧ Step A0 H0 σ ρ0 (less A' (BoA σ bs)) H' (setOuts os outs ρ) ∧ Bad (BoA σ bs) H' l k ∧ (∀ p, Ow σ (setOuts os outs ρ) p → Ow σ ρ p) := by
  have bow : ∀ a, BoA σ bs a → ∃ i b d, i ∈ bs ∧ ρ[i]? = some (some (.own b d)) ∧ σ[i]? = some (some (.ref a)) := fun a ⟨i, hi, e⟩ => by
    have := hbs i hi
    unfold isOwn at this
    split at this
    · rename_i b d e2; exact ⟨i, b, d, hi, e2, e⟩
    · cases this
  have pow : ∀ p ∈ ps, ∃ i b d, i ∈ os ∧ ρ[i]? = some (some (.own b d)) ∧ σ[i]? = some (some (.ref p)) := fun p hp => by
    obtain ⟨i, hi, e, b, d, e2⟩ := ho.mem p hp
    exact ⟨i, b, d, hi, e2, e⟩
  have bnp : ∀ a, BoA σ bs a → a ∉ ps := fun a hb hp => by
    obtain ⟨i, b, d, hi, e1, e2⟩ := bow a hb
    obtain ⟨j, b', d', hj, f1, f2⟩ := pow a hp
    have := E.dist i j b b' d d' a e1 f1 e2 f2
    subst this
    have := List.all_eq_true.mp hok i hj
    simp [hi] at this
  have ownNotA' : ∀ {i : Nat} {b : Bool} {d : PD} {p : Addr}, ρ[i]? = some (some (.own b d)) → σ[i]? = some (some (.ref p)) → ¬ less A' (BoA σ bs) p := fun {i b d p} e1 e2 ⟨z, nb⟩ => by
    obtain ⟨h1, h2⟩ := E.ow ⟨i, b, d, e1, e2⟩
    rcases fr.grow p z with q | q
    · rcases (hAc p).mp q with q | q | q
      · exact h1 q
      · exact (frA_mem R p q).2.1 ⟨i, b, d, e1, e2⟩
      · exact nb q
    · rw [q] at h2; exact h2
  have kp : Kp A (less A' (BoA σ bs)) H H' := by
    refine ⟨fun a ha => ⟨fr.mono a ((hAc a).mpr (.inl ha)), fun hb => ?_⟩, fun a o ha e => fr.kp a o e fun hp => ?_, fun a xs e => fr.kp a _ e fun hp => ?_⟩
    · obtain ⟨i, b, d, _, e1, e2⟩ := bow a hb
      exact (E.ow ⟨i, b, d, e1, e2⟩).1 ha
    · obtain ⟨i, b, d, _, e1, e2⟩ := pow a hp
      exact (E.ow ⟨i, b, d, e1, e2⟩).1 ha
    · obtain ⟨i, b, d, _, e1, e2⟩ := pow a hp
      have := (E.ow ⟨i, b, d, e1, e2⟩).2
      rw [e] at this
      exact this
  have bad : Bad (BoA σ bs) H' l k := fun a hb => by
    obtain ⟨i, b, d, hi, e1, e2⟩ := bow a hb
    obtain ⟨v, e3, p, rfl, n, o⟩ := E.slot i _ e1
    rw [e2] at e3
    cases e3
    cases d with
    | list ds =>
      obtain ⟨xs, ex, _⟩ := o
      refine .inl ⟨?_, xs, fr.kp _ _ ex (bnp _ hb)⟩
      rw [hl]
      exact List.any_eq_true.mpr ⟨i, hi, by simp [isOwnL, e1]⟩
    | dict ds =>
      obtain ⟨xs, ex, _⟩ := o
      refine .inr ⟨?_, xs, fr.kp _ _ ex (bnp _ hb)⟩
      rw [hk]
      exact List.any_eq_true.mpr ⟨i, hi, by simp [isOwnD, e1]⟩
    | none => exact o.elim
    | bool _ => exact o.elim
    | int _ => exact o.elim
    | str _ => exact o.elim
    | tuple _ => exact o.elim
  have outc : ∀ {ps : List Addr} {outs : List PD}, OutsR A' H' ps outs → outs.all (cleanTop l k) = true → OutsR (less A' (BoA σ bs)) H' ps outs := by
    intro ps outs h
    induction h with
    | nil => intro _; exact .nil
    | cons n o _ ih =>
      intro hc
      simp only [List.all_cons, Bool.and_eq_true] at hc
      exact .cons (fun z => n z.1) (o.less bad hc.1) (ih hc.2)
  have out' := outc out hc
  have keepS : ∀ {b : Addr} {o : HO}, H b = some o → ¬ isLD (some o) → H' b = some o := fun {b o} e n => fr.kp b o e fun hp => by
    obtain ⟨i, bb, d, _, e1, e2⟩ := pow b hp
    have := (E.ow ⟨i, bb, d, e1, e2⟩).2
    rw [e] at this
    exact n this
  have osub : ∀ p, Ow σ (setOuts os outs ρ) p → Ow σ ρ p := fun p ⟨i, b, d, e1, e2⟩ => by
    rcases setOuts_at ho out' i _ e1 with ⟨_, h⟩ | ⟨b', d', q, h1, h2, h3, h4, d0, h5⟩
    · exact ⟨i, b, d, h, e2⟩
    · exact ⟨i, b', d0, h5, e2⟩
  refine ⟨⟨by rw [setOuts_len, E.len], fun i s e => ?_, fun i j b b' d d' p e1 e2 e3 e4 => ?_, fun a ha => fr.dom a ha.1, fun b o e n => ?_, fun a ha => kp.sub a (E.mono a ha), fun a ha => ?_, fun i b d p e1 e2 => ?_, fun p hp => ?_, fun q hq => ?_⟩, ⟨fun b o e n => ?_, fun a ha => kp.sub a (S.mono a ha), fun a ha => ?_, fun p h => S.sub p (osub p h), fun i s e => ?_, fun b e => S.live b (fr.live b e), by rw [setOuts_len, S.len]⟩, bad, osub⟩
  · rcases setOuts_at ho out' i s e with ⟨hi, h⟩ | ⟨b, d, p, rfl, h2, h3, h4, d0, h5⟩
    · obtain ⟨v, e1, r⟩ := E.slot i s h
      refine ⟨v, e1, ?_⟩
      cases s with
      | imm d => exact Rp.kp kp r
      | own b d =>
        obtain ⟨p, rfl, n, o⟩ := r
        refine ⟨p, rfl, ownNotA' h e1, o.kp kp ?_⟩
        cases ep : H p with
        | none => exact absurd ep o.ne
        | some ob =>
          refine fr.kp p ob ep fun hp => ?_
          obtain ⟨j, b', d', hj, f1, f2⟩ := pow p hp
          have := E.dist i j b b' d d' p h f1 e1 f2
          subst this
          exact hi hj
      | scr ns =>
        obtain ⟨p, rfl, q⟩ := r
        exact ⟨p, rfl, q.kp fun o u z => keepS z fun z => z⟩
    · exact ⟨.ref p, h2, p, rfl, ownNotA' h5 h2, h4⟩
  · rcases setOuts_at ho out' i _ e1 with ⟨_, h⟩ | ⟨b1, d1, q1, _, _, _, _, d0, h⟩
    · rcases setOuts_at ho out' j _ e2 with ⟨_, g⟩ | ⟨b2, d2, q2, _, _, _, _, d3, g⟩
      · exact E.dist i j _ _ _ _ p h g e3 e4
      · exact E.dist i j _ _ _ _ p h g e3 e4
    · rcases setOuts_at ho out' j _ e2 with ⟨_, g⟩ | ⟨b2, d2, q2, _, _, _, _, d3, g⟩
      · exact E.dist i j _ _ _ _ p h g e3 e4
      · exact E.dist i j _ _ _ _ p h g e3 e4
  · refine fr.kp b o (E.kp b o e n) fun hp => ?_
    obtain ⟨i, bb, d, _, e1, e2⟩ := pow b hp
    have := E.ownF i bb d b e1 e2
    cases bb with
    | true => exact n (by simpa using this)
    | false => rw [if_neg (by simp)] at this; rw [this] at e; cases e
  · obtain ⟨z, nb⟩ := ha
    rcases fr.grow a z with q | q
    · rcases (hAc a).mp q with q | q | q
      · exact E.grow a q
      · exact .inr (frA_mem R a q).2.2.1
      · exact absurd q nb
    · exact .inr (E.fnone q)
  · rcases setOuts_at ho out' i _ e1 with ⟨_, h⟩ | ⟨b', d', q, h1, h2, h3, h4, d0, h5⟩
    · exact E.ownF i b d p h e2
    · cases h1
      exact E.ownF i b d0 p h5 e2
  · obtain ⟨q, hq, rfl⟩ := hp
    obtain ⟨e1, d, e2⟩ := E.ins q hq
    exact ownNotA' e2 e1
  · obtain ⟨e1, d, e2⟩ := E.ins q hq
    obtain ⟨s', f1, f2, _⟩ := setOuts_keep (os := os) (outs := outs) e2
    obtain ⟨d', rfl⟩ := f2 true d rfl
    exact ⟨e1, d', f1⟩
  · refine fr.kp b o (S.kp b o e n) fun hp => n (S.sub b ?_)
    obtain ⟨i, bb, d, _, e1, e2⟩ := pow b hp
    exact ⟨i, bb, d, e1, e2⟩
  · obtain ⟨z, nb⟩ := ha
    rcases fr.grow a z with q | q
    · rcases (hAc a).mp q with q | q | q
      · exact S.grow a q
      · exact .inr (.inl (frA_mem R a q).2.2.2.1)
      · exact absurd q nb
    · exact .inr (.inl (S.live a q))
  · obtain ⟨s1, e1⟩ := S.def_ i s e
    obtain ⟨s2, e2, _⟩ := setOuts_keep (os := os) (outs := outs) e1
    exact ⟨s2, e2⟩
end
section
variable {X : Cx} {W : WX} {CX : CXT} {k : Nat} {f : Addr} {fd : FuncData} {ps : List Str} {x : Str} {p pos : Pos} {e : Expr} {es : List Expr} {fs : M (List Rv)} {ms : List Bool} {m : List PD → FR}
/-- what a call asks, by its arguments -/
theorem call_run {t : TA} (ha : ∀ F A H σ ρ, ER X.K F A H σ ρ → ∀ Q : List V → Hp → Prop, Pst X.K X.mg W F A H σ ρ (RA F H σ) Q (fs ρ) → t σ H Q) :
    ∀ F A H σ ρ, ER X.K F A H σ ρ → ∀ Q : VK, Pst X.K X.mg W F A H σ ρ (RE F H σ) Q (eCall ms m fs ρ) → t σ H (fun vs H1 => spD X.mg ms m vs H1 Q fun cls d H' => W cls d σ H') := by
  intro F A H σ ρ E Q h
  refine ha F A H σ ρ E _ (h.split fun rs ρ1 A1 H1 vs E1 S1 R1 h1 => ?_)
  cases ep : prep ms rs ρ1 with
  | none => simp only [ep] at h1; exact h1.elim
  | some q =>
    obtain ⟨ds, bs, os⟩ := q
    simp only [ep] at h1
    by_cases hok : okBO bs os = true
    case neg => rw [if_neg hok] at h1; exact h1.elim
    rw [if_pos hok] at h1
    have hbs := prep_bs ep
    generalize hAc : (fun a => A1 a ∨ a ∈ frA vs rs ∨ BoA σ bs a : AS) = Ac
    have hAc' : ∀ a, Ac a ↔ (A1 a ∨ a ∈ frA vs rs ∨ BoA σ bs a) := fun a => by rw [← hAc]
    obtain ⟨qs, ho, hargs⟩ := prep_run E1 Ac (fun a h => (hAc' a).mpr (.inl h)) R1 ep (fun a h => (hAc' a).mpr (.inr (.inl h))) fun a h => (hAc' a).mpr (.inr (.inr h))
    have hdom : ∀ a, Ac a → H1 a ≠ none := fun a h => by
      rcases (hAc' a).mp h with h | h | ⟨i, hi, e⟩
      · exact E1.dom a h
      · exact (frA_mem R1 a h).2.2.2.2
      · have := hbs i hi
        unfold isOwn at this
        split at this
        · rename_i b d e2
          intro z
          have q := (E1.ow ⟨i, b, d, e2, e⟩).2
          rw [z] at q
          exact q
        · cases this
    have hqs : ∀ p ∈ qs, ¬ Ac p := fun p hp z => by
      obtain ⟨i, hi, e1, b, d, e2⟩ := ho.mem p hp
      rcases (hAc' p).mp z with z | z | ⟨j, hj, f⟩
      · exact (E1.ow ⟨i, b, d, e2, e1⟩).1 z
      · exact (frA_mem R1 p z).2.1 ⟨i, b, d, e2, e1⟩
      · have := hbs j hj
        unfold isOwn at this
        split at this
        · rename_i b' d' f2
          have := E1.dist i j b b' d d' p e2 f2 e1 f
          subst this
          have := List.all_eq_true.mp hok i hi
          simp [hj] at this
        · cases this
    refine ⟨Ac, ds, qs, hdom, hargs hqs, ?_⟩
    cases em : m ds with
    | no => rw [em] at h1; exact h1.elim
    | ok c outs =>
      rw [em] at h1
      dsimp only at h1
      split at h1
      · rename_i hc
        simp only [Bool.and_eq_true] at hc
        intro A' H' v fr out res
        obtain ⟨E2, S2, bad, osub⟩ := after_call E1 S1 R1 hbs hAc' ho hok rfl rfl fr out hc.2
        refine h1 _ H' v E2 S2 ?_
        cases c with
        | val d => exact Rp.less bad res hc.1
        | fresh d =>
          obtain ⟨p, rfl, n, hn, o⟩ := res
          exact ⟨p, rfl, ⟨fun z => n z.1, fun z => E1.owne hn (osub p z), E1.fnone hn, S1.live p hn⟩, o.less bad hc.1⟩
      · exact h1.elim
    | ex x outs =>
      rw [em] at h1
      dsimp only at h1
      split at h1
      · rename_i hc
        simp only [Bool.and_eq_true] at hc
        intro A' H' cls d fr out xr
        obtain ⟨E2, S2, bad, osub⟩ := after_call E1 S1 R1 hbs hAc' ho hok rfl rfl fr out hc.2
        refine h1 _ H' cls d E2 S2 ?_
        obtain ⟨C, h2, h3, h4⟩ := xr
        refine ⟨C, h2, h3, h4.imp id ?_⟩
        rintro ⟨da, fs, g1, g2, g3, g4⟩
        refine ⟨da, fs, g1, g2, g3, g4.less bad ?_⟩
        have : ∀ l : List PD, l.all (clean (bs.any (isOwnL ρ1)) (bs.any (isOwnD ρ1))) = true → cleanAll (bs.any (isOwnL ρ1)) (bs.any (isOwnD ρ1)) l = true := by
          intro l
          induction l with
          | nil => intro _; simp [cleanAll]
          | cons a l ih => intro h; simp only [List.all_cons, Bool.and_eq_true] at h; simp only [cleanAll, Bool.and_eq_true]; exact ⟨h.1, ih h.2⟩
        exact this _ hc.1
      · exact h1.elim
theorem sim_call (F : FnOk X.prog X.w X.K X.mg X.base CX k f fd ps (spD X.mg ms m)) (hr : Room k X.A) (hg : Gl X x) (hm : X.mg x = some (.ref f)) (hk : PySem.W.keepIn X.K (.ref f) = true) (hb : Binds X.K fd ps []) (hx : ∀ σ, PassesAt CX X σ (fun cls d H => W cls d σ H)) (ha : SimA X W (e :: es) fs)
    (hdb : (x == ("__debug__" : Str)) = false := by decide) (he : starEach (e :: es) X.env = (false, eval e X.env) :: starEach es X.env := by rfl) (hpl : (backTo pos (starEach es X.env)).any (·.1) = false := by rfl) : SimE X W (.Call (.Name x p) (e :: es) [] pos) (eCall ms m fs) := by
  obtain ⟨t, pa, ha⟩ := ha
  exact ⟨_, pe_callS (E := fun σ cls d H => W cls d σ H) F hr hg hm hk hb hx pa hdb he hpl, call_run ha⟩
theorem pass0S (σ : L2.St) (E : XK) : PassesAt CX0 X σ E := fun _ _ _ _ _ _ h => h.elim
end
end DP
/-! DPO: the operations. -/
namespace DP
open PySem L2
section
variable {A : AS} {H H' : Hp} {v : V} {d : PD}
theorem nr_val (r : Rp A H v d) : NewR A H H v (.val d) := ⟨fun _ _ e => e, r⟩
theorem new_ext {p : Addr} {o : HO} (hp : H p = none) : ∀ b u, H b = some u → upd H p o b = some u := fun b u e => by rw [upd_ne (ne_of_none e hp)]; exact e
theorem nr_tup {p : Addr} {xs : List V} {ds : List PD} (hp : H p = none) (r : RpAll A H xs ds) : NewR A H (upd H p (.tup xs)) (.ref p) (.val (.tuple ds)) := ⟨new_ext hp, .tup upd_same (r.kp (Kp.ext (new_ext hp)))⟩
theorem nr_lst {p : Addr} {xs : List V} {ds : List PD} (hp : H p = none) (r : RpAll A H xs ds) : NewR A H (upd H p (.lst xs)) (.ref p) (.fresh (.list ds)) := ⟨new_ext hp, p, rfl, hp, xs, upd_same, r.kp (Kp.ext (new_ext hp))⟩
end
theorem Op2.or {r r' : R2} {g g' : PD → PD → Option Rc} (h : Op2 r g) (h' : Op2 r' g') : Op2 (fun x y H Q => r x y H Q ∨ r' x y H Q) (fun a b => match g a b with | some c => some c | none => g' a b) := by
  refine ⟨fun A H x y d1 d2 c Q hd hx hy e q => ?_⟩
  cases e1 : g d1 d2 with
  | some c' =>
    rw [e1] at e
    cases e
    exact .inl (h.run A H x y d1 d2 c Q hd hx hy e1 q)
  | none =>
    rw [e1] at e
    exact .inr (h'.run A H x y d1 d2 c Q hd hx hy e q)
/-! ints -/
def gI (C : Int → Int → Bool) (f : Int → Int → PD) : PD → PD → Option Rc
  | .int i, .int j => if C i j = true then some (.val (f i j)) else none
  | _, _ => none
def scV : PD → V
  | .bool b => .bl b
  | .int i => .int i
  | .str x => .str x
  | _ => .non
def isSc : PD → Bool
  | .none | .bool _ | .int _ | .str _ => true
  | _ => false
theorem rp_sc {A : AS} {H : Hp} : ∀ {d : PD}, isSc d = true → Rp A H (scV d) d
  | .none, _ => .non
  | .bool b, _ => .bl b
  | .int i, _ => .int i
  | .str x, _ => .str x
  | .list _, h => nomatch h
  | .tuple _, h => nomatch h
  | .dict _, h => nomatch h
theorem gI_eq {C : Int → Int → Bool} {f : Int → Int → PD} {d1 d2 : PD} {c : Rc} (h : gI C f d1 d2 = some c) : ∃ i j, d1 = .int i ∧ d2 = .int j ∧ C i j = true ∧ c = .val (f i j) := by
  unfold gI at h
  split at h
  · rename_i i j
    split at h
    · rename_i hc
      cases h
      exact ⟨i, j, rfl, rfl, hc, rfl⟩
    · cases h
  · cases h
theorem op_rI {C : Int → Int → Prop} {B : Int → Int → Bool} {f : Int → Int → PD} (hB : ∀ i j, B i j = true → C i j) (hs : ∀ i j, isSc (f i j) = true) : Op2 (rI C fun i j => scV (f i j)) (gI B f) :=
  ⟨fun A H x y d1 d2 c Q _ hx hy e q => by
    obtain ⟨i, j, rfl, rfl, hc, rfl⟩ := gI_eq e
    exact ⟨i, j, hx.int, hy.int, hB i j hc, q _ _ (nr_val (rp_sc (hs i j)))⟩⟩
theorem op_rI0 {f : Int → Int → PD} (hs : ∀ i j, isSc (f i j) = true) : Op2 (rI0 fun i j => scV (f i j)) (gI (fun _ _ => true) f) :=
  ⟨fun A H x y d1 d2 c Q _ hx hy e q => by
    obtain ⟨i, j, rfl, rfl, hc, rfl⟩ := gI_eq e
    exact ⟨i, j, hx.int, hy.int, q _ _ (nr_val (rp_sc (hs i j)))⟩⟩
abbrev yesB : Int → Int → Bool := fun _ _ => true
def gAddI := gI yesB fun i j => .int (i + j)
def gSub := gI yesB fun i j => .int (i - j)
def mulOk (i j : Int) : Bool := decide (-(2 ^ 64) < i ∧ i < 2 ^ 64) || decide (-(2 ^ 64) < j ∧ j < 2 ^ 64)
def gMulI := gI mulOk fun i j => .int (i * j)
def divOk (_ j : Int) : Bool := decide (0 < j ∧ j < 2 ^ 200)
def gFdiv := gI divOk fun i j => .int (i / j)
def gMod := gI (fun _ j => decide (0 < j)) fun i j => .int (i % j)
def powOk (i j : Int) : Bool := decide (0 ≤ j ∧ j ≤ 1000000) && decide (i.natAbs < 2 ^ 64)
def gPow := gI powOk fun i j => .int (i ^ j.toNat)
def gShl := gI powOk fun i j => .int (i * 2 ^ j.toNat)
def gLt := gI yesB fun i j => .bool (decide (i < j))
def gLe := gI yesB fun i j => .bool (decide (i ≤ j))
def gGt := gI yesB fun i j => .bool (decide (j < i))
def gGe := gI yesB fun i j => .bool (decide (j ≤ i))
theorem o2_addI : Op2 (rI0 fun i j => .int (i + j)) gAddI := op_rI0 (f := fun i j => .int (i + j)) fun _ _ => rfl
theorem o2_sub : Op2 (rI0 fun i j => .int (i - j)) gSub := op_rI0 (f := fun i j => .int (i - j)) fun _ _ => rfl
theorem o2_mulI : Op2 (rI CMul fun i j => .int (i * j)) gMulI := op_rI (C := CMul) (B := mulOk) (f := fun i j => .int (i * j)) (fun i j h => by
  simp only [mulOk, Bool.or_eq_true, decide_eq_true_eq] at h
  exact h) fun _ _ => rfl
theorem o2_fdiv : Op2 (rI CDivW fun i j => .int (i / j)) gFdiv := op_rI (C := CDivW) (B := divOk) (f := fun i j => .int (i / j)) (fun i j h => by
  have h' := of_decide_eq_true h
  exact wide_div (b := 200) h'.1 (by omega) (by decide) (by decide)) fun _ _ => rfl
theorem o2_mod : Op2 (rI (fun _ j => 0 < j) fun i j => .int (i % j)) gMod := op_rI (C := fun _ j => 0 < j) (B := fun _ j => decide (0 < j)) (f := fun i j => .int (i % j)) (fun i j h => of_decide_eq_true h) fun _ _ => rfl
theorem o2_pow : Op2 (rI CPow fun i j => .int (i ^ j.toNat)) gPow := op_rI (C := CPow) (B := powOk) (f := fun i j => .int (i ^ j.toNat)) (fun i j h => by
  simp only [powOk, Bool.and_eq_true, decide_eq_true_eq] at h
  exact ⟨h.1.1, h.1.2, h.2⟩) fun _ _ => rfl
theorem o2_shl : Op2 (rI CPow fun i j => .int (i * 2 ^ j.toNat)) gShl := op_rI (C := CPow) (B := powOk) (f := fun i j => .int (i * 2 ^ j.toNat)) (fun i j h => by
  simp only [powOk, Bool.and_eq_true, decide_eq_true_eq] at h
  exact ⟨h.1.1, h.1.2, h.2⟩) fun _ _ => rfl
theorem o2_lt : Op2 (rI0 fun i j => .bl (decide (i < j))) gLt := op_rI0 (f := fun i j => .bool (decide (i < j))) fun _ _ => rfl
theorem o2_le : Op2 (rI0 fun i j => .bl (decide (i ≤ j))) gLe := op_rI0 (f := fun i j => .bool (decide (i ≤ j))) fun _ _ => rfl
theorem o2_gt : Op2 (rI0 fun i j => .bl (decide (j < i))) gGt := op_rI0 (f := fun i j => .bool (decide (j < i))) fun _ _ => rfl
theorem o2_ge : Op2 (rI0 fun i j => .bl (decide (j ≤ i))) gGe := op_rI0 (f := fun i j => .bool (decide (j ≤ i))) fun _ _ => rfl
/-! lists, tuples -/
def gCat : PD → PD → Option Rc
  | .list xs, .list ys => if smallL (xs.length + ys.length) = true then some (.fresh (.list (xs ++ ys))) else none
  | _, _ => none
theorem o2_cat : Op2 rCat gCat := ⟨fun A H x y d1 d2 c Q _ hx hy e q => by
  unfold gCat at e
  split at e
  · rename_i xs ys
    split at e
    · rename_i hz
      cases e
      obtain ⟨l, us, rfl, h1, r1⟩ := hx.list
      obtain ⟨b, ws, rfl, h2, r2⟩ := hy.list
      exact ⟨l, b, us, ws, rfl, rfl, h1, h2, by rw [r1.length, r2.length]; exact smallL_le hz, fun p hp => q _ _ (nr_lst hp (r1.append r2))⟩
    · cases e
  · cases e⟩
def gCatT : PD → PD → Option Rc
  | .tuple xs, .tuple ys => if smallL (xs.length + ys.length) = true then some (.val (.tuple (xs ++ ys))) else none
  | _, _ => none
theorem RpAll.nilD {A : AS} {H : Hp} {xs : List V} (h : RpAll A H xs []) : xs = [] := by cases h; rfl
theorem RpAll.nilV {A : AS} {H : Hp} {ds : List PD} (h : RpAll A H [] ds) : ds = [] := by cases h; rfl
theorem o2_catT (K : PySem.W.Frag) : Op2 (rCatA K) gCatT := ⟨fun A H x y d1 d2 c Q _ hx hy e q => by
  unfold gCatT at e
  split at e
  · rename_i xs ys
    split at e
    · rename_i hz
      cases e
      obtain ⟨l, us, rfl, h1, r1⟩ := hx.tup
      obtain ⟨b, ws, rfl, h2, r2⟩ := hy.tup
      refine ⟨l, b, us, ws, rfl, rfl, SqT.of h1, SqT.of h2, by rw [r1.length, r2.length]; exact smallL_le hz, fun h => ?_, fun _ h => ?_, fun _ _ p hp => q _ _ (nr_tup hp (r1.append r2))⟩
      · subst h
        have := r1.nilV
        subst this
        exact q _ _ (nr_val (.tup h2 r2))
      · subst h
        have := r2.nilV
        subst this
        rw [List.append_nil] at q
        exact q _ _ (nr_val (.tup h1 r1))
    · cases e
  · cases e⟩
def gCatS : PD → PD → Option Rc
  | .str x, .str y => if smallL (x.length + y.length) = true then some (.val (.str (x ++ y))) else none
  | _, _ => none
theorem o2_catS : Op2 (fun x y H Q => ∃ i j, x = .str i ∧ y = .str j ∧ i.length + j.length ≤ sizeLine ∧ Q (.str (i ++ j)) H) gCatS := ⟨fun A H x y d1 d2 c Q _ hx hy e q => by
  unfold gCatS at e
  split at e
  · split at e
    · rename_i hz
      cases e
      exact ⟨_, _, hx.str, hy.str, smallL_le hz, q _ _ (nr_val (.str _))⟩
    · cases e
  · cases e⟩
/-- a + b -/
def gAdd : PD → PD → Option Rc
  | .int i, .int j => some (.val (.int (i + j)))
  | .list xs, .list ys => if smallL (xs.length + ys.length) = true then some (.fresh (.list (xs ++ ys))) else none
  | .tuple xs, .tuple ys => if smallL (xs.length + ys.length) = true then some (.val (.tuple (xs ++ ys))) else none
  | .str x, .str y => if smallL (x.length + y.length) = true then some (.val (.str (x ++ y))) else none
  | _, _ => none
theorem Op2.imp {r : R2} {g g' : PD → PD → Option Rc} (h : Op2 r g) (e : ∀ a b c, g' a b = some c → g a b = some c) : Op2 r g' := ⟨fun A H x y d1 d2 c Q hd hx hy e1 q => h.run A H x y d1 d2 c Q hd hx hy (e _ _ _ e1) q⟩
def rAddAll (K : PySem.W.Frag) : R2 := fun x y H Q => (rI0 (fun i j => .int (i + j)) x y H Q) ∨ (rCat x y H Q ∨ (rCatA K x y H Q ∨ (∃ i j, x = .str i ∧ y = .str j ∧ i.length + j.length ≤ sizeLine ∧ Q (.str (i ++ j)) H)))
theorem or_add {X : Cx} : OpR X (binaryOp .Add) (rAddAll X.K) := op_add.or (op_cat.or (op_catA.or op_add_str))
theorem o2_add (K : PySem.W.Frag) : Op2 (rAddAll K) gAdd := (o2_addI.or (o2_cat.or ((o2_catT K).or o2_catS))).imp fun a b c h => by
  unfold gAdd at h
  split at h
  · cases h; rfl
  · simp only [gAddI, gI, gCat]; rw [h]
  · simp only [gAddI, gI, gCat, gCatT]; rw [h]
  · simp only [gAddI, gI, gCat, gCatT, gCatS]; exact h
  · cases h
/-! == -/
mutual
theorem Rp.dp {K : PySem.W.Frag} {A : AS} {H : Hp} : ∀ {v : V} {d : PD}, Rp A H v d → d.canLay0 = true → Dp K H v d
  | _, _, .non, _ => .non
  | _, _, .bl b, _ => .bl b
  | _, _, .int i, _ => .int i
  | _, _, .str x, _ => .str x
  | _, _, .lst _ h r, c => .lst (SqL.of h) (RpAll.dp r (by simpa [PyData.canLay0] using c))
  | _, _, .tup h r, c => .tup (SqT.of h) (RpAll.dp r (by simpa [PyData.canLay0] using c))
  | _, _, .dic _ _ _, c => by simp [PyData.canLay0] at c
theorem RpAll.dp {K : PySem.W.Frag} {A : AS} {H : Hp} : ∀ {v : List V} {d : List PD}, RpAll A H v d → PyData.canLayAll0 d = true → DpAll K H v d
  | _, _, .nil, _ => .nil
  | _, _, .cons r h, c => by
    simp only [PyData.canLayAll0, Bool.and_eq_true] at c
    exact .cons (Rp.dp r c.1) (RpAll.dp h c.2)
end
theorem Rt.dp {K : PySem.W.Frag} {A : AS} {H : Hp} {v : V} {d : PD} (h : Rt A H v d) (c : d.canLay0 = true) : Dp K H v d := by
  rcases h with h | ⟨p, rfl, o⟩
  · exact h.dp c
  · cases d <;> simp only [OwnObj] at o
    · obtain ⟨xs, e, r⟩ := o
      exact .lst (SqL.of e) (r.dp (by simpa [PyData.canLay0] using c))
    · simp [PyData.canLay0] at c
def gEq (neg : Bool) : PD → PD → Option Rc := fun d e => if (SeqAt.shaped d && SeqAt.shaped e) = true then some (.val (.bool (if neg = true then !PyData.eqv d e else PyData.eqv d e))) else none
theorem o2_eq (K : PySem.W.Frag) : Op2 (rEqD K) (gEq false) := ⟨fun A H x y d1 d2 c Q _ hx hy e q => by
  unfold gEq at e
  split at e
  · rename_i h
    cases e
    simp only [Bool.and_eq_true] at h
    exact ⟨d1, d2, hx.dp (SeqAt.canLay_of_shaped h.1), hy.dp (SeqAt.canLay_of_shaped h.2), h.1, h.2, q _ _ (nr_val (.bl _))⟩
  · cases e⟩
theorem o2_ne (K : PySem.W.Frag) : Op2 (rNeD K) (gEq true) := ⟨fun A H x y d1 d2 c Q _ hx hy e q => by
  unfold gEq at e
  split at e
  · rename_i h
    cases e
    simp only [Bool.and_eq_true] at h
    exact ⟨d1, d2, hx.dp (SeqAt.canLay_of_shaped h.1), hy.dp (SeqAt.canLay_of_shaped h.2), h.1, h.2, q _ _ (nr_val (.bl _))⟩
  · cases e⟩
/-! x in xs -/
def keyD : PD → Option Key
  | .int i => some (.inl i)
  | .str x => some (.inr x)
  | _ => none
def keyIsD (k : Key) : PD → Bool
  | .int i => match k with
    | .inl j => decide (i = j)
    | _ => false
  | .str x => match k with
    | .inr y => decide (x = y)
    | _ => false
  | _ => false
/-- d[k] -/
def look (k : Key) : List (PD × PD) → Option PD
  | [] => none
  | (q, d) :: r => if keyIsD k q = true then some d else look k r
theorem keyIsD_kD (k q : Key) : keyIsD k (kD q) = decide (q = k) := by
  cases q <;> cases k <;> simp [kD, keyIsD]
theorem look_valV {A : AS} {H : Hp} {k : Key} : ∀ {kvs : List (Key × V)} {ds : List (PD × PD)}, RpKV A H kvs ds → (look k ds = none ∧ valV kvs k = none) ∨ (∃ d v, look k ds = some d ∧ valV kvs k = some v ∧ Rp A H v d)
  | _, _, .nil => .inl ⟨rfl, rfl⟩
  | _, _, .cons (k := q) (v := v) (d := d) r h => by
    simp only [look, keyIsD_kD]
    by_cases e : q = k
    · right
      exact ⟨d, v, by simp [e], valV_pos e, r⟩
    · rw [valV_neg e]
      rcases look_valV h with ⟨h1, h2⟩ | ⟨d', v', h1, h2, h3⟩
      · left; exact ⟨by simp [e, h1], h2⟩
      · right; exact ⟨d', v', by simp [e, h1], h2, h3⟩
def gIn (neg : Bool) : PD → PD → Option Rc
  | d, .list ds => if (SeqAt.shaped d && SeqAt.shaped (.list ds)) = true then some (.val (.bool (if neg = true then !(ds.any fun z => PyData.eqv z d) else ds.any fun z => PyData.eqv z d))) else none
  | d, .tuple ds => if (isSc d && ds.all isSc) = true then some (.val (.bool (if neg = true then !(ds.any fun z => PyData.eqv z d) else ds.any fun z => PyData.eqv z d))) else none
  | d, .dict kvs => match keyD d with
    | some k => some (.val (.bool (if neg = true then !(look k kvs).isSome else (look k kvs).isSome)))
    | none => none
  | _, _ => none
def rInDct : R2 := fun x y H Q => ∃ a k kvs, y = .ref a ∧ x = kV k ∧ H a = some (.dK kvs) ∧ Q (.bl (valV kvs k).isSome) H
def rNotInDct : R2 := fun x y H Q => ∃ a k kvs, y = .ref a ∧ x = kV k ∧ H a = some (.dK kvs) ∧ Q (.bl (!(valV kvs k).isSome)) H
theorem or_inDct {X : Cx} (hu : X.A.units + 1 < cLine) : OpR X (compareOp .In) rInDct := by
  intro pins s σ H x y v u Q I rx ry ⟨a, k, kvs, e1, e2, h, q⟩
  subst e1 e2
  obtain rfl : u = Value.ref a := ry
  exact d_in hu I (DGet.k h) rx fun s3 I3 => ⟨.bl _, H, I3, rfl, q⟩
theorem or_notInDct {X : Cx} (hu : X.A.units + 1 < cLine) : OpR X (compareOp .NotIn) rNotInDct := by
  intro pins s σ H x y v u Q I rx ry ⟨a, k, kvs, e1, e2, h, q⟩
  subst e1 e2
  obtain rfl : u = Value.ref a := ry
  exact d_notIn hu I (DGet.k h) rx fun s3 I3 => ⟨.bl _, H, I3, rfl, q⟩
theorem sc_flat {A : AS} {H : Hp} {v : V} {d : PD} (h : Rt A H v d) (s : isSc d = true) : v = scV d ∧ flatV v = true := by
  cases d with
  | none => rw [h.none]; exact ⟨rfl, rfl⟩
  | bool b => rw [h.bool]; exact ⟨rfl, rfl⟩
  | int b => rw [h.int]; exact ⟨rfl, rfl⟩
  | str b => rw [h.str]; exact ⟨rfl, rfl⟩
  | list _ => cases s
  | tuple _ => cases s
  | dict _ => cases s
theorem eqV_sc : ∀ {d e : PD}, isSc d = true → isSc e = true → eqV (scV d) (scV e) = PyData.eqv d e := by
  intro d e hd he
  cases d <;> cases e <;> simp_all [isSc, scV, eqV, PyData.eqv]
theorem inV_sc {A : AS} {H : Hp} {d : PD} (hd : isSc d = true) : ∀ {vs : List V} {ds : List PD}, RpAll A H vs ds → ds.all isSc = true → inV (scV d) vs = (ds.any fun z => PyData.eqv z d) ∧ vs.all flatV = true
  | _, _, .nil, _ => ⟨rfl, rfl⟩
  | _, _, .cons r h, s => by
    simp only [List.all_cons, Bool.and_eq_true] at s
    obtain ⟨h1, h2⟩ := inV_sc hd h s.2
    obtain ⟨e, f⟩ := sc_flat (.inl r) s.1
    refine ⟨?_, by simp only [List.all_cons, f, h2, Bool.and_self]⟩
    unfold inV at h1 ⊢
    simp only [List.any_cons]
    rw [h1, e, eqV_sc s.1 hd]
def rInAll (K : PySem.W.Frag) : R2 := fun x y H Q => rInD K x y H Q ∨ (rIn K false x y H Q ∨ rInDct x y H Q)
def rNotInAll (K : PySem.W.Frag) : R2 := fun x y H Q => rNotInD K x y H Q ∨ (rIn K true x y H Q ∨ rNotInDct x y H Q)
theorem or_in {X : Cx} (hu : X.A.units + 65 < cLine) : OpR X (compareOp .In) (rInAll X.K) := (op_inD hu).or (op_in_seq.or (or_inDct (by omega)))
theorem or_notIn {X : Cx} (hu : X.A.units + 65 < cLine) : OpR X (compareOp .NotIn) (rNotInAll X.K) := (op_notInD hu).or (op_notIn_seq.or (or_notInDct (by omega)))
theorem keyD_eq {d : PD} {k : Key} (h : keyD d = some k) : isSc d = true ∧ scV d = kV k := by
  cases d <;> simp [keyD] at h <;> subst h <;> exact ⟨rfl, rfl⟩
theorem o2_in (K : PySem.W.Frag) : Op2 (rInAll K) (gIn false) := ⟨fun A H x y d1 d2 c Q _ hx hy e q => by
  unfold gIn at e
  split at e
  · rename_i ds
    split at e
    · rename_i h
      cases e
      simp only [Bool.and_eq_true] at h
      exact .inl ⟨d1, ds, hx.dp (SeqAt.canLay_of_shaped h.1), hy.dp (SeqAt.canLay_of_shaped h.2), h.1, h.2, q _ _ (nr_val (.bl _))⟩
    · cases e
  · rename_i ds
    split at e
    · rename_i h
      cases e
      simp only [Bool.and_eq_true] at h
      obtain ⟨p, us, rfl, h1, r1⟩ := hy.tup
      obtain ⟨ex, fx⟩ := sc_flat hx h.1
      obtain ⟨e1, e2⟩ := inV_sc h.1 r1 h.2
      subst ex
      exact .inr (.inl ⟨p, us, rfl, .inr (SqT.of h1), fx, e2, by rw [e1]; exact q _ _ (nr_val (.bl _))⟩)
    · cases e
  · rename_i kvs
    split at e
    · rename_i k hk
      cases e
      obtain ⟨hs, ek⟩ := keyD_eq hk
      obtain ⟨ex, _⟩ := sc_flat hx hs
      obtain ⟨p, us, rfl, h1, r1⟩ := hy.dic
      refine .inr (.inr ⟨p, k, us, rfl, by rw [ex, ek], h1, ?_⟩)
      have : (valV us k).isSome = (look k kvs).isSome := by
        rcases look_valV (k := k) r1 with ⟨a, b⟩ | ⟨d, v, a, b, _⟩ <;> rw [a, b] <;> rfl
      rw [this]
      exact q _ _ (nr_val (.bl _))
    · cases e
  · cases e⟩
theorem o2_notIn (K : PySem.W.Frag) : Op2 (rNotInAll K) (gIn true) := ⟨fun A H x y d1 d2 c Q _ hx hy e q => by
  unfold gIn at e
  split at e
  · rename_i ds
    split at e
    · rename_i h
      cases e
      simp only [Bool.and_eq_true] at h
      exact .inl ⟨d1, ds, hx.dp (SeqAt.canLay_of_shaped h.1), hy.dp (SeqAt.canLay_of_shaped h.2), h.1, h.2, q _ _ (nr_val (.bl _))⟩
    · cases e
  · rename_i ds
    split at e
    · rename_i h
      cases e
      simp only [Bool.and_eq_true] at h
      obtain ⟨p, us, rfl, h1, r1⟩ := hy.tup
      obtain ⟨ex, fx⟩ := sc_flat hx h.1
      obtain ⟨e1, e2⟩ := inV_sc h.1 r1 h.2
      subst ex
      exact .inr (.inl ⟨p, us, rfl, .inr (SqT.of h1), fx, e2, by rw [e1]; exact q _ _ (nr_val (.bl _))⟩)
    · cases e
  · rename_i kvs
    split at e
    · rename_i k hk
      cases e
      obtain ⟨hs, ek⟩ := keyD_eq hk
      obtain ⟨ex, _⟩ := sc_flat hx hs
      obtain ⟨p, us, rfl, h1, r1⟩ := hy.dic
      refine .inr (.inr ⟨p, k, us, rfl, by rw [ex, ek], h1, ?_⟩)
      have : (valV us k).isSome = (look k kvs).isSome := by
        rcases look_valV (k := k) r1 with ⟨a, b⟩ | ⟨d, v, a, b, _⟩ <;> rw [a, b] <;> rfl
      rw [this]
      exact q _ _ (nr_val (.bl _))
    · cases e
  · cases e⟩
end DP
/-! DPP: items, slices, calls of built-ins. -/
namespace DP
open PySem L2
def gMul : PD → PD → Option Rc
  | .int i, .int j => if mulOk i j = true then some (.val (.int (i * j))) else none
  | .list xs, .int k => if (decide (-(2 ^ 63) ≤ k ∧ k < 2 ^ 63) && smallL (xs.length * k.toNat)) = true then some (.fresh (.list (List.replicate k.toNat xs).flatten)) else none
  | _, _ => none
theorem RpAll.rep {A : AS} {H : Hp} {vs : List V} {ds : List PD} (h : RpAll A H vs ds) : ∀ n : Nat, RpAll A H (List.replicate n vs).flatten (List.replicate n ds).flatten
  | 0 => .nil
  | n + 1 => by
    rw [List.replicate_succ, List.replicate_succ, List.flatten_cons, List.flatten_cons]
    exact h.append (RpAll.rep h n)
def rMulAll : R2 := fun x y H Q => rI CMul (fun i j => .int (i * j)) x y H Q ∨ rRep x y H Q
theorem or_mul {X : Cx} : OpR X (binaryOp .Mult) rMulAll := op_mul.or op_rep
theorem o2_mul : Op2 rMulAll gMul := ⟨fun A H x y d1 d2 c Q hd hx hy e q => by
  unfold gMul at e
  split at e
  · rename_i i j
    refine .inl (o2_mulI.run A H x y _ _ c Q hd hx hy ?_ q)
    simp only [gMulI, gI]
    exact e
  · split at e
    · rename_i xs k h
      cases e
      simp only [Bool.and_eq_true, decide_eq_true_eq] at h
      obtain ⟨l, us, rfl, h1, r1⟩ := hx.list
      exact .inr ⟨l, k, us, rfl, hy.int, h1, h.1.1, h.1.2, by rw [r1.length]; exact smallL_le h.2, fun p hp => q _ _ (nr_lst hp (r1.rep _))⟩
    · cases e
  · cases e⟩
/-! items -/
def gIx : PD → PD → Option Rc
  | .list ds, .int i => (atI ds i).map .val
  | .tuple ds, .int i => (atI ds i).map .val
  | .dict kvs, k => match keyD k with
    | some q => (look q kvs).map .val
    | none => none
  | _, _ => none
def rIxDct : R2 := fun x y H Q => ∃ a k kvs v, x = .ref a ∧ y = kV k ∧ H a = some (.dK kvs) ∧ valV kvs k = some v ∧ Q v H
theorem ix_dct {X : Cx} (hu : X.A.units + 1 < cLine) : IxR X rIxDct := by
  intro value slice pins s σ H x y v u Q I rx ry ⟨a, k, kvs, w, e1, e2, h, hv, q⟩ hs
  subst e1 e2
  obtain rfl : v = Value.ref a := rx
  have g : DGet H a (kV k) (some w) := by rw [← hv]; exact DGet.k h
  exact PyProof.Rows.tail_any (dict_typeIs I g) PySem.F.slot_dict_getitem.lookup (d_getItem hu I g ry fun w' s3 I3 rw' => ⟨w, H, I3, rw', q⟩) hs
theorem atI_rp {A : AS} {H : Hp} {vs : List V} {ds : List PD} {i : Int} {d : PD} (h : RpAll A H vs ds) (e : atI ds i = some d) : ∃ v, atI vs i = some v ∧ Rp A H v d := by
  unfold atI at e ⊢
  rw [h.length]
  cases e1 : ixN ds.length i with
  | none => rw [e1] at e; cases e
  | some j =>
    rw [e1] at e
    exact h.get (by simpa using e)
def rIxAll (K : PySem.W.Frag) : R2 := fun x y H Q => rIx K x y H Q ∨ rIxDct x y H Q
theorem ir_all {X : Cx} (hu : X.A.units + 1 < cLine) : IxR X (rIxAll X.K) := ix_seq.or (ix_dct hu)
theorem o2_ix (K : PySem.W.Frag) : Op2 (rIxAll K) gIx := ⟨fun A H x y d1 d2 c Q hd hx hy e q => by
  unfold gIx at e
  split at e
  · rename_i ds i
    cases e1 : atI ds i with
    | none => rw [e1] at e; cases e
    | some d =>
      rw [e1] at e
      cases e
      obtain ⟨l, us, rfl, h1, r1⟩ := hx.list
      obtain ⟨v, e2, r⟩ := atI_rp r1 e1
      exact .inl (.inl ⟨l, us, i, v, rfl, hy.int, SqL.of h1, e2, q _ _ (nr_val r)⟩)
  · rename_i ds i
    cases e1 : atI ds i with
    | none => rw [e1] at e; cases e
    | some d =>
      rw [e1] at e
      cases e
      obtain ⟨l, us, rfl, h1, r1⟩ := hx.tup
      obtain ⟨v, e2, r⟩ := atI_rp r1 e1
      exact .inl (.inr (.inl ⟨l, us, i, v, rfl, hy.int, SqT.of h1, e2, q _ _ (nr_val r)⟩))
  · rename_i kvs k
    split at e
    · rename_i kk hk
      obtain ⟨hs, ek⟩ := keyD_eq hk
      obtain ⟨ex, _⟩ := sc_flat hy hs
      obtain ⟨p, us, rfl, h1, r1⟩ := hx.dic
      rcases look_valV (k := kk) r1 with ⟨a, b⟩ | ⟨d, v, a, b, r⟩
      · rw [a] at e; cases e
      · rw [a] at e
        cases e
        exact .inr ⟨p, kk, us, v, rfl, by rw [ex, ek], h1, b, q _ _ (nr_val r)⟩
    · cases e
  · cases e⟩
/-! slices -/
def partM : Option (M Rv) → M (Option Int)
  | none => retM none
  | some f => bnd f fun r => bnd (rdM r) fun d => match d with
    | .int i => retM (some i)
    | _ => noM
def SimO (X : Cx) (W : WX) (e : Option Expr) (f : Option (M Rv)) : Prop := ∃ t : TO, PO X e t ∧ ∀ F A H σ ρ, ER X.K F A H σ ρ → ∀ Q : Option Int → Hp → Prop, Pst X.K X.mg W F A H σ ρ (fun _ _ _ b c => b = c) Q (partM f ρ) → t σ H Q
theorem sim_onone {X : Cx} {W : WX} : SimO X W none none := ⟨_, po_none, fun F A H σ ρ E Q h => h A H none E Step.refl rfl⟩
theorem sim_osome {X : Cx} {W : WX} {e : Expr} {f : M Rv} (h : SimE X W e f) : SimO X W (some e) (some f) := by
  obtain ⟨t, p, h⟩ := h
  refine ⟨_, po_some p, fun F A H σ ρ E Q hq => ?_⟩
  refine h F A H σ ρ E _ (Pst.split (m := f) hq fun r ρ1 A1 H1 v E1 S1 R1 h1 => ?_)
  obtain ⟨d, e1, h2⟩ := h1.rd
  have hz := RvR.rt E1 R1 e1
  cases d with
  | int i => exact ⟨i, hz.int, h2 A1 H1 _ E1 S1 rfl⟩
  | bool k => exact h2.elim
  | none => exact h2.elim
  | str i => exact h2.elim
  | list i => exact h2.elim
  | tuple i => exact h2.elim
  | dict i => exact h2.elim
def cutD (xs : List PD) (lo hi : Option Int) : List PD := (xs.drop (HT.sIx xs.length 0 lo)).take (HT.sIx xs.length xs.length hi - HT.sIx xs.length 0 lo)
def gSl (d : PD) (lo hi : Option Int) : Option Rc :=
  match d with
  | .list ds => some (.fresh (.list (cutD ds lo hi)))
  | .tuple ds => some (.val (.tuple (cutD ds lo hi)))
  | _ => none
def eSl (f : M Rv) (lo hi : Option (M Rv)) : M Rv := bnd f fun x => bnd (partM lo) fun l => bnd (partM hi) fun h => bnd (rdM x) fun d => fin (gSl d l h)
theorem RpAll.drop {A : AS} {H : Hp} : ∀ {vs : List V} {ds : List PD} (n : Nat), RpAll A H vs ds → RpAll A H (vs.drop n) (ds.drop n)
  | _, _, 0, h => h
  | _, _, n + 1, .nil => .nil
  | _, _, n + 1, .cons _ h => RpAll.drop n h
theorem RpAll.take {A : AS} {H : Hp} : ∀ {vs : List V} {ds : List PD} (n : Nat), RpAll A H vs ds → RpAll A H (vs.take n) (ds.take n)
  | _, _, 0, _ => by simp; exact .nil
  | _, _, n + 1, .nil => .nil
  | _, _, n + 1, .cons r h => .cons r (RpAll.take n h)
theorem RpAll.cut {A : AS} {H : Hp} {vs : List V} {ds : List PD} (h : RpAll A H vs ds) (lo hi : Option Int) : RpAll A H (cutV vs lo hi) (cutD ds lo hi) := by
  unfold cutV cutD
  rw [h.length]
  exact (h.drop _).take _
theorem sim_slice {X : Cx} {W : WX} {e : Expr} {lo hi : Option Expr} {f : M Rv} {fl fh : Option (M Rv)} {p2 pos : Pos} (he : SimE X W e f) (hl : SimO X W lo fl) (hh : SimO X W hi fh) : SimE X W (.Subscript e (.Slice lo hi none p2) pos) (eSl f fl fh) := by
  obtain ⟨t, p, he⟩ := he
  obtain ⟨tl, pl, hl⟩ := hl
  obtain ⟨th, ph, hh⟩ := hh
  refine ⟨_, pe_slice (sl_list.or sl_tupA) p pl ph, fun F A H σ ρ E Q h => ?_⟩
  refine he F A H σ ρ E _ (h.split fun x ρ1 A1 H1 v1 E1 S1 R1 h1 => ?_)
  refine hl F A1 H1 σ ρ1 E1 _ ((h1.after S1).split (RR1 := fun _ _ _ b c => b = c) fun l ρ2 A2 H2 l' E2 S2 R2 h2 => ?_)
  subst R2
  refine hh F A2 H2 σ ρ2 E2 _ ((h2.after S2).split (RR1 := fun _ _ _ b c => b = c) fun u ρ3 A3 H3 u' E3 S3 R3 h3 => ?_)
  subst R3
  obtain ⟨d, e1, h4⟩ := h3.rd
  have R1' : RvR F H A3 H3 σ ρ3 v1 x := RvR.step E2 S3 (RvR.step E1 S2 R1)
  obtain ⟨c, e2, h5⟩ := h4.fin' S3 E3 (S1.trans S2)
  have hz := R1'.rt E3 e1
  unfold gSl at e2
  split at e2
  · cases e2
    obtain ⟨a, us, rfl, g1, r1⟩ := hz.list
    exact .inl ⟨a, us, rfl, SqL.of g1, fun p hp => h5 _ _ (nr_lst hp (r1.cut _ _))⟩
  · cases e2
    obtain ⟨a, us, rfl, g1, r1⟩ := hz.tup
    refine .inr ⟨a, us, rfl, SqT.of g1, fun hw => ?_, fun _ p hp => h5 _ _ (nr_tup hp (r1.cut _ _))⟩
    have := r1.cut l' u'
    unfold cutV at this
    rw [hw.1, hw.2] at this
    simp only [List.drop_zero, Nat.sub_zero, List.take_length] at this
    exact h5 _ _ (nr_val (.tup g1 this))
  · cases e2
/-! built-ins -/
def gAbs : List PD → Option Rc
  | [.int i] => some (.val (.int (if i < 0 then -i else i)))
  | _ => none
theorem on_abs : OpN (fun xs H Q => ∃ i, xs = [.int i] ∧ Q (.int (if i < 0 then -i else i)) H) gAbs := ⟨fun A H xs ds c Q _ hx e q => by
  unfold gAbs at e
  split at e
  · cases e
    obtain ⟨v, rfl, r⟩ := hx.one
    exact ⟨_, by rw [r.int], q _ _ (nr_val (.int _))⟩
  · cases e⟩
def gMax2 : List PD → Option Rc
  | [.int i, .int j] => some (.val (.int (if j > i then j else i)))
  | _ => none
def gMin2 : List PD → Option Rc
  | [.int i, .int j] => some (.val (.int (if j < i then j else i)))
  | _ => none
theorem on_max2 : OpN (fun xs H Q => ∃ i j, xs = [.int i, .int j] ∧ Q (.int (if j > i then j else i)) H) gMax2 := ⟨fun A H xs ds c Q _ hx e q => by
  unfold gMax2 at e
  split at e
  · cases e
    obtain ⟨v, w, rfl, r, r2⟩ := hx.two
    exact ⟨_, _, by rw [r.int, r2.int], q _ _ (nr_val (.int _))⟩
  · cases e⟩
theorem on_min2 : OpN (fun xs H Q => ∃ i j, xs = [.int i, .int j] ∧ Q (.int (if j < i then j else i)) H) gMin2 := ⟨fun A H xs ds c Q _ hx e q => by
  unfold gMin2 at e
  split at e
  · cases e
    obtain ⟨v, w, rfl, r, r2⟩ := hx.two
    exact ⟨_, _, by rw [r.int, r2.int], q _ _ (nr_val (.int _))⟩
  · cases e⟩
def gLen : List PD → Option Rc
  | [.list ds] => some (.val (.int ds.length))
  | [.tuple ds] => some (.val (.int ds.length))
  | _ => none
theorem on_len (K : PySem.W.Frag) : OpN (fun xs H Q => ∃ x n, xs = [x] ∧ LenV K x H n ∧ Q (.int n) H) gLen := ⟨fun A H xs ds c Q _ hx e q => by
  unfold gLen at e
  split at e
  · cases e
    obtain ⟨v, rfl, r⟩ := hx.one
    obtain ⟨p, us, rfl, h, rr⟩ := r.list
    exact ⟨_, _, rfl, .inl ⟨us, SqL.of h, rr.length.symm⟩, q _ _ (nr_val (.int _))⟩
  · cases e
    obtain ⟨v, rfl, r⟩ := hx.one
    obtain ⟨p, us, rfl, h, rr⟩ := r.tup
    exact ⟨_, _, rfl, .inr ⟨us, SqT.of h, rr.length.symm⟩, q _ _ (nr_val (.int _))⟩
  · cases e⟩
/-- a list of ints, of truths -/
def intsOf : List PD → Option (List Int)
  | [] => some []
  | .int i :: ds => (intsOf ds).map (i :: ·)
  | _ :: _ => none
def boolsOf : List PD → Option (List Bool)
  | [] => some []
  | .bool i :: ds => (boolsOf ds).map (i :: ·)
  | _ :: _ => none
theorem intsOf_rp {A : AS} {H : Hp} : ∀ {vs : List V} {ds : List PD} {ns : List Int}, RpAll A H vs ds → intsOf ds = some ns → vs = ns.map V.int
  | _, _, _, .nil, e => by cases e; rfl
  | _, _, ns, .cons r h, e => by
    cases r with
    | int i =>
      simp only [intsOf] at e
      cases e1 : intsOf _ with
      | none => rw [e1] at e; cases e
      | some ms => rw [e1] at e; cases e; rw [intsOf_rp h e1]; rfl
    | _ => cases e
theorem boolsOf_rp {A : AS} {H : Hp} : ∀ {vs : List V} {ds : List PD} {ns : List Bool}, RpAll A H vs ds → boolsOf ds = some ns → vs = ns.map V.bl
  | _, _, _, .nil, e => by cases e; rfl
  | _, _, ns, .cons r h, e => by
    cases r with
    | bl i =>
      simp only [boolsOf] at e
      cases e1 : boolsOf _ with
      | none => rw [e1] at e; cases e
      | some ms => rw [e1] at e; cases e; rw [boolsOf_rp h e1]; rfl
    | _ => cases e
theorem rp_ints {A : AS} {H : Hp} : ∀ ns : List Int, RpAll A H (ns.map V.int) (ns.map PyData.int)
  | [] => .nil
  | n :: ns => .cons (.int n) (rp_ints ns)
def gSum : List PD → Option Rc
  | [.list ds] => (intsOf ds).map fun ns => .val (.int ns.sum)
  | _ => none
theorem on_sum (K : PySem.W.Frag) : OpN (rSum K) gSum := ⟨fun A H xs ds c Q _ hx e q => by
  unfold gSum at e
  split at e
  · rename_i l
    cases e1 : intsOf l with
    | none => rw [e1] at e; cases e
    | some ns =>
      rw [e1] at e
      cases e
      obtain ⟨v, rfl, r⟩ := hx.one
      obtain ⟨p, us, rfl, h, rr⟩ := r.list
      exact ⟨p, ns, rfl, by rw [← intsOf_rp rr e1]; exact SqL.of h, q _ _ (nr_val (.int _))⟩
  · cases e⟩
def gAll : List PD → Option Rc
  | [.list ds] => (boolsOf ds).map fun ns => .val (.bool (ns.all id))
  | _ => none
def gAny : List PD → Option Rc
  | [.list ds] => (boolsOf ds).map fun ns => .val (.bool (ns.any id))
  | _ => none
theorem on_all (K : PySem.W.Frag) : OpN (rAll K) gAll := ⟨fun A H xs ds c Q _ hx e q => by
  unfold gAll at e
  split at e
  · rename_i l
    cases e1 : boolsOf l with
    | none => rw [e1] at e; cases e
    | some ns =>
      rw [e1] at e
      cases e
      obtain ⟨v, rfl, r⟩ := hx.one
      obtain ⟨p, us, rfl, h, rr⟩ := r.list
      exact ⟨p, ns, rfl, by rw [← boolsOf_rp rr e1]; exact SqL.of h, q _ _ (nr_val (.bl _))⟩
  · cases e⟩
theorem on_any (K : PySem.W.Frag) : OpN (rAny K) gAny := ⟨fun A H xs ds c Q _ hx e q => by
  unfold gAny at e
  split at e
  · rename_i l
    cases e1 : boolsOf l with
    | none => rw [e1] at e; cases e
    | some ns =>
      rw [e1] at e
      cases e
      obtain ⟨v, rfl, r⟩ := hx.one
      obtain ⟨p, us, rfl, h, rr⟩ := r.list
      exact ⟨p, ns, rfl, by rw [← boolsOf_rp rr e1]; exact SqL.of h, q _ _ (nr_val (.bl _))⟩
  · cases e⟩
def gList : List PD → Option Rc
  | [.list ds] => some (.fresh (.list ds))
  | [.tuple ds] => some (.fresh (.list ds))
  | _ => none
def gTuple : List PD → Option Rc
  | [.list ds] => some (.val (.tuple ds))
  | [.tuple ds] => some (.val (.tuple ds))
  | _ => none
theorem on_list (K : PySem.W.Frag) : OpN (fun xs H Q => ∃ p ys, xs = [.ref p] ∧ (SqL K H p ys ∨ SqT K H p ys) ∧ ∀ l, H l = none → Q (.ref l) (upd H l (.lst ys))) gList := ⟨fun A H xs ds c Q _ hx e q => by
  unfold gList at e
  split at e
  · cases e
    obtain ⟨v, rfl, r⟩ := hx.one
    obtain ⟨p, us, rfl, h, rr⟩ := r.list
    exact ⟨p, us, rfl, .inl (SqL.of h), fun l hl => q _ _ (nr_lst hl rr)⟩
  · cases e
    obtain ⟨v, rfl, r⟩ := hx.one
    obtain ⟨p, us, rfl, h, rr⟩ := r.tup
    exact ⟨p, us, rfl, .inr (SqT.of h), fun l hl => q _ _ (nr_lst hl rr)⟩
  · cases e⟩
theorem on_tuple (K : PySem.W.Frag) : OpN (fun xs H Q => ∃ p ys, xs = [.ref p] ∧ ((SqL K H p ys ∧ ∀ l, H l = none → Q (.ref l) (upd H l (.tup ys))) ∨ (SqT K H p ys ∧ Q (.ref p) H))) gTuple := ⟨fun A H xs ds c Q _ hx e q => by
  unfold gTuple at e
  split at e
  · cases e
    obtain ⟨v, rfl, r⟩ := hx.one
    obtain ⟨p, us, rfl, h, rr⟩ := r.list
    exact ⟨p, us, rfl, .inl ⟨SqL.of h, fun l hl => q _ _ (nr_tup hl rr)⟩⟩
  · cases e
    obtain ⟨v, rfl, r⟩ := hx.one
    obtain ⟨p, us, rfl, h, rr⟩ := r.tup
    exact ⟨p, us, rfl, .inr ⟨SqT.of h, q _ _ (nr_val (.tup h rr))⟩⟩
  · cases e⟩
def gInt : List PD → Option Rc
  | [.int i] => some (.val (.int i))
  | [.bool k] => some (.val (.int (if k then 1 else 0)))
  | _ => none
theorem on_int : OpN (fun xs H Q => (∃ i, xs = [.int i] ∧ Q (.int i) H) ∨ ∃ k, xs = [.bl k] ∧ Q (.int (if k then 1 else 0)) H) gInt := ⟨fun A H xs ds c Q _ hx e q => by
  unfold gInt at e
  split at e
  · cases e
    obtain ⟨v, rfl, r⟩ := hx.one
    exact .inl ⟨_, by rw [r.int], q _ _ (nr_val (.int _))⟩
  · cases e
    obtain ⟨v, rfl, r⟩ := hx.one
    exact .inr ⟨_, by rw [r.bool], q _ _ (nr_val (.int _))⟩
  · cases e⟩
def gNeg : PD → Option Rc
  | .int i => some (.val (.int (-i)))
  | _ => none
theorem o1_neg : Op1 (rU fun i => .int (-i)) gNeg := ⟨fun A H x d1 c Q _ hx e q => by
  unfold gNeg at e
  split at e
  · cases e
    exact ⟨_, hx.int, q _ _ (nr_val (.int _))⟩
  · cases e⟩
end DP
/-! DPQ: sorted, stores into lists and dicts, append, get. -/
namespace DP
open PySem L2
/-! sorted -/
def rSortedD (K : PySem.W.Frag) : List V → Hp → VK → Prop := fun vs H Q => ∃ (a : Addr) (ps : List (V × PD)), vs = [V.ref a] ∧ SqL K H a (ps.map (·.1)) ∧ (∀ p ∈ ps, Dp K H p.1 p.2) ∧ PySem.W.AllAlike (ps.map (·.2)) ∧ PySem.W.Sortable (ps.map (·.2)) ∧ (∀ p ∈ ps, p.2.depth ≤ 60) ∧
  ∀ l, H l = none → Q (.ref l) (upd H l (.lst ((ps.mergeSort (PySem.W.dataLe false (·.2))).map (·.1))))
section
variable {X : Cx} {pins : List (Addr × Obj)} {σ : L2.St} {H : Hp} {s : Shared}
theorem each_of : ∀ {ps : List (V × PD)} {us : List Value}, Vals (ps.map (·.1)) us → PySem.W.EachIs (fun u p => RelV p.1 u) us ps
  | [], _, r => by cases r; exact .nil
  | p :: ps, _, r => by
    cases r with
    | cons r h => exact .cons r (each_of h)
theorem each_to : ∀ {ps : List (V × PD)} {us : List Value}, PySem.W.EachIs (fun u (p : V × PD) => RelV p.1 u) us ps → Vals (ps.map (·.1)) us
  | _, _, .nil => .nil
  | _, _, .cons r h => .cons r (each_to h)
theorem each_reads (I : Inv X pins σ H s) : ∀ {ps : List (V × PD)} {us : List Value}, Vals (ps.map (·.1)) us → (∀ p ∈ ps, Dp X.K H p.1 p.2) → PySem.W.EachIs (fun u (p : V × PD) => ∃ as, Reads s.heap u p.2 as) us ps
  | [], _, r, _ => by cases r; exact .nil
  | p :: ps, _, r, h => by
    cases r with
    | cons r t => exact .cons (Dp.reads I _ _ _ (h p (by simp)) r) (each_reads I t fun q hq => h q (List.mem_cons_of_mem _ hq))
theorem cr_sortedD (hu : X.A.units + 64 < cLine) : CallR X (.builtin "sorted") (rSortedD X.K) := by
  intro pins s σ H vs us Q I r ⟨a, ps, e, hs, hd, hal, hk, hdp, q⟩
  subst e
  obtain ⟨its, rv, hl, hz⟩ := I.list hs
  rw [Vals.ref1 r]
  have hlen := rv.length
  rw [List.length_map] at hlen hz
  refine PySem.W.sorted_data (enc := fun p : V × PD => p.2) hl.isList (each_of rv) (each_reads I rv hd) hal hk hz (fun p hp => by have := hdp p hp; omega) fun out h1 h2 => ?_
  obtain ⟨ep, he'⟩ := PyProof.Rows.sortedAll_at s.heap its out.toArray
  have v2 := each_to h2
  have l2 : ((ps.mergeSort (PySem.W.dataLe false (·.2))).map (·.1)).length ≤ sizeLine := by rw [List.length_map, List.length_mergeSort]; exact hz
  exact ⟨.ref _, upd H (s.heap.objs.size + 1) (.lst _), I.laid (t' := s.toks) (fun _ _ => PyProof.Rows.sortedAll_old) (Nat.le_succ _) ⟨l2, out, ep, v2, by simpa using he'⟩, rfl, q _ (I.hok.fresh (Nat.le_succ _))⟩
end
def alikeL : List PD → Bool
  | [] => true
  | d :: ds => ds.all (fun e => PySem.W.alike d e) && alikeL ds
def selfL (ds : List PD) : Bool := ds.all fun d => PySem.W.alike d d
def tupX : PD → Bool
  | .tuple (_ :: _) => true
  | _ => false
def notTN : PD → Bool
  | .tuple _ => false
  | .none => false
  | _ => true
def sortOk (ds : List PD) : Bool := alikeL ds && selfL ds && (ds.all tupX || ds.all notTN) && ds.all (fun d => d.canLay0 && decide (d.depth ≤ 60))
theorem alikeL_all : ∀ {ds : List PD}, alikeL ds = true → selfL ds = true → PySem.W.AllAlike ds := by
  intro ds h1 h2
  induction ds with
  | nil => intro d hd; cases hd
  | cons x xs ih =>
    simp only [alikeL, Bool.and_eq_true] at h1
    simp only [selfL, List.all_cons, Bool.and_eq_true] at h2
    intro d hd d' hd'
    rcases List.mem_cons.mp hd with rfl | hd
    · rcases List.mem_cons.mp hd' with rfl | hd'
      · exact h2.1
      · exact List.all_eq_true.mp h1.1 _ hd'
    · rcases List.mem_cons.mp hd' with rfl | hd'
      · rw [PySem.W.alike_comm]; exact List.all_eq_true.mp h1.1 d (by assumption)
      · exact ih h1.2 h2.2 d hd d' hd'
def leD (a b : PD) : Bool := !PySem.W.dataLt b a
/-- the int keys of a dict -/
def keysOf : List (PD × PD) → Option (List Int)
  | [] => some []
  | (.int i, _) :: r => (keysOf r).map (i :: ·)
  | _ => none
def leI (a b : Int) : Bool := decide (a ≤ b)
def gSorted : List PD → Option Rc
  | [.list ds] => if sortOk ds = true then some (.fresh (.list (ds.mergeSort leD))) else none
  | [.dict kvs] => match keysOf kvs with
    | some ks => if ks.length < 64 then some (.fresh (.list ((ks.mergeSort leI).map .int))) else none
    | none => none
  | _ => none
theorem zip_fst {A : AS} {H : Hp} : ∀ {us : List V} {ds : List PD}, RpAll A H us ds → (us.zip ds).map (·.1) = us ∧ (us.zip ds).map (·.2) = ds ∧ ∀ p ∈ us.zip ds, Rp A H p.1 p.2
  | _, _, .nil => ⟨rfl, rfl, fun p h => nomatch h⟩
  | _, _, .cons r h => by
    obtain ⟨a, b, c⟩ := zip_fst h
    refine ⟨by simp [a], by simp [b], fun p hp => ?_⟩
    simp only [List.zip_cons_cons, List.mem_cons] at hp
    rcases hp with rfl | hp
    · exact r
    · exact c p hp
theorem of_pairs {A : AS} {H : Hp} : ∀ {ps : List (V × PD)}, (∀ p ∈ ps, Rp A H p.1 p.2) → RpAll A H (ps.map (·.1)) (ps.map (·.2))
  | [], _ => .nil
  | p :: ps, h => .cons (h p (by simp)) (of_pairs fun q hq => h q (List.mem_cons_of_mem _ hq))
def rSortedK (K : PySem.W.Frag) : List V → Hp → VK → Prop := fun xs H Q => ∃ (a : Addr) (kvs : List (Key × V)) (ks : List Int), xs = [.ref a] ∧ Rd H a (.dK kvs) ∧ kvs.map (·.1) = ks.map Sum.inl ∧ ks.length < 64 ∧ ∀ (ys : List Int) (p : Addr), ys.Perm ks → ys.Pairwise (· ≤ ·) → H p = none → Q (.ref p) (upd H p (.lst (ys.map V.int)))
theorem keysOf_rp {A : AS} {H : Hp} : ∀ {kvs : List (Key × V)} {ds : List (PD × PD)} {ks : List Int}, RpKV A H kvs ds → keysOf ds = some ks → kvs.map (·.1) = ks.map Sum.inl
  | _, _, _, .nil, e => by cases e; rfl
  | _, _, ks, .cons (k := k) r h, e => by
    cases k with
    | inl i =>
      simp only [kD, keysOf] at e
      cases e1 : keysOf _ with
      | none => rw [e1] at e; cases e
      | some l => rw [e1] at e; cases e; simp [keysOf_rp h e1]
    | inr x => cases e
theorem sorted_unique {ys zs : List Int} (p : ys.Perm zs) (h1 : ys.Pairwise (· ≤ ·)) (h2 : zs.Pairwise (· ≤ ·)) : ys = zs := List.Perm.eq_of_pairwise (fun a b _ _ h1 h2 => Int.le_antisymm h1 h2) h1 h2 p
theorem msort_sorted (ks : List Int) : (ks.mergeSort leI).Pairwise (· ≤ ·) := by
  have := List.pairwise_mergeSort (le := leI) (fun a b c h1 h2 => by simp [leI] at *; omega) (fun a b => by simp [leI]; omega) ks
  exact this.imp fun {a b} h => by simpa [leI] using h
theorem on_sorted (K : PySem.W.Frag) : OpN (fun vs H Q => rSortedD K vs H Q ∨ rSortedK K vs H Q) gSorted := ⟨fun A H xs ds c Q hd hx e q => by
  unfold gSorted at e
  split at e
  · rename_i ds
    split at e
    · rename_i hok
      cases e
      simp only [sortOk, Bool.and_eq_true, Bool.or_eq_true, List.all_eq_true, decide_eq_true_eq] at hok
      obtain ⟨⟨⟨h1, h2⟩, h3⟩, h4⟩ := hok
      obtain ⟨v, rfl, r⟩ := hx.one
      obtain ⟨p, us, rfl, h, rr⟩ := r.list
      obtain ⟨z1, z2, z3⟩ := zip_fst rr
      refine .inl ⟨p, us.zip ds, rfl, by rw [z1]; exact SqL.of h, fun w hw => (z3 w hw).dp (h4 _ ?_).1, by rw [z2]; exact alikeL_all h1 h2, ?_, fun w hw => (h4 _ ?_).2, fun l hl => ?_⟩
      · rw [← z2]; exact List.mem_map.mpr ⟨w, hw, rfl⟩
      · rw [z2]
        rcases h3 with h3 | h3
        · left
          intro d hd
          have := h3 d hd
          unfold tupX at this
          split at this
          · exact ⟨_, _, rfl⟩
          · cases this
        · right
          intro d hd
          have := h3 d hd
          unfold notTN at this
          split at this
          · cases this
          · cases this
          · rename_i g1 g2
            exact ⟨g2, g1⟩
      · rw [← z2]; exact List.mem_map.mpr ⟨w, hw, rfl⟩
      · have e2 : ((us.zip ds).mergeSort (PySem.W.dataLe false (·.2))).map (·.2) = ds.mergeSort leD := by
          rw [List.map_mergeSort (s := leD) (f := fun p : V × PD => p.2) (fun a _ b _ => by rw [PySem.W.dataLe_eq]; rfl), z2]
        have rr2 := of_pairs (A := A) (H := H) (ps := (us.zip ds).mergeSort (PySem.W.dataLe false (·.2))) fun p hp => z3 p (List.mem_mergeSort.mp hp)
        rw [e2] at rr2
        exact q _ _ (nr_lst hl rr2)
    · cases e
  · rename_i kvs
    split at e
    · rename_i ks hk
      split at e
      · rename_i h64
        cases e
        obtain ⟨v, rfl, r⟩ := hx.one
        obtain ⟨p, us, rfl, h, rr⟩ := r.dic
        refine .inr ⟨p, us, ks, rfl, .inl h, keysOf_rp rr hk, h64, fun ys l hp hs hl => ?_⟩
        have e2 : ys = ks.mergeSort leI := sorted_unique (hp.trans (List.mergeSort_perm ks leI).symm) hs (msort_sorted ks)
        subst e2
        exact q _ _ (nr_lst hl (rp_ints _))
      · cases e
    · cases e
  · cases e⟩
/-! ### stores into things -/
section
variable {K : PySem.W.Frag} {F : Ent} {A : AS} {H : Hp} {σ : L2.St} {ρ : Dn} {i : Nat} {p : Addr} {b : Bool} {d d' : PD}
/-- slot i's own thing is changed -/
theorem ER.updOwn {o : HO} (E : ER K F A H σ ρ) (e1 : ρ[i]? = some (some (.own b d))) (e2 : σ[i]? = some (some (.ref p))) (ho : OwnObj A (upd H p o) p d') :
    ER K F A (upd H p o) σ (ρ.set i (some (.own b d'))) ∧ Kp A A H (upd H p o) := by
  have hi : i < ρ.length := (List.getElem?_eq_some_iff.mp e1).1
  obtain ⟨hA, hl⟩ := E.ow ⟨i, b, d, e1, e2⟩
  have hp : ∃ u, H p = some u ∧ (∀ xs, u ≠ .tup xs) ∧ ∀ q v, u ≠ .frz q v := by
    cases e : H p with
    | none => rw [e] at hl; exact hl.elim
    | some u =>
      rw [e] at hl
      refine ⟨u, rfl, fun xs z => ?_, fun q v z => ?_⟩
      · subst z; exact hl
      · subst z; exact hl
  obtain ⟨u, hu, ht, hf⟩ := hp
  have kk : Kp A A H (upd H p o) := Kp.other hA hu ht
  have own : ∀ {j : Nat} {b' : Bool} {d1 : PD}, (ρ.set i (some (.own b d')))[j]? = some (some (.own b' d1)) → ∃ d2, ρ[j]? = some (some (.own b' d2)) := fun {j b' d1} e => by
    by_cases hj : i = j
    · subst hj
      rw [get_set_self hi] at e
      cases e
      exact ⟨d, e1⟩
    · rw [get_set_ne hj] at e
      exact ⟨d1, e⟩
  refine ⟨⟨by simp [E.len], fun j s e => ?_, fun j k b1 b2 d1 d2 q f1 f2 f3 f4 => ?_, fun a ha => ?_, fun c v e n => ?_, E.mono, E.grow, fun j b1 d1 q f1 f2 => ?_, E.FS, fun q hq => ?_⟩, kk⟩
  · by_cases hj : i = j
    · subst hj
      rw [get_set_self hi] at e
      cases e
      exact ⟨_, e2, p, rfl, hA, ho⟩
    · rw [get_set_ne hj] at e
      obtain ⟨v, e3, r⟩ := E.slot j s e
      refine ⟨v, e3, ?_⟩
      cases s with
      | imm d => exact Rp.kp kk r
      | own b1 d1 =>
        obtain ⟨q, rfl, n, r⟩ := r
        refine ⟨q, rfl, n, r.kp kk ?_⟩
        rw [upd_ne]
        intro z
        subst z
        exact hj (E.dist i j _ _ _ _ q e1 e e2 e3)
      | scr ns =>
        obtain ⟨q, rfl, r⟩ := r
        refine ⟨q, rfl, r.kp fun ob w z => ?_⟩
        rw [upd_ne]
        · exact z
        · intro y; subst y; rw [hu] at z; cases z; exact hf _ _ rfl
  · obtain ⟨d3, g1⟩ := own f1
    obtain ⟨d4, g2⟩ := own f2
    exact E.dist j k _ _ _ _ q g1 g2 f3 f4
  · by_cases z : a = p
    · subst z; exact absurd ha hA
    · rw [upd_ne z]; exact E.dom a ha
  · rw [upd_ne]
    · exact E.kp c v e n
    · intro z
      subst z
      have := E.ownF i b d c e1 e2
      cases b with
      | true => exact n (by simpa using this)
      | false => rw [if_neg (by simp)] at this; rw [this] at e; cases e
  · obtain ⟨d3, g1⟩ := own f1
    exact E.ownF j b1 d3 q g1 f2
  · obtain ⟨f1, d3, f2⟩ := E.ins q hq
    refine ⟨f1, ?_⟩
    by_cases hj : i = q.1
    · subst hj
      rw [e1] at f2
      cases f2
      exact ⟨d', get_set_self hi⟩
    · exact ⟨d3, by rw [get_set_ne hj]; exact f2⟩
end
/-- a target that takes data that stays -/
def SimTg (X : Cx) (W : WX) (tg : Expr) (g : PD → SM) : Prop := ∃ t : TG, PG X tg t ∧ ∀ F A H σ ρ v d D, ER X.K F A H σ ρ → Rp A H v d → PstS X.K X.mg W F A H D (g d ρ) → t v σ H D.nx
def tgOf (g : PD → Dn → Option Dn) : PD → SM := fun d ρ =>
  match g d ρ with
  | some ρ' => .nx ρ'
  | none => .no
section
variable {X : Cx} {W : WX} {tg tg2 e : Expr} {g : PD → Dn → Option Dn} {is : List Nat} {fe : M Rv} {G G2 : PD → SM} {pos : Pos}
theorem SimG.toTg (h : SimG X tg g is) : SimTg X W tg (tgOf g) := by
  obtain ⟨t, p, h⟩ := h
  refine ⟨t, p, fun F A H σ ρ v d D E R hs => ?_⟩
  unfold tgOf at hs
  cases eg : g d ρ with
  | none => rw [eg] at hs; exact hs.elim
  | some ρ' =>
    rw [eg] at hs
    exact h F A H σ ρ v d ρ' _ E R eg fun σ' E' _ _ _ => hs A H σ' E' Kp.refl
def sAsgG (f : M Rv) (G : PD → SM) : SM := bndS f fun r => bndS (frz r) G
theorem sim_asgG (he : SimE X W e fe) (hg : SimTg X W tg G) (hs : swapsWithSole [tg] e pos.line X.env = pure false := by rfl) (hw : swappedStores [tg] e X.env = pure none := by rfl)
    (h1 : (assignEach [tg] X.env).map (·.2) = [assign tg X.env] := by rfl) : SimS X W (.Assign [tg] e pos) (sAsgG fe G) := by
  obtain ⟨t, p, h⟩ := he
  obtain ⟨u, q, hg⟩ := hg
  refine ⟨_, ps_asg p q hs hw h1, fun F A H σ ρ D E h1 => ?_⟩
  refine h F A H σ ρ E _ (PstS.split E h1 fun r ρ1 A1 H1 v E1 S1 R1 h2 => ?_)
  obtain ⟨d, A2, ρ2, E2, S2, R2, h3⟩ := h2.frz E1 S1 R1
  exact hg F A2 H1 σ ρ2 v d D E2 R2 (h3.after (S2.kpr E))
def sAsgG2 (f : M Rv) (G G2 : PD → SM) : SM := bndS f fun r => bndS (frz r) fun d => sSeq (G d) (G2 d)
theorem sim_asgG2 (he : SimE X W e fe) (hg : SimTg X W tg G) (hg2 : SimTg X W tg2 G2) (ha : (assignEach [tg, tg2] X.env).map (·.2) = [assign tg X.env, assign tg2 X.env] := by rfl) (hw : swappedStores [tg, tg2] e X.env = pure none := by rfl) : SimS X W (.Assign [tg, tg2] e pos) (sAsgG2 fe G G2) := by
  obtain ⟨t, p, h⟩ := he
  obtain ⟨u, q, hg⟩ := hg
  obtain ⟨u2, q2, hg2⟩ := hg2
  refine ⟨_, ps_asg2 p q q2 ha hw, fun F A H σ ρ D E h1 => ?_⟩
  refine h F A H σ ρ E _ (PstS.split E h1 fun r ρ1 A1 H1 v E1 S1 R1 h2 => ?_)
  obtain ⟨d, A2, ρ2, E2, S2, R2, h3⟩ := h2.frz E1 S1 R1
  have h4 := h3.after (S2.kpr E)
  refine hg F A2 H1 σ ρ2 v d { D with nx := fun σ' H' => u2 v σ' H' D.nx } E2 R2 ?_
  unfold sSeq at h4
  cases e1 : G d ρ2 with
  | nx ρ' => rw [e1] at h4; exact fun A' H' σ' E' k => hg2 F A' H' σ' ρ' v d D E' (Rp.kp k R2) (h4.after k)
  | rt r ρ' => rw [e1] at h4; exact h4
  | bk ρ' => rw [e1] at h4; exact h4
  | ct ρ' => rw [e1] at h4; exact h4
  | ex x ρ' => rw [e1] at h4; exact h4
  | no => rw [e1] at h4; exact h4
/-! xs[i] = v, d[k] = v -/
def putD (k : Key) (v : PD) (kvs : List (PD × PD)) : List (PD × PD) :=
  if (kvs.any fun p => keyIsD k p.1) = true then kvs.map (fun p => if keyIsD k p.1 = true then (p.1, v) else p) else kvs ++ [(kD k, v)]
def setIx (d k v : PD) : Option PD :=
  match d with
  | .list ds => match k with
    | .int i => (ixN ds.length i).map fun j => .list (ds.set j v)
    | _ => none
  | .dict kvs => match keyD k with
    | some q => if smallL kvs.length = true then some (.dict (putD q v kvs)) else none
    | none => none
  | _ => none
def rSetAll : TSet := fun o i v H Q => (∃ p xs k j, o = .ref p ∧ i = .int k ∧ H p = some (.lst xs) ∧ ixN xs.length k = some j ∧ Q (upd H p (.lst (xs.set j v)))) ∨
  ∃ a k kvs, o = .ref a ∧ i = kV k ∧ H a = some (.dK kvs) ∧ kvs.length < sizeLine ∧ Q (upd H a (.dK (putK kvs k v)))
theorem set_all (hu : X.A.units + 1 < cLine) : PSet X rSetAll := by
  intro pins s σ H o i v ov iv u Q I ro ri rv h
  rcases h with h | ⟨a, k, kvs, e1, e2, h, hz, q⟩
  · exact set_list pins s σ H o i v ov iv u Q I ro ri rv h
  · subst e1 e2
    obtain rfl : ov = Value.ref a := ro
    exact d_setItem hu I (DPut.k h hz) ri rv fun s' I' => ⟨_, I', q⟩
theorem RpAll.set {A : AS} {H : Hp} {v : V} {d : PD} (r : Rp A H v d) : ∀ {vs : List V} {ds : List PD} (j : Nat), RpAll A H vs ds → RpAll A H (vs.set j v) (ds.set j d)
  | _, _, _, .nil => .nil
  | _, _, 0, .cons _ h => .cons r h
  | _, _, j + 1, .cons q h => .cons q (RpAll.set r j h)
theorem any_rp {A : AS} {H : Hp} {k : Key} : ∀ {kvs : List (Key × V)} {ds : List (PD × PD)}, RpKV A H kvs ds → (kvs.any fun p => decide (p.1 = k)) = ds.any fun p => keyIsD k p.1
  | _, _, .nil => rfl
  | _, _, .cons r h => by simp only [List.any_cons, keyIsD_kD, any_rp h]
theorem map_rp {A : AS} {H : Hp} {k : Key} {v : V} {d : PD} (r : Rp A H v d) : ∀ {kvs : List (Key × V)} {ds : List (PD × PD)}, RpKV A H kvs ds → RpKV A H (kvs.map fun p => if p.1 = k then (p.1, v) else p) (ds.map fun p => if keyIsD k p.1 = true then (p.1, d) else p)
  | _, _, .nil => .nil
  | _, _, .cons (k := q) (v := x) (d := y) q1 h => by
    simp only [List.map_cons, keyIsD_kD, decide_eq_true_eq]
    by_cases e : q = k
    · rw [if_pos e, if_pos e]; exact .cons r (map_rp r h)
    · rw [if_neg e, if_neg e]; exact .cons q1 (map_rp r h)
theorem RpKV.append {A : AS} {H : Hp} : ∀ {kvs kvs' : List (Key × V)} {ds ds' : List (PD × PD)}, RpKV A H kvs ds → RpKV A H kvs' ds' → RpKV A H (kvs ++ kvs') (ds ++ ds')
  | _, _, _, _, .nil, h => h
  | _, _, _, _, .cons r h, h' => .cons r (RpKV.append h h')
theorem RpKV.length {A : AS} {H : Hp} : ∀ {kvs : List (Key × V)} {ds : List (PD × PD)}, RpKV A H kvs ds → kvs.length = ds.length
  | _, _, .nil => rfl
  | _, _, .cons _ h => by simp [RpKV.length h]
theorem putK_rp {A : AS} {H : Hp} {k : Key} {v : V} {d : PD} (r : Rp A H v d) {kvs : List (Key × V)} {ds : List (PD × PD)} (h : RpKV A H kvs ds) : RpKV A H (putK kvs k v) (putD k d ds) := by
  unfold putK putD
  rw [any_rp h]
  split
  · exact map_rp r h
  · exact h.append (.cons r .nil)
/-- a store into slot i's own thing -/
def putAt (i : Nat) (d k : PD) : SM := fun ρ =>
  match ρ[i]? with
  | some (some (.own b o)) => match setIx o k d with
    | some o' => .nx (ρ.set i (some (.own b o')))
    | none => .no
  | _ => .no
def sPutIx (i : Nat) (fk : M Rv) (d : PD) : SM := fun ρ => if isOwn ρ i = true then bndS fk (fun r => bndS (rdM r) (putAt i d)) ρ else .no
theorem upd_own_list {A : AS} {H : Hp} {p : Addr} {xs ys : List V} {es : List PD} (hA : ¬ A p) (h : H p = some (.lst xs)) (r : RpAll A H ys es) : OwnObj A (upd H p (.lst ys)) p (.list es) :=
  ⟨ys, upd_same, r.kp (Kp.other hA h fun _ z => by cases z)⟩
theorem upd_own_dict {A : AS} {H : Hp} {p : Addr} {xs ys : List (Key × V)} {es : List (PD × PD)} (hA : ¬ A p) (h : H p = some (.dK xs)) (r : RpKV A H ys es) : OwnObj A (upd H p (.dK ys)) p (.dict es) :=
  ⟨ys, upd_same, r.kp (Kp.other hA h fun _ z => by cases z)⟩
theorem sim_tgsub {o ix : Expr} {i : Nat} {fk : M Rv} (hu : X.A.units + 1 < cLine) (ho : PE X o (tVar i)) (hi : SimE X W ix fk)
    (ha : ∀ v, assign (.Subscript o ix pos) X.env v = (do
      let ov ← holding [v] (eval o X.env)
      let iv ← holding [v, ov] (eval ix X.env)
      standAt pos
      holding [v, ov, iv] (setItem ov iv v)
      release [v, ov, iv] []) := by intro _; rfl) : SimTg X W (.Subscript o ix pos) (sPutIx i fk) := by
  obtain ⟨t, pk, hi⟩ := hi
  refine ⟨_, pg_sub ho pk (set_all hu) ha, fun F A H σ ρ v d D E R h => ?_⟩
  unfold sPutIx at h
  by_cases hown : isOwn ρ i = true
  case neg => rw [if_neg hown] at h; exact h.elim
  rw [if_pos hown] at h
  obtain ⟨b0, o0, e0⟩ : ∃ b o, ρ[i]? = some (some (.own b o)) := by
    unfold isOwn at hown
    split at hown
    · exact ⟨_, _, by assumption⟩
    · cases hown
  obtain ⟨w, e1, p, rfl, hA0, ob0⟩ := E.slot i _ e0
  refine ⟨.ref p, e1, ?_⟩
  refine hi F A H σ ρ E _ (PstS.split E h fun r ρ1 A1 H1 kv E1 S1 R1 h1 => ?_)
  obtain ⟨k, e2, h2⟩ := h1.rd
  have hk := RvR.rt E1 R1 e2
  have Rv' : Rp A1 H1 v d := Rp.kp (S1.kpr E) R
  unfold putAt at h2
  split at h2
  · rename_i b1 o1 e3
    obtain ⟨w', e4, p', rfl, hA1, ob1⟩ := E1.slot i _ e3
    rw [e1] at e4
    cases e4
    cases es : setIx o1 k d with
    | none => rw [es] at h2; exact h2.elim
    | some o' =>
      rw [es] at h2
      dsimp only at h2
      unfold setIx at es
      split at es
      · rename_i ds
        split at es
        · rename_i n
          cases ej : ixN ds.length n with
          | none => rw [ej] at es; cases es
          | some j =>
            rw [ej] at es
            cases es
            obtain ⟨xs, hx, rx⟩ := ob1
            have ow := upd_own_list hA1 hx (RpAll.set Rv' j rx)
            obtain ⟨E2, k2⟩ := E1.updOwn e3 e1 ow
            exact .inl ⟨p, xs, n, j, rfl, hk.int, hx, by rw [rx.length]; exact ej, h2 A1 _ σ E2 ((S1.kpr E).trans k2)⟩
        · cases es
      · rename_i kvs
        split at es
        · rename_i q hq
          split at es
          · rename_i hz
            cases es
            obtain ⟨hs, ek⟩ := keyD_eq hq
            obtain ⟨ex, _⟩ := sc_flat hk hs
            obtain ⟨xs, hx, rx⟩ := ob1
            have ow := upd_own_dict hA1 hx (putK_rp (k := q) Rv' rx)
            obtain ⟨E2, k2⟩ := E1.updOwn e3 e1 ow
            exact .inr ⟨p, q, xs, rfl, by rw [ex, ek], hx, by rw [rx.length]; exact smallL_lt hz, h2 A1 _ σ E2 ((S1.kpr E).trans k2)⟩
          · cases es
        · cases es
      · cases es
  · exact h2.elim
/-! xs.append(e) -/
def appAt (i : Nat) (d : PD) : SM := fun ρ =>
  match ρ[i]? with
  | some (some (.own b (.list ds))) => if smallL ds.length = true then .nx (ρ.set i (some (.own b (.list (ds ++ [d]))))) else .no
  | _ => .no
def isOwnLst (ρ : Dn) (i : Nat) : Bool :=
  match ρ[i]? with
  | some (some (.own _ (.list _))) => true
  | _ => false
def sApp (i : Nat) (f : M Rv) : SM := fun ρ => if isOwnLst ρ i = true then bndS f (fun r => bndS (frz r) (appAt i)) ρ else .no
theorem sim_app {o a : Expr} {i : Nat} {fa : M Rv} {apos cpos spos : Pos} (ho : PE X o (tVar i)) (ha : SimE X W a fa)
    (hbase : attributeBase o "append" X.env (eval o X.env) = eval o X.env := by rfl)
    (hfew : ((backTo cpos (starEach (a :: []) X.env)).all (fun x => !x.1) && (backToKw cpos (keywordEach [] X.env)).all (fun x => x.1.isSome)
      && decide ((a :: []).length + ([] : List Keyword).length + (if ([] : List Keyword).isEmpty then 0 else 1) < 30)) = true := by rfl)
    (hline : (apos.endLine == cpos.line) = true := by rfl) (hs : starEach (a :: []) X.env = (false, eval a X.env) :: starEach [] X.env := by rfl) (hplain : (backTo cpos (starEach [] X.env)).any (·.1) = false := by rfl)
    (hsw : swapsWith (.Call (.Attribute o "append" apos) [a] [] cpos) none spos.line X.env = pure false := by rfl) :
    SimS X W (.Expr (.Call (.Attribute o "append" apos) [a] [] cpos) spos) (sApp i fa) := by
  obtain ⟨t, pa, ha⟩ := ha
  refine ⟨_, ps_expr (pe_bm PySem.F.plainAttrs_list PySem.F.slot_list_append PySem.F.type_list_append mt_append ho (pa_cons pa pa_nil hs) hbase hfew hline hs hplain) hsw, fun F A H σ ρ D E h => ?_⟩
  unfold sApp at h
  by_cases hown : isOwnLst ρ i = true
  case neg => rw [if_neg hown] at h; exact h.elim
  rw [if_pos hown] at h
  obtain ⟨b0, o0, e0⟩ : ∃ b o, ρ[i]? = some (some (.own b (.list o))) := by
    unfold isOwnLst at hown
    split at hown
    · exact ⟨_, _, by assumption⟩
    · cases hown
  obtain ⟨w, e1, p, rfl, hA0, xs0, hx0, r0⟩ := E.slot i _ e0
  refine ⟨.ref p, e1, .inl ⟨rfl, xs0, SqL.of hx0⟩, ?_⟩
  refine ha F A H σ ρ E _ (PstS.split E h fun r ρ1 A1 H1 v E1 S1 R1 h1 => ?_)
  obtain ⟨d, A2, ρ2, E2, S2, R2, h2⟩ := h1.frz E1 S1 R1
  unfold appAt at h2
  split at h2
  · rename_i b1 ds e3
    split at h2
    · rename_i hz
      obtain ⟨w', e4, p', rfl, hA1, xs, hx, rx⟩ := E2.slot i _ e3
      rw [e1] at e4
      cases e4
      have ow := upd_own_list hA1 hx (rx.snoc R2)
      obtain ⟨E3, k3⟩ := E2.updOwn e3 e1 ow
      exact ⟨p, xs, v, rfl, rfl, hx, by rw [rx.length]; exact smallL_lt hz, h2 A2 _ σ E3 ((S2.kpr E).trans k3)⟩
    · exact h2.elim
  · exact h2.elim
/-! {} and d.get(k, x) -/
def eDict0 : M Rv := fun ρ => .ok (.fresh (.dict [])) ρ
theorem sim_dict0 : SimE X W (.Dict [] [] pos) eDict0 := by
  refine ⟨_, pe_dnewK, fun F A H σ ρ E Q h => ?_⟩
  intro p hp
  have ext := new_ext (o := .dK []) hp
  exact h A _ (.ref p) (E.ext ext) (Step.ext ext) ⟨p, rfl, ⟨E.free hp, E.owne hp, E.fnone hp, hp⟩, [], upd_same, .nil⟩
def getDf (d k x : PD) : Option PD :=
  match d with
  | .dict kvs => match keyD k with
    | some q => some ((look q kvs).getD x)
    | none => none
  | _ => none
def isDictV (r : Rv) : M Unit := fun ρ =>
  match rd r ρ with
  | some (.dict _) => .ok () ρ
  | _ => .no
def eGet2 (fo fk fx : M Rv) : M Rv := bnd fo fun o => bnd (isDictV o) fun _ => bnd fk fun k => bnd fx fun x => bnd (frz x) fun dx => bnd (rdM o) fun d => bnd (rdM k) fun kd =>
  match getDf d kd dx with
  | some c => retM (.val c)
  | none => noM
theorem sim_get2 {o k x : Expr} {fo fk fx : M Rv} {apos cpos : Pos} (hu : X.A.units + 1 < cLine) (ho : SimE X W o fo) (hk : SimE X W k fk) (hx : SimE X W x fx) (m : M2 X o "get" apos k x cpos) : SimE X W (.Call (.Attribute o "get" apos) [k, x] [] cpos) (eGet2 fo fk fx) := by
  obtain ⟨t, po, ho⟩ := ho
  obtain ⟨tk, pk, hk⟩ := hk
  obtain ⟨tx, px, hx⟩ := hx
  refine ⟨_, pe_dget2 hu po pk px m, fun F A H σ ρ E Q h => ?_⟩
  refine ho F A H σ ρ E _ (h.split fun r ρ1 A1 H1 v1 E1 S1 R1 h1 => ?_)
  have hd : ∃ kvs, rd r ρ1 = some (.dict kvs) ∧ Pst X.K X.mg W F A H σ ρ (RE F H σ) Q ((bnd fk fun k => bnd fx fun x => bnd (frz x) fun dx => bnd (rdM r) fun d => bnd (rdM k) fun kd =>
      match getDf d kd dx with
      | some c => retM (.val c)
      | none => noM) ρ1) := by
    unfold isDictV at h1
    simp only [bnd] at h1 ⊢
    split at h1
    · rename_i a ρ' e1
      split at e1
      · rename_i kvs e2
        cases e1
        exact ⟨kvs, e2, h1⟩
      · cases e1
    · rename_i e1; split at e1 <;> cases e1
    · exact h1.elim
  obtain ⟨kvs0, ed0, h1⟩ := hd
  obtain ⟨p, us0, ev, hp0, rr0⟩ := (RvR.rt E1 R1 ed0).dic
  subst ev
  refine ⟨p, rfl, .inl ⟨us0, .inl hp0⟩, ?_⟩
  refine hk F A1 H1 σ ρ1 E1 _ ((h1.after S1).split fun kr ρ2 A2 H2 v2 E2 S2 R2 h2 => ?_)
  refine hx F A2 H2 σ ρ2 E2 _ ((h2.after S2).split fun xr ρ3 A3 H3 v3 E3 S3 R3 h3 => ?_)
  obtain ⟨dx, A4, ρ4, E4, S4, R4, h4⟩ := Pst.frz E3 S3 R3 h3
  obtain ⟨d, e5, h5⟩ := h4.rd
  obtain ⟨kd, e6, h6⟩ := h5.rd
  have R1' : RvR F H A4 H3 σ ρ4 (.ref p) r := RvR.step E2 S4 (RvR.step E1 S2 R1)
  have R2' : RvR F H1 A4 H3 σ ρ4 v2 kr := RvR.step E2 S4 R2
  cases eg : getDf d kd dx with
  | none => rw [eg] at h6; exact h6.elim
  | some c =>
    rw [eg] at h6
    unfold getDf at eg
    split at eg
    · rename_i kvs
      split at eg
      · rename_i q hq
        cases eg
        obtain ⟨hs, ek⟩ := keyD_eq hq
        obtain ⟨ex, _⟩ := sc_flat (RvR.rt E4 R2' e6) hs
        obtain ⟨p', us, ev', h1', r1⟩ := (RvR.rt E4 R1' e5).dic
        cases ev'
        refine ⟨valV us q, ?_, ?_⟩
        · rw [ex, ek]; exact DGet.k h1'
        · rcases look_valV (k := q) r1 with ⟨a, b⟩ | ⟨d', v', a, b, rr⟩
          · rw [a] at h6; rw [b]; exact h6 A4 H3 v3 E4 S4 R4
          · rw [a] at h6; rw [b]; exact h6 A4 H3 v' E4 S4 rr
      · cases eg
    · cases eg
end
end DP
/-! DPR: dict comprehensions. -/
namespace DP
open PySem L2
def dcompL (g : PD → Dn → Option Dn) (vs : List Nat) (cond : M Bool) (kx : M Rv) (elt : M PD) : List PD → List (PD × PD) → M (List (PD × PD))
  | [], acc => fun ρ => .ok acc ρ
  | d :: ds, acc => fun ρ =>
    match g d ρ with
    | none => .no
    | some ρ1 => match cond ρ1 with
      | .ok true ρ2 => match kx ρ2 with
        | .ok kr ρ2k => match elt ρ2k with
          | .ok y ρ3 => match rd kr ρ3 with
            | some kd => match keyD kd with
              | some q => if smallL acc.length = true then dcompL g vs cond kx elt ds (putD q y acc) (wipeD ρ3 vs) else .no
              | none => .no
            | none => .no
          | _ => .no
        | _ => .no
      | .ok false ρ2 => dcompL g vs cond kx elt ds acc (wipeD ρ2 vs)
      | _ => .no
def eDComp (it : M (List PD)) (g : PD → Dn → Option Dn) (vs : List Nat) (cond : M Bool) (kx elt : M Rv) : M Rv := bnd it fun ds ρ =>
  if okW ρ vs = true then
    match dcompL g vs cond kx (bnd elt frz) ds [] (wipeD ρ vs) with
    | .ok acc ρ' => .ok (.fresh (.dict acc)) (backD ρ ρ' vs)
    | _ => .no
  else .no
section
variable {K : PySem.W.Frag} {mg : Str → Option Value} {W : WX} {vs : List Nat} {it : M (List PD)} {g : PD → Dn → Option Dn} {is : List Nat} {cond : M Bool} {kx elt : M Rv} {wi : TI} {tg : TG} {tt : TT} {tk te : TE}
theorem dc_run (hi : ∀ F A H σ ρ, ER K F A H σ ρ → ∀ R : It → Hp → Prop, Pst K mg W F A H σ ρ (fun A' H' _ J ds => ItR A' H' J ds) R (it ρ) → wi σ H R)
    (hg : ∀ F A H σ ρ v d ρ' (Q : L2.St → Hp → Prop), ER K F A H σ ρ → Rp A H v d → g d ρ = some ρ' → (∀ σ', ER K F A H σ' ρ' → (∀ j, j ∉ is → σ'[j]? = σ[j]? ∧ ρ'[j]? = ρ[j]?) → (∀ j, j ∈ is → ∃ d, ρ'[j]? = some (some (.imm d))) → σ'.length = σ.length → Q σ' H) → tg v σ H Q)
    (his : ∀ i ∈ is, i ∈ vs)
    (ht : ∀ F A H σ ρ, ER K F A H σ ρ → ∀ Q : Bool → Hp → Prop, Pst K mg noW F A H σ ρ RT Q (cond ρ) → tt σ H Q)
    (hkx : ∀ F A H σ ρ, ER K F A H σ ρ → ∀ Q : VK, Pst K mg noW F A H σ ρ (RE F H σ) Q (kx ρ) → tk σ H Q)
    (he : ∀ F A H σ ρ, ER K F A H σ ρ → ∀ Q : VK, Pst K mg noW F A H σ ρ (RE F H σ) Q (elt ρ) → te σ H Q) :
    ∀ F A H σ ρ, ER K F A H σ ρ → ∀ Q : VK, Pst K mg W F A H σ ρ (RE F H σ) Q (eDComp it g vs cond kx elt ρ) → tDc wi tg tt tk te vs σ H Q := by
  intro F A H σ ρ E Q h
  refine hi F A H σ ρ E _ (h.split (RR1 := fun A' H' _ J ds => ItR A' H' J ds) fun ds ρ1 A1 H1 J E1 S1 I1 h1 => ?_)
  intro D hD
  by_cases hk : okW ρ1 vs = true
  case neg => rw [if_neg hk] at h1; exact h1.elim
  rw [if_pos hk] at h1
  have hq : ∀ q ∈ F.ins, q.1 ∉ vs := fun q hq hv => by
    obtain ⟨_, d, e⟩ := E1.ins q hq
    obtain ⟨d', z⟩ := okW_get hk hv e
    cases z
  cases ec : dcompL g vs cond kx (bnd elt frz) ds [] (wipeD ρ1 vs) with
  | no => rw [ec] at h1; exact h1.elim
  | ex x ρ' => rw [ec] at h1; exact h1.elim
  | ok accF ρF =>
    rw [ec] at h1
    have extD : ∀ b o, H1 b = some o → upd H1 D (.dK []) b = some o := fun b o e => by rw [upd_ne (ne_of_none e hD)]; exact e
    have dA : ¬ A1 D := E1.free hD
    have dO : ¬ Ow σ ρ1 D := E1.owne hD
    have dF : F.H D = none := E1.fnone hD
    refine ⟨fun i m H' => m = ds.length - i ∧ i ≤ ds.length ∧ ∃ A' ρ' acc us, ER K F A' H' (wipe σ vs) ρ' ∧ StepV vs A1 H1 σ ρ1 A' H' (wipe σ vs) ρ' ∧ H' D = some (.dK us) ∧ ¬ A' D ∧ RpKV A' H' us acc ∧ (∀ i s, i ∈ vs → ρ'[i]? ≠ some (some s)) ∧
      dcompL g vs cond kx (bnd elt frz) (ds.drop i) acc ρ' = .ok accF ρF, ⟨ds.length, by simp, Nat.zero_le _, A1, wipeD ρ1 vs, [], [], (E1.wipe hq).ext extD, ⟨fun b o e _ => extD b o e, fun _ h => h, fun _ h => .inl h, fun p h => wipe_ow h, fun i s hi e => ⟨s, by rw [wipeD_out hi]; exact e⟩, fun b e => keep_none extD e, wipeD_len _ _⟩, upd_same, dA, .nil, fun i s hi => wipeD_in hi, by simpa using ec⟩, ?_⟩
    rintro i m H2 ⟨rfl, hi2, A2, ρ2, acc, us, E2, S2, hD2, dA2, r2, hw2, ec2⟩
    have k2 : Kp A1 A2 H1 H2 := S2.kpr E1
    obtain ⟨hstop, hgo⟩ := (I1.kp k2) A2 H2 Kp.refl E2.dom
    by_cases hlt : i < ds.length
    · have hd : ds[i]? = some ds[i] := by simp [hlt]
      obtain ⟨go, yld⟩ := hgo i _ hd
      rw [List.drop_eq_getElem_cons hlt] at ec2
      simp only [dcompL] at ec2
      cases eg : g ds[i] ρ2 with
      | none => rw [eg] at ec2; cases ec2
      | some ρ3 =>
        rw [eg] at ec2
        dsimp only at ec2
        refine .inr ⟨go, fun H' => ∃ A' ρ' acc us, ER K F A' H' (wipe σ vs) ρ' ∧ StepV vs A1 H1 σ ρ1 A' H' (wipe σ vs) ρ' ∧ H' D = some (.dK us) ∧ ¬ A' D ∧ RpKV A' H' us acc ∧ (∀ i s, i ∈ vs → ρ'[i]? ≠ some (some s)) ∧
          dcompL g vs cond kx (bnd elt frz) (ds.drop (i + 1)) acc ρ' = .ok accF ρF, fun H' z => ⟨ds.length - (i + 1), by omega, rfl, hlt, z⟩, fun x H3 y3 => ?_⟩
        obtain ⟨k3, r3⟩ := yld x H3 y3
        have E3 := E2.ext k3
        refine hg F A2 H3 (wipe σ vs) ρ2 x ds[i] ρ3 _ E3 r3 eg fun σ3 E4 n4 m4 l4 => ?_
        have ww : wipe σ3 vs = wipe σ vs := by
          rw [← wipe_wipe (σ := σ)]
          exact wipe_eq (fun j hj => (n4 j fun z => hj (his j z)).1) l4
        refine ⟨ww, ?_⟩
        -- what the target has done
        have l3 : ρ3.length = ρ2.length := by rw [← E4.len, l4, E3.len]
        have own3 : ∀ p, Ow σ3 ρ3 p → Ow (wipe σ vs) ρ2 p := fun p ⟨j, b, d, e1, e2⟩ => by
          by_cases hj : j ∈ is
          · obtain ⟨d', z⟩ := m4 j hj
            rw [z] at e1
            cases e1
          · exact ⟨j, b, d, by rw [← (n4 j hj).2]; exact e1, by rw [← (n4 j hj).1]; exact e2⟩
        have S3 : StepV vs A2 H2 (wipe σ vs) ρ2 A2 H3 σ3 ρ3 := ⟨fun b o e _ => k3 b o e, fun _ h => h, fun _ h => .inl h, own3, fun j s hj e => ⟨s, by rw [(n4 j fun z => hj (his j z)).2]; exact e⟩, fun b e => keep_none k3 e, l3⟩
        have r3' := r2.kp (Kp.ext (A := A2) k3)
        have hD3 := k3 D _ hD2
        have dO3 : ¬ Ow σ3 ρ3 D := fun z => dO (S2.sub D (own3 D z))
        have fin : ∀ {A5 : AS} {H5 : Hp} {ρ5 : Dn} {us5 : List (Key × V)} {acc5 : List (PD × PD)}, ER K F A5 H5 σ3 ρ5 → StepV vs A1 H1 σ ρ1 A5 H5 σ3 ρ5 → H5 D = some (.dK us5) → ¬ A5 D → RpKV A5 H5 us5 acc5 → dcompL g vs cond kx (bnd elt frz) (ds.drop (i + 1)) acc5 (wipeD ρ5 vs) = .ok accF ρF →
            ∃ A' ρ' acc us, ER K F A' H5 (wipe σ vs) ρ' ∧ StepV vs A1 H1 σ ρ1 A' H5 (wipe σ vs) ρ' ∧ H5 D = some (.dK us) ∧ ¬ A' D ∧ RpKV A' H5 us acc ∧ (∀ i s, i ∈ vs → ρ'[i]? ≠ some (some s)) ∧ dcompL g vs cond kx (bnd elt frz) (ds.drop (i + 1)) acc ρ' = .ok accF ρF :=
          fun {A5 H5 ρ5 us5 acc5} E5 S5 hD5 dA5 r5 e5 => ⟨A5, wipeD ρ5 vs, acc5, us5, by rw [← ww]; exact E5.wipe hq, by rw [← ww]; exact S5.trans StepV.wipe, hD5, dA5, r5, fun i s hi => wipeD_in hi, e5⟩
        refine ht F A2 H3 σ3 ρ3 E4 _ ?_
        cases et : cond ρ3 with
        | no => rw [et] at ec2; cases ec2
        | ex x ρ4 => rw [et] at ec2; cases ec2
        | ok b ρ4 =>
          rw [et] at ec2
          intro A4 H4 b' E5 S4 R4
          cases R4
          have hD4 : H4 D = some (.dK us) := S4.kp D _ hD3 dO3
          have grow4 : ∀ {A' : AS}, (∀ a, A' a → A2 a ∨ H3 a = none ∨ Ow σ3 ρ3 a) → ¬ A' D := fun gr z => by
            rcases gr D z with q | q | q
            · exact dA2 q
            · rw [hD3] at q; cases q
            · exact dO3 q
          cases b with
          | false =>
            rw [if_neg (by simp)]
            exact fin E5 ((S2.trans S3).trans S4.v) hD4 (grow4 S4.grow) (r3'.kp (S4.kpr E4)) ec2
          | true =>
            rw [if_pos rfl]
            dsimp only at ec2
            refine hkx F A4 H4 σ3 ρ4 E5 _ ?_
            cases ek : kx ρ4 with
            | no => rw [ek] at ec2; cases ec2
            | ex x ρ5 => rw [ek] at ec2; cases ec2
            | ok kr ρ4k =>
            rw [ek] at ec2
            dsimp only at ec2
            intro A4k H4k yk E5k S5k R5k
            refine he F A4k H4k σ3 ρ4k E5k _ ?_
            unfold bnd at ec2
            cases ee : elt ρ4k with
            | no => rw [ee] at ec2; cases ec2
            | ex x ρ5 => rw [ee] at ec2; cases ec2
            | ok rv ρ5 =>
              rw [ee] at ec2
              intro A5 H5 y E6 S5 R5
              dsimp only at ec2
              rcases frz_ok (r := rv) (ρ := ρ5) rfl with ez | ⟨d5, ρ6, ez⟩
              · rw [ez] at ec2; cases ec2
              · rw [ez] at ec2
                dsimp only at ec2
                obtain ⟨A6, E7, S6, R6, _⟩ := frz_run E6 S5 R5.q ez
                have Rk6 : RvR F H4 A6 H5 σ3 ρ6 yk kr := RvR.step E5k S6 R5k
                cases erk : rd kr ρ6 with
                | none => rw [erk] at ec2; cases ec2
                | some kd =>
                rw [erk] at ec2
                dsimp only at ec2
                cases eqk : keyD kd with
                | none => rw [eqk] at ec2; cases ec2
                | some q =>
                rw [eqk] at ec2
                dsimp only at ec2
                by_cases hz : smallL acc.length = true
                case neg => rw [if_neg hz] at ec2; cases ec2
                rw [if_pos hz] at ec2
                have S46 := S4.trans (S5k.trans S6)
                have hD5 : H5 D = some (.dK us) := S46.kp D _ hD3 dO3
                have dA6 := grow4 S46.grow
                have dO6 : ¬ Ow σ3 ρ6 D := fun z => dO3 (S46.sub D z)
                have r6 := r3'.kp (S46.kpr E4)
                obtain ⟨hsk, ekk⟩ := keyD_eq eqk
                obtain ⟨exk, _⟩ := sc_flat (RvR.rt E7 Rk6 erk) hsk
                have kD : Kp A6 A6 H5 (upd H5 D (.dK (putK us q y))) := Kp.other dA6 hD5 fun xs z => by cases z
                refine ⟨us, q, by rw [exk, ekk], hD5, by rw [r2.length]; exact smallL_lt hz, ?_⟩
                have E8 : ER K F A6 (upd H5 D (.dK (putK us q y))) σ3 ρ6 := E7.other dA6 dO6 dF hD5 (fun xs z => by cases z) fun q v z => by cases z
                have SB : StepV vs A1 H1 σ ρ1 A6 H5 σ3 ρ6 := (S2.trans S3).trans S46.v
                have S7 : StepV vs A1 H1 σ ρ1 A6 (upd H5 D (.dK (putK us q y))) σ3 ρ6 := by
                  refine ⟨fun b o e n => ?_, SB.mono, SB.grow, SB.sub, SB.def_, fun b e => ?_, SB.len⟩
                  · rw [upd_ne (ne_of_none e hD)]
                    exact SB.kp b o e n
                  · by_cases hb : b = D
                    · subst hb; rw [upd_same] at e; cases e
                    · rw [upd_ne hb] at e; exact SB.live b e
                exact fin E8 S7 upd_same dA6 (putK_rp (k := q) (Rp.kp kD R6) (r6.kp kD)) ec2
    · have e : i = ds.length := by omega
      subst e
      refine .inl ⟨hstop, ?_⟩
      rw [List.drop_length] at ec2
      cases ec2
      have EB := E1.back hk E2 k2 hw2 S2.len
      have ow : ∀ p, Ow σ (backD ρ1 ρF vs) p → Ow σ ρ1 p := fun p ⟨j, b, d, e1, e2⟩ => by
        by_cases hj : j ∈ vs
        · have hlt : j < ρF.length := by
            have := (List.getElem?_eq_some_iff.mp e1).1
            rw [backD_len] at this
            exact this
          rw [backD_in hlt hj] at e1
          have e3 := join_get (Option.some.inj e1)
          exact ⟨j, b, d, e3, e2⟩
        · rw [backD_out hj] at e1
          exact S2.sub p ⟨j, b, d, e1, by rw [wipe_out hj]; exact e2⟩
      have SE : Step A1 H1 σ ρ1 A2 H2 (backD ρ1 ρF vs) := ⟨S2.kp, S2.mono, S2.grow, ow, fun j s e => by
        by_cases hj : j ∈ vs
        · have hlt : j < ρF.length := by rw [S2.len]; exact (List.getElem?_eq_some_iff.mp e).1
          exact ⟨s, by rw [backD_in hlt hj, e]; rfl⟩
        · rw [backD_out hj]; exact S2.def_ j s hj e, S2.live, by rw [backD_len, S2.len]⟩
      exact h1 A2 H2 (.ref D) EB (S1.trans SE) ⟨D, rfl, ⟨dA2, fun z => dO (ow D z), dF, S1.live D hD⟩, us, hD2, r2⟩
end
section
variable {X : Cx} {W : WX} {kx elt tg iter : Expr} {ifs : List Expr} {scope : Scope} {own : List (Str × Nat)} {pos : Pos} {it : M (List PD)} {g : PD → Dn → Option Dn} {is : List Nat} {cond : M Bool} {fk f : M Rv}
theorem sim_dc (own : List (Str × Nat)) (hc : X.calm = true) (hN : X.N.Nodup) (hi : SimI X W tg iter it) (ok : BlkOk X.N X.env.scope scope own)
    (hg : ∀ (s : Shared) (H : Hp) (C : Addr) (cl : List (Str × Addr)) (fp : List Addr), SimG (X.blk s H scope (compEnvC scope cl C X.env) fp) tg g is)
    (ht : ∀ (s : Shared) (H : Hp) (C : Addr) (cl : List (Str × Addr)) (fp : List Addr), SimTs (X.blk s H scope (compEnvC scope cl C X.env) fp) ifs cond)
    (hk : ∀ (s : Shared) (H : Hp) (C : Addr) (cl : List (Str × Addr)) (fp : List Addr), SimE (X.blk s H scope (compEnvC scope cl C X.env) fp) noW kx fk)
    (he : ∀ (s : Shared) (H : Hp) (C : Addr) (cl : List (Str × Addr)) (fp : List Addr), SimE (X.blk s H scope (compEnvC scope cl C X.env) fp) noW elt f)
    (his : ∀ i ∈ is, i ∈ own.map (·.2)) (hs : ∀ x, foldedSetIterable iter X.env x = pure x := by intro _; rfl) : SimE X W (.DictComp kx elt [⟨tg, iter, ifs, 0⟩] scope pos) (eDComp it g (own.map (·.2)) cond fk f) := by
  obtain ⟨w, pi, hi⟩ := hi
  refine ⟨_, pe_dc (g := starG X.K g is) (tt := starTs X.K X.mg cond) (tk := starE X.K X.mg noW fk) (tv := starE X.K X.mg noW f) hc hN pi ok (fun s H C cl fp => (hg s H C cl fp).star) (fun s H C cl fp => (ht s H C cl fp).star) (fun s H C cl fp => (hk s H C cl fp).star) (fun s H C cl fp => (he s H C cl fp).star) hs, ?_⟩
  exact dc_run (K := X.K) (mg := X.mg) hi (fun F A H σ ρ v d ρ' Q E R eg q => ⟨F, A, d, ρ, ρ', E, R, eg, q⟩) his (fun F A H σ ρ E Q q => ⟨F, A, ρ, E, q⟩) (fun F A H σ ρ E Q q => ⟨F, A, ρ, E, q⟩) (fun F A H σ ρ E Q q => ⟨F, A, ρ, E, q⟩)
theorem sw_trueD {kx elt : Expr} {gs : List Comprehension} {scope : Scope} {pos py : Pos} {y : Str} {l : Nat} {env : PySem.Env} (hk : env.scope.kind = .function) (hy : env.scope.names.lookup y = some .local) (hl : (py.line == pos.line) = true)
    (ha : (scope.names.any fun (n, k) => n == y && (k == .local || k == .cell)) = false) : swapsWith (.DictComp kx elt gs scope pos) (some (.Name y py)) l env = pure true := by
  have ky : env.kindOf y = some .local := hy
  have hb : env.blockKind = .function := by unfold PySem.Env.blockKind; rw [hk]; rfl
  unfold swapsWith
  simp only [hb, ky, ha, Expr.pos, hl]
  rfl
theorem ps_setDc {i : Nat} {y : Str} {py spos : Pos} {wi : TI} {g : TG} {tt : TT} {tk tv : TE} (hc : X.calm = true) (hN : X.N.Nodup) (hy : X.N[i]? = some y) (hyl : X.env.scope.names.lookup y = some .local)
    (hsw : swapsWith (.DictComp kx elt [⟨tg, iter, ifs, 0⟩] scope pos) (some (.Name y py)) spos.line X.env = pure true) (hi : PI X tg iter wi) (ok : BlkOk X.N X.env.scope scope own)
    (hg : ∀ (s : Shared) (H : Hp) (C : Addr) (cl : List (Str × Addr)) (fp : List Addr), PG (X.blk s H scope (compEnvC scope cl C X.env) fp) tg g) (ht : ∀ (s : Shared) (H : Hp) (C : Addr) (cl : List (Str × Addr)) (fp : List Addr), PTs (X.blk s H scope (compEnvC scope cl C X.env) fp) ifs tt)
    (hk : ∀ (s : Shared) (H : Hp) (C : Addr) (cl : List (Str × Addr)) (fp : List Addr), PE (X.blk s H scope (compEnvC scope cl C X.env) fp) kx tk)
    (he : ∀ (s : Shared) (H : Hp) (C : Addr) (cl : List (Str × Addr)) (fp : List Addr), PE (X.blk s H scope (compEnvC scope cl C X.env) fp) elt tv) (hs : ∀ x, foldedSetIterable iter X.env x = pure x := by intro _; rfl) :
    PS X (.Assign [.Name y py] (.DictComp kx elt [⟨tg, iter, ifs, 0⟩] scope pos) spos) (tAsg (tDc wi g tt tk tv (own.map (·.2))) (gName i)) := by
  refine ⟨fun pins s σ H D I h => ?_⟩
  rw [exec_Assign_Name_used _ _ _ _ hsw]
  refine wpAny_bind (wpAny_standAt (wpAny_bind ?_))
  show wpAny _ X.A (do let _ ← comprehension (.DictComp kx elt [⟨tg, iter, ifs, 0⟩] scope pos) scope X.env (firstIterPos [⟨tg, iter, ifs, 0⟩] pos) newDict false (eval iter X.env) (some (assign (.Name y py) X.env))) _ _ s
  have h : tDc wi g tt tk tv (own.map (·.2)) σ H (fun x H1 => gName i x σ H1 D.nx) := h
  refine wpAny_bind (thn (dc_core (Qf := fun _ s' => SP X pins D .next s') hc hN I hi ok hg ht hk he hs h fun L C s' m H' I' q hn f => ?_) fun _ s' hq => wpAny_pure (wpAny_pure hq))
  show wpAny _ _ (assign (.Name y py) X.env (.ref L)) _ _ _
  refine wpAny_assign_Name (store_ok2 (v := V.ref L) I' hN hy (.inl hyl) rfl (fun s2 I2 ⟨a, sb, ha⟩ => ?_) (.inr hyl))
  obtain ⟨f0, f1, f2, f3, f4, f5⟩ := f
  have haC : C ≠ a := by
    rcases ha with z | z
    · rw [z]; exact f1
    · exact fun e => f4 y a z e.symm
  refine ⟨m, hn.sameBut sb haC, fun h3 sb3 => ?_⟩
  exact ⟨_, H', I2.turned (t' := s2.toks) (fun b o hb e => (sb3.2 b hb).trans e) f0 f1 f3 f4 f5, q⟩
theorem sim_setdc (own : List (Str × Nat)) {i : Nat} {y : Str} {py spos : Pos} (hc : X.calm = true) (hN : X.N.Nodup) (hy : X.N[i]? = some y) (hyl : X.env.scope.names.lookup y = some .local)
    (hw : swapsWith (.DictComp kx elt [⟨tg, iter, ifs, 0⟩] scope pos) (some (.Name y py)) spos.line X.env = pure true) (hi : SimI X W tg iter it) (ok : BlkOk X.N X.env.scope scope own)
    (hg : ∀ (s : Shared) (H : Hp) (C : Addr) (cl : List (Str × Addr)) (fp : List Addr), SimG (X.blk s H scope (compEnvC scope cl C X.env) fp) tg g is)
    (ht : ∀ (s : Shared) (H : Hp) (C : Addr) (cl : List (Str × Addr)) (fp : List Addr), SimTs (X.blk s H scope (compEnvC scope cl C X.env) fp) ifs cond)
    (hk : ∀ (s : Shared) (H : Hp) (C : Addr) (cl : List (Str × Addr)) (fp : List Addr), SimE (X.blk s H scope (compEnvC scope cl C X.env) fp) noW kx fk)
    (he : ∀ (s : Shared) (H : Hp) (C : Addr) (cl : List (Str × Addr)) (fp : List Addr), SimE (X.blk s H scope (compEnvC scope cl C X.env) fp) noW elt f)
    (his : ∀ i ∈ is, i ∈ own.map (·.2)) (hs : ∀ x, foldedSetIterable iter X.env x = pure x := by intro _; rfl) : SimS X W (.Assign [.Name y py] (.DictComp kx elt [⟨tg, iter, ifs, 0⟩] scope pos) spos) (sSet i (eDComp it g (own.map (·.2)) cond fk f)) := by
  obtain ⟨w, pi, hi⟩ := hi
  refine ⟨_, ps_setDc (g := starG X.K g is) (tt := starTs X.K X.mg cond) (tk := starE X.K X.mg noW fk) (tv := starE X.K X.mg noW f) hc hN hy hyl hw pi ok (fun s H C cl fp => (hg s H C cl fp).star) (fun s H C cl fp => (ht s H C cl fp).star) (fun s H C cl fp => (hk s H C cl fp).star) (fun s H C cl fp => (he s H C cl fp).star) hs, fun F A H σ ρ D E h => ?_⟩
  exact dc_run (K := X.K) (mg := X.mg) hi (fun F A H σ ρ v d ρ' Q E R eg q => ⟨F, A, d, ρ, ρ', E, R, eg, q⟩) his (fun F A H σ ρ E Q q => ⟨F, A, ρ, E, q⟩) (fun F A H σ ρ E Q q => ⟨F, A, ρ, E, q⟩) (fun F A H σ ρ E Q q => ⟨F, A, ρ, E, q⟩) F A H σ ρ E _
    (PstS.split E h fun r ρ1 A1 H1 v E1 S1 R1 h2 => putR_run (S1.kpr E) E1 R1 h2)
end
end DP
/-! DPL: what all the laws have: the script, the pool; several names set at once; the end. -/
namespace DP
open PySem L2
section
variable {X : Cx} {W : WX} {e : Expr} {fe : M Rv} {es : List Expr} {fs : M (List Rv)} {pos p : Pos}
/-! the script -/
def eLenScr (i : Nat) : M Rv := fun ρ =>
  match ρ[i]? with
  | some (some (.scr ns)) => .ok (.val (.int ns.length)) ρ
  | _ => .no
theorem Scr.sq {K : PySem.W.Frag} {H : Hp} {a : Addr} {xs : List V} (h : Scr K H a xs) : SqL K H a xs := h H fun _ _ e => e
theorem sim_lenscr {n : Expr} {i : Nat} (hv : PE X n (tVar i)) (hgl : Gl X "len") (hm : X.mg "len" = none) (hb : bootBuiltins "len" = some (.builtin "len")) (hs : starEach [n] X.env = (false, eval n X.env) :: starEach [] X.env := by rfl) (hpl : (backTo pos (starEach [] X.env)).any (·.1) = false := by rfl) : SimE X W (.Call (.Name "len" p) [n] [] pos) (eLenScr i) := by
  refine ⟨_, pe_callB call_len hgl hm hb (pa_cons hv pa_nil hs) (by decide) (by decide) hs hpl, fun F A H σ ρ E Q h => ?_⟩
  unfold eLenScr at h
  split at h
  · rename_i ns e1
    obtain ⟨v, e2, a, rfl, sc⟩ := E.slot i _ e1
    refine ⟨.ref a, e2, .ref a, _, rfl, .inl ⟨_, sc.sq, rfl⟩, ?_⟩
    rw [List.length_map]
    exact h A H _ E Step.refl (.int _)
  · exact h.elim
def eSlScr (i : Nat) (hi : Int) : M Rv := fun ρ =>
  match ρ[i]? with
  | some (some (.scr ns)) => .ok (.fresh (.list (cutD (ns.map .int) none (some hi)))) ρ
  | _ => .no
theorem sim_slscr {n : Expr} {i : Nat} {k : Int} {j : Nat} {p1 p2 : Pos} (hv : PE X n (tVar i)) : SimE X W (.Subscript n (.Slice none (some (.Constant (.int k) j p1)) none p2) pos) (eSlScr i k) := by
  refine ⟨_, pe_slice sl_list hv po_none (po_some pe_int), fun F A H σ ρ E Q h => ?_⟩
  unfold eSlScr at h
  split at h
  · rename_i ns e1
    obtain ⟨v, e2, a, rfl, sc⟩ := E.slot i _ e1
    refine ⟨.ref a, e2, k, rfl, a, _, rfl, sc.sq, fun p hp => ?_⟩
    have r := (rp_ints (A := A) (H := H) ns).cut none (some k)
    obtain ⟨E', S', R'⟩ := (nr_lst hp r).rv (Z := H) (fun _ h => h) E
    exact h A _ _ E' S' R'
  · exact h.elim
def eIxScr (i : Nat) (f : M Rv) : M Rv := bnd f fun r => bnd (rdM r) fun d ρ =>
  match ρ[i]?, d with
  | some (some (.scr ns)), .int k => match atI ns k with
    | some x => .ok (.val (.int x)) ρ
    | none => .no
  | _, _ => .no
def isScr (ρ : Dn) (i : Nat) : Bool :=
  match ρ[i]? with
  | some (some (.scr _)) => true
  | _ => false
def eIxScr' (i : Nat) (f : M Rv) : M Rv := fun ρ => if isScr ρ i = true then eIxScr i f ρ else .no
theorem atI_map {α β : Type} (f : α → β) {xs : List α} {k : Int} {x : α} (h : atI xs k = some x) : atI (xs.map f) k = some (f x) := by
  unfold atI at h ⊢
  rw [List.length_map]
  cases e : ixN xs.length k with
  | none => rw [e] at h; cases h
  | some j =>
    rw [e] at h
    simp only [Option.bind_some] at h ⊢
    rw [List.getElem?_map, h]
    rfl
theorem sim_ixscr {n ix : Expr} {i : Nat} {f : M Rv} (hv : PE X n (tVar i)) (hi : SimE X W ix f) (hs : PlainIx ix) : SimE X W (.Subscript n ix pos) (eIxScr' i f) := by
  obtain ⟨t, pi, hi⟩ := hi
  refine ⟨_, pe_ix ix_list hv pi hs, fun F A H σ ρ E Q h => ?_⟩
  unfold eIxScr' at h
  by_cases hsc : isScr ρ i = true
  case neg => rw [if_neg hsc] at h; exact h.elim
  rw [if_pos hsc] at h
  obtain ⟨ns0, e0⟩ : ∃ ns, ρ[i]? = some (some (.scr ns)) := by
    unfold isScr at hsc
    split at hsc
    · exact ⟨_, by assumption⟩
    · cases hsc
  obtain ⟨v, e2, a, rfl, sc⟩ := E.slot i _ e0
  refine ⟨.ref a, e2, ?_⟩
  refine hi F A H σ ρ E _ (Pst.split (m := f) h fun r ρ1 A1 H1 w E1 S1 R1 h1 => ?_)
  obtain ⟨d, e3, h2⟩ := h1.rd
  have hz := RvR.rt E1 R1 e3
  split at h2
  · rename_i ns k e4
    obtain ⟨v', e5, a', rfl, sc'⟩ := E1.slot i _ e4
    rw [e2] at e5
    cases e5
    cases ea : atI ns k with
    | none => rw [ea] at h2; exact h2.elim
    | some x =>
      rw [ea] at h2
      exact ⟨a, _, k, .int x, rfl, hz.int, sc'.sq, atI_map V.int ea, h2 A1 H1 _ E1 S1 (.int x)⟩
  · exact h2.elim
/-! a, b = x, y -/
def setAll : List Nat → List PD → Dn → Option Dn
  | [], [], ρ => some ρ
  | i :: is, d :: ds, ρ => if freeSl ρ i = true then setAll is ds (ρ.set i (some (.imm d))) else none
  | _, _, _ => none
def sPar (is : List Nat) (fs : M (List Rv)) : SM := bndS fs fun rs => bndS (frzs rs) fun ds ρ =>
  match setAll is ds ρ with
  | some ρ' => .nx ρ'
  | none => .no
theorem setAll_two {K : PySem.W.Frag} {F : Ent} {A : AS} {H : Hp} {σ : L2.St} {ρ ρ' : Dn} {i j : Nat} {v w : V} {c d : PD} (E : ER K F A H σ ρ) (r : Rp A H v c) (q : Rp A H w d) (h : setAll [i, j] [c, d] ρ = some ρ') : ER K F A H ((σ.set i (some v)).set j (some w)) ρ' := by
  simp only [setAll] at h
  split at h
  · rename_i h1
    split at h
    · rename_i h2
      cases h
      exact (E.setImm h1 r).setImm h2 q
    · cases h
  · cases h
theorem sim_par {i j : Nat} {x y : Str} {a b : Expr} {px py pt : Pos} {kt k2 pt2} (hc : X.calm = true) (hN : X.N.Nodup) (hi : X.N[i]? = some x) (hj : X.N[j]? = some y) (hij : i ≠ j)
    (hx : X.env.scope.names.lookup x = some .local) (hy : X.env.scope.names.lookup y = some .local) (ha : SimA X W [a, b] fs)
    (hw : swappedStores [.Tuple [.Name x px, .Name y py] kt pt] (.Tuple [a, b] k2 pt2) X.env = pure (some [x, y])) (hs : swapsWithSole [.Tuple [.Name x px, .Name y py] kt pt] (.Tuple [a, b] k2 pt2) pos.line X.env = pure false := by rfl) :
    SimS X W (.Assign [.Tuple [.Name x px, .Name y py] kt pt] (.Tuple [a, b] k2 pt2) pos) (sPar [i, j] fs) := by
  obtain ⟨t, pa, ha⟩ := ha
  refine ⟨_, ps_par hc hN hi hj hij hx hy pa hw hs, fun F A H σ ρ D E h => ?_⟩
  refine ha F A H σ ρ E _ (PstS.split E h fun rs ρ1 A1 H1 vs E1 S1 R1 h1 => ?_)
  unfold bndS at h1
  rcases frzs_ok (rs := rs) (ρ := ρ1) with e | ⟨ds, ρ2, e⟩
  · rw [e] at h1; exact h1.elim
  · rw [e] at h1
    dsimp only at h1
    obtain ⟨A2, E2, S2, R2, _⟩ := frzs_run E1 S1 R1.q e
    match ds, R2, h1 with
    | [c, d], .cons r (.cons q .nil), h1 =>
      cases es : setAll [i, j] [c, d] ρ2 with
      | none => rw [es] at h1; exact h1.elim
      | some ρ3 =>
        rw [es] at h1
        exact ⟨_, _, rfl, h1 A2 H1 _ (setAll_two E2 r q es) (S2.kpr E)⟩
    | [], _, h1 => exact h1.elim
    | [c], _, h1 =>
      have hn : setAll [i, j] [c] ρ2 = none := by simp only [setAll]; split <;> rfl
      rw [hn] at h1
      exact h1.elim
    | c :: d :: g :: ds, _, h1 =>
      have hn : setAll [i, j] (c :: d :: g :: ds) ρ2 = none := by simp only [setAll]; split <;> (try split) <;> rfl
      rw [hn] at h1
      exact h1.elim
/-! x += e, ints -/
def gAug (i : Nat) (g : PD → PD → Option Rc) (f : M Rv) : SM := fun ρ =>
  match eVar i ρ with
  | .ok x _ => bndS f (fun r => bndS (rdM x) fun d1 => bndS (rdM r) fun d2 => bndS (fin (g d1 d2)) (putR i)) ρ
  | _ => .no
end
/-! calls of defs that stand -/
structure Cal (P : Program) (w : World) (K : PySem.W.Frag) (mg : Str → Option Value) (base : Heap) (k : Nat) (x : Str) (ps : List Str) (ms : List Bool) (m : List PD → FR) : Prop where
  ex : ∃ (f : Addr) (fd : FuncData), FnOk P w K mg base CX0 k f fd ps (spD mg ms m) ∧ mg x = some (.ref f) ∧ PySem.W.keepIn K (.ref f) = true ∧ Binds K fd ps []
section
variable {X : Cx} {W : WX} {k : Nat} {ps : List Str} {x : Str} {p pos : Pos} {e : Expr} {es : List Expr} {fs : M (List Rv)} {ms : List Bool} {m : List PD → FR}
theorem sim_callC (C : Cal X.prog X.w X.K X.mg X.base k x ps ms m) (hr : Room k X.A) (hg : Gl X x) (ha : SimA X W (e :: es) fs)
    (hdb : (x == ("__debug__" : Str)) = false := by decide) (he : starEach (e :: es) X.env = (false, eval e X.env) :: starEach es X.env := by rfl) (hpl : (backTo pos (starEach es X.env)).any (·.1) = false := by rfl) : SimE X W (.Call (.Name x p) (e :: es) [] pos) (eCall ms m fs) := by
  obtain ⟨f, fd, F, h1, h2, h3⟩ := C.ex
  exact sim_call F hr hg h1 h2 h3 (fun σ => pass0S σ _) ha hdb he hpl
end
theorem u65 {A : Around} {k : Nat} (hr : Room k A) : A.units + 65 < cLine := by have := hr.un; omega
theorem gs_len0 : ∀ ds ρ ρ', gsNil ds ρ = some ρ' → ds.length = 0 := fun ds ρ ρ' h => by
  cases ds with
  | nil => rfl
  | cons _ _ => cases h
theorem gs_lenc {g : PD → Dn → Option Dn} {gs : List PD → Dn → Option Dn} {n : Nat} (h : ∀ ds ρ ρ', gs ds ρ = some ρ' → ds.length = n) : ∀ ds ρ ρ', gsCons g gs ds ρ = some ρ' → ds.length = n + 1 := fun ds ρ ρ' e => by
  cases ds with
  | nil => cases e
  | cons d ds =>
    simp only [gsCons] at e
    cases e1 : g d ρ with
    | none => rw [e1] at e; cases e
    | some ρ1 => rw [e1] at e; simp [h ds ρ1 ρ' e]
/-! the pool -/
def poolOf (ns : List Int) (k : Int) : Int × Int :=
  let cell := if k < (ns.length : Int) then (atI ns k).getD 0 else 11 * (ns.take 63).sum + k
  let great := if cell < 0 then -cell else cell
  let mixed := (great % 2147483629 + 7919 * k * k + 31 * k + 17) * 48271 % 2147483647
  (great * (if (10 : Int) ^ 18 ≤ great then 1 else 0), mixed * mixed % 2147483629)
def poolD (ns : List Int) (k : Int) : PD := .list [.int (poolOf ns k).1, .int (poolOf ns k).2]
def spPool (K : PySem.W.Frag) : Sp := fun vs H Q _ => ∃ (a : Addr) (ns : List Int) (k : Int), vs = [.ref a, .int k] ∧ Scr K H a (ns.map V.int) ∧ ns.length ≤ 63 ∧ 0 ≤ k ∧ k < 64 ∧
  ∀ p H', (∀ b o, H b = some o → H' b = some o) → H p = none → H' p = some (.lst [.int (poolOf ns k).1, .int (poolOf ns k).2]) → Q (.ref p) H'
def spLaw (K : PySem.W.Frag) : Sp := fun vs H Q _ => ∃ (a : Addr) (ns : List Int), vs = [.ref a] ∧ Scr K H a (ns.map V.int) ∧ ns.length ≤ 63 ∧ ∀ H', Q (.bl true) H'
/-- the start of a def that is handed the script -/
theorem ER.scr {K : PySem.W.Frag} {H : Hp} {a : Addr} {ns : List Int} {vs : List V} {ds : List PD} {N : List Str} (hs : Scr K H a (ns.map V.int)) (h : RpAll (fun _ => False) H vs ds) (hn : (.ref a :: vs : List V).length ≤ N.length) :
    ER K ⟨fun _ => False, H, []⟩ (fun _ => False) H (L2.start N (.ref a :: vs)) (some (.scr ns) :: (ds.map (fun d => some (.imm d)) ++ List.replicate (N.length - (ds.length + 1)) none)) := by
  have hl := h.length
  have key : ∀ {j : Nat} {s : Sl}, (some (.scr ns) :: (ds.map (fun d => some (Sl.imm d)) ++ List.replicate (N.length - (ds.length + 1)) none))[j]? = some (some s) → (j = 0 ∧ s = .scr ns) ∨ ∃ i d v, j = i + 1 ∧ s = .imm d ∧ vs[i]? = some v ∧ Rp (fun _ => False) H v d := fun {j s} e => by
    cases j with
    | zero => simp at e; exact .inl ⟨rfl, e.symm⟩
    | succ i =>
      right
      simp only [List.getElem?_cons_succ] at e
      by_cases hi : i < ds.length
      · rw [List.getElem?_append_left (by simpa using hi), List.getElem?_map] at e
        cases ed : ds[i]? with
        | none => rw [ed] at e; cases e
        | some d =>
          rw [ed] at e
          cases e
          obtain ⟨v, e1, r⟩ := h.get ed
          exact ⟨i, d, v, rfl, rfl, e1, r⟩
      · rw [List.getElem?_append_right (by simpa using hi)] at e
        exact absurd e rep_none
  have noOwn : ∀ {j : Nat} {b : Bool} {d : PD}, (some (.scr ns) :: (ds.map (fun d => some (Sl.imm d)) ++ List.replicate (N.length - (ds.length + 1)) none))[j]? ≠ some (some (.own b d)) := fun {j b d} e => by
    rcases key e with ⟨_, z⟩ | ⟨_, _, _, _, z, _⟩ <;> cases z
  refine ⟨by unfold L2.start; simp at hn ⊢; omega, fun j s e => ?_, fun i j b b' d d' p e1 _ _ _ => absurd e1 noOwn, fun _ h => h.elim, fun _ _ e _ => e, fun _ h => h, fun _ h => h.elim, fun j b d p e1 _ => absurd e1 noOwn, fun p hp => ?_, fun q hq => by cases hq⟩
  · rcases key e with ⟨rfl, rfl⟩ | ⟨i, d, v, rfl, rfl, e1, r⟩
    · exact ⟨.ref a, by unfold L2.start; simp, a, rfl, hs⟩
    · refine ⟨v, ?_, r⟩
      unfold L2.start
      have hi : i < vs.length := (List.getElem?_eq_some_iff.mp e1).1
      rw [List.getElem?_append_left (by simp; omega), List.getElem?_map]
      simp [e1]
  · exact fun h => h
section
variable {P : Program} {w : World} {K : PySem.W.Frag} {mg : Str → Option Value} {base : Heap} {x qual : Str} {st : Stmt} {f : Addr} {fd : FuncData} {N ps : List Str} {k : Nat} {b : SM}
theorem law_fn {y : Str} (F : Fun K x qual st f fd) (S : FnScope N [y] (defScope st)) (hN : 1 ≤ N.length)
    (hb : ∀ (cdv : Value) (A : Around) (outer : List PySem.Env) (s : Shared) (H : Hp) (E : XK), Room k (A.deeper (PyProof.Rows.envOfC qual (defScope st) s.heap.objs.size f cdv)) → SimB (cxOf CX0 P w K mg base N qual (defScope st) f cdv A outer s H E).nox noW (defBody st) b)
    (hl : ∀ ns : List Int, ns.length ≤ 63 → ∃ ρ', b (some (.scr ns) :: List.replicate (N.length - 1) none) = .rt (.val (.bool true)) ρ') : FnOk P w K mg base CX0 (k + 1) f fd [y] (spLaw K) := by
  refine F.ok S (fun vs H Q E ⟨a, ns, h, _⟩ => by rw [h]; rfl) fun cdv A outer s H vs Q E hr ⟨a, ns, hv, hs, hn, q⟩ => ?_
  subst hv
  obtain ⟨t, p, h⟩ := hb cdv A outer s H E hr
  obtain ⟨ρ', e⟩ := hl ns hn
  refine ⟨t, p, h ⟨fun _ => False, H, []⟩ (fun _ => False) H _ _ _ (ER.scr (N := N) (vs := []) (ds := []) hs .nil (by simpa using hN)) ?_⟩
  have e' : (some (Sl.scr ns) :: (List.map (fun d => some (Sl.imm d)) ([] : List PD) ++ List.replicate (N.length - (([] : List PD).length + 1)) none)) = (some (.scr ns) :: List.replicate (N.length - 1) none) := by simp
  rw [e', e]
  intro A' H' σ' v _ _ R
  cases R
  exact q H'
theorem pool_fn {y z : Str} (F : Fun K x qual st f fd) (S : FnScope N [y, z] (defScope st)) (hN : 2 ≤ N.length)
    (hb : ∀ (cdv : Value) (A : Around) (outer : List PySem.Env) (s : Shared) (H : Hp) (E : XK), Room k (A.deeper (PyProof.Rows.envOfC qual (defScope st) s.heap.objs.size f cdv)) → SimB (cxOf CX0 P w K mg base N qual (defScope st) f cdv A outer s H E).nox noW (defBody st) b)
    (hl : ∀ (ns : List Int) (k : Int), ns.length ≤ 63 → 0 ≤ k → k < 64 → ∃ ρ', b (some (.scr ns) :: some (.imm (.int k)) :: List.replicate (N.length - 2) none) = .rt (.fresh (poolD ns k)) ρ') : FnOk P w K mg base CX0 (k + 1) f fd [y, z] (spPool K) := by
  refine F.ok S (fun vs H Q E ⟨a, ns, i, h, _⟩ => by rw [h]; rfl) fun cdv A outer s H vs Q E hr ⟨a, ns, i, hv, hs, hn, h0, h1, q⟩ => ?_
  subst hv
  obtain ⟨t, p, h⟩ := hb cdv A outer s H E hr
  obtain ⟨ρ', e⟩ := hl ns i hn h0 h1
  refine ⟨t, p, h ⟨fun _ => False, H, []⟩ (fun _ => False) H _ _ _ (ER.scr (N := N) (vs := [.int i]) (ds := [.int i]) hs (.cons (.int i) .nil) (by simpa using hN)) ?_⟩
  have e' : (some (Sl.scr ns) :: (List.map (fun d => some (Sl.imm d)) ([.int i] : List PD) ++ List.replicate (N.length - (([.int i] : List PD).length + 1)) none)) = (some (.scr ns) :: some (.imm (.int i)) :: List.replicate (N.length - 2) none) := by simp
  rw [e', e]
  intro A' H' σ' v E' _ R
  obtain ⟨pp, rfl, ⟨_, _, _, hz⟩, xs, hx, rx⟩ := R
  cases rx with
  | cons r1 rx =>
    cases rx with
    | cons r2 rx =>
      cases rx
      cases r1
      cases r2
      exact q pp H' (fun b o e => E'.kp b o e fun ⟨q, hq, _⟩ => by cases hq) hz hx
end
section
variable {X : Cx} {W : WX} {k : Nat} {ps : List Str} {x : Str} {p pos : Pos} {n e : Expr} {fe : M Rv}
def ePool (i : Nat) (f : M Rv) : M Rv := fun ρ => if isScr ρ i = true then (bnd f fun r => bnd (rdM r) fun d ρ =>
  match ρ[i]?, d with
  | some (some (.scr ns)), .int k => if ns.length ≤ 63 ∧ 0 ≤ k ∧ k < 64 then .ok (.fresh (poolD ns k)) ρ else .no
  | _, _ => .no) ρ else .no
theorem sim_pool {i : Nat} {f : Addr} {fd : FuncData} (F : FnOk X.prog X.w X.K X.mg X.base CX0 k f fd ps (spPool X.K)) (hr : Room k X.A) (hg : Gl X x) (hm : X.mg x = some (.ref f)) (hk : PySem.W.keepIn X.K (.ref f) = true) (hb : Binds X.K fd ps []) (hv : PE X n (tVar i)) (he' : SimE X W e fe)
    (hdb : (x == ("__debug__" : Str)) = false := by decide) (he : starEach (n :: [e]) X.env = (false, eval n X.env) :: starEach [e] X.env := by rfl) (he2 : starEach (e :: []) X.env = (false, eval e X.env) :: starEach [] X.env := by rfl) (hpl : (backTo pos (starEach [e] X.env)).any (·.1) = false := by rfl) : SimE X W (.Call (.Name x p) (n :: [e]) [] pos) (ePool i fe) := by
  obtain ⟨t, pe, h0⟩ := he'
  refine ⟨_, pe_call F hr hg hm hk hb .nil pass0 (pa_cons hv (pa_cons pe pa_nil he2) he) hdb he hpl, fun F A H σ ρ E Q h => ?_⟩
  unfold ePool at h
  by_cases hsc : isScr ρ i = true
  case neg => rw [if_neg hsc] at h; exact h.elim
  rw [if_pos hsc] at h
  obtain ⟨ns0, e0⟩ : ∃ ns, ρ[i]? = some (some (.scr ns)) := by
    unfold isScr at hsc
    split at hsc
    · exact ⟨_, by assumption⟩
    · cases hsc
  obtain ⟨v, e2, a, rfl, sc⟩ := E.slot i _ e0
  refine ⟨.ref a, e2, ?_⟩
  refine h0 F A H σ ρ E _ (Pst.split (m := fe) h fun r ρ1 A1 H1 w E1 S1 R1 h1 => ?_)
  obtain ⟨d, e3, h2⟩ := h1.rd
  have hz := RvR.rt E1 R1 e3
  split at h2
  · rename_i ns k e4
    obtain ⟨v', e5, a', rfl, sc'⟩ := E1.slot i _ e4
    rw [e2] at e5
    cases e5
    split at h2
    · rename_i hc
      refine ⟨a, ns, k, by rw [hz.int]; rfl, sc', hc.1, hc.2.1, hc.2.2, fun p H' kp hp hl => ?_⟩
      have nr : NewR A1 H1 H' (.ref p) (.fresh (poolD ns k)) := ⟨kp, p, rfl, hp, _, hl, .cons (.int _) (.cons (.int _) .nil)⟩
      obtain ⟨E', S', R'⟩ := nr.rv S1.live E1
      exact h2 A1 H' _ E' (S1.trans S') R'
    · exact h2.elim
  · exact h2.elim
end
end DP
/-! DPF: defs as the head tells them (FunD). -/
namespace DP
open PySem L2
section
variable {P : Program} {w : World} {K : PySem.W.Frag} {mg : Str → Option Value} {base : Heap} {x qual : Str} {st : Stmt} {f : Addr} {fd : FuncData} {N ps : List Str} {k : Nat} {b : SM} {dvs : List V} {kws : List (Str × V)}
abbrev FnP (K : PySem.W.Frag) (x : Str) (st : Stmt) (dvs : List V) (f : Addr) (fd : FuncData) : Prop := FunD K x x (defArgs st) (defBody st) (defScope st) dvs [] f fd
theorem fn_simD {ms : List Bool} (F : FunD K x qual (defArgs st) (defBody st) (defScope st) dvs kws f fd) (S : FnScope N ps (defScope st)) (hm : ms.length = ps.length)
    (hb : ∀ (cdv : Value) (A : Around) (outer : List PySem.Env) (s : Shared) (H : Hp) (E : XK), Room k (A.deeper (PyProof.Rows.envOfC qual (defScope st) s.heap.objs.size f cdv)) → SimB (cxOf CX0 P w K mg base N qual (defScope st) f cdv A outer s H E).nox noW (defBody st) b) :
    FnOk P w K mg base CX0 (k + 1) f fd ps (spD mg ms fun ds => (runF N.length ms b ds).calm) := by
  refine F.ok S (fun vs H Q E ⟨A, ds, qs, _, h, _⟩ => by rw [h.length, hm]) fun cdv A outer s H vs Q E hr ⟨Z, ds, qs, hd, ha, hq⟩ => ?_
  obtain ⟨t, p, h⟩ := hb cdv A outer s H E hr
  exact ⟨t, PSs.nox p, h _ Z H _ _ _ (ER.begins hd ha) (run_end (E := fun _ _ _ => False) ha (by
    dsimp only at hq
    cases er : runF N.length ms b ds with
    | ok c o => rw [er] at hq; exact hq
    | ex e o => rw [er] at hq; exact hq.elim
    | no => rw [er] at hq; exact hq) fun _ _ _ _ z => z)⟩
theorem law_fnD {y : Str} (F : FunD K x qual (defArgs st) (defBody st) (defScope st) dvs kws f fd) (S : FnScope N [y] (defScope st)) (hN : 1 ≤ N.length)
    (hb : ∀ (cdv : Value) (A : Around) (outer : List PySem.Env) (s : Shared) (H : Hp) (E : XK), Room k (A.deeper (PyProof.Rows.envOfC qual (defScope st) s.heap.objs.size f cdv)) → SimB (cxOf CX0 P w K mg base N qual (defScope st) f cdv A outer s H E).nox noW (defBody st) b)
    (hl : ∀ ns : List Int, ns.length ≤ 63 → ∃ ρ', b (some (.scr ns) :: List.replicate (N.length - 1) none) = .rt (.val (.bool true)) ρ') : FnOk P w K mg base CX0 (k + 1) f fd [y] (spLaw K) := by
  refine F.ok S (fun vs H Q E ⟨a, ns, h, _⟩ => by rw [h]; rfl) fun cdv A outer s H vs Q E hr ⟨a, ns, hv, hs, hn, q⟩ => ?_
  subst hv
  obtain ⟨t, p, h⟩ := hb cdv A outer s H E hr
  obtain ⟨ρ', e⟩ := hl ns hn
  refine ⟨t, PSs.nox p, h ⟨fun _ => False, H, []⟩ (fun _ => False) H _ _ _ (ER.scr (N := N) (vs := []) (ds := []) hs .nil (by simpa using hN)) ?_⟩
  have e' : (some (Sl.scr ns) :: (List.map (fun d => some (Sl.imm d)) ([] : List PD) ++ List.replicate (N.length - (([] : List PD).length + 1)) none)) = (some (.scr ns) :: List.replicate (N.length - 1) none) := by simp
  rw [e', e]
  intro A' H' σ' v _ _ R
  cases R
  exact q H'
theorem pool_fnD {y z : Str} (F : FunD K x qual (defArgs st) (defBody st) (defScope st) dvs kws f fd) (S : FnScope N [y, z] (defScope st)) (hN : 2 ≤ N.length)
    (hb : ∀ (cdv : Value) (A : Around) (outer : List PySem.Env) (s : Shared) (H : Hp) (E : XK), Room k (A.deeper (PyProof.Rows.envOfC qual (defScope st) s.heap.objs.size f cdv)) → SimB (cxOf CX0 P w K mg base N qual (defScope st) f cdv A outer s H E).nox noW (defBody st) b)
    (hl : ∀ (ns : List Int) (k : Int), ns.length ≤ 63 → 0 ≤ k → k < 64 → ∃ ρ', b (some (.scr ns) :: some (.imm (.int k)) :: List.replicate (N.length - 2) none) = .rt (.fresh (poolD ns k)) ρ') : FnOk P w K mg base CX0 (k + 1) f fd [y, z] (spPool K) := by
  refine F.ok S (fun vs H Q E ⟨a, ns, i, h, _⟩ => by rw [h]; rfl) fun cdv A outer s H vs Q E hr ⟨a, ns, i, hv, hs, hn, h0, h1, q⟩ => ?_
  subst hv
  obtain ⟨t, p, h⟩ := hb cdv A outer s H E hr
  obtain ⟨ρ', e⟩ := hl ns i hn h0 h1
  refine ⟨t, PSs.nox p, h ⟨fun _ => False, H, []⟩ (fun _ => False) H _ _ _ (ER.scr (N := N) (vs := [.int i]) (ds := [.int i]) hs (.cons (.int i) .nil) (by simpa using hN)) ?_⟩
  have e' : (some (Sl.scr ns) :: (List.map (fun d => some (Sl.imm d)) ([.int i] : List PD) ++ List.replicate (N.length - (([.int i] : List PD).length + 1)) none)) = (some (.scr ns) :: some (.imm (.int i)) :: List.replicate (N.length - 2) none) := by simp
  rw [e', e]
  intro A' H' σ' v E' _ R
  obtain ⟨pp, rfl, ⟨_, _, _, hz⟩, xs, hx, rx⟩ := R
  cases rx with
  | cons r1 rx =>
    cases rx with
    | cons r2 rx =>
      cases rx
      cases r1
      cases r2
      exact q pp H' (fun b o e => E'.kp b o e fun ⟨q, hq, _⟩ => by cases hq) hz hx
theorem binds_allD {bd : List Stmt} {sc : Scope} {ar : Arguments} (F : FunD K x qual ar bd sc dvs kws f fd) (n : Nat) (hd : dvs ≠ []) (hn : n = ps.length)
    (h : ∀ (T : Addr) (kV doc pm : Value) (an : Option Addr) (cdv ct : Value) (us its : List Value), us.length = n → its.length = dvs.length →
      ∃ k, bindArgs (PySem.W.fnOf x qual ar bd sc (.ref T) kV doc pm an cdv ct) ⟨us, []⟩ = seqItems? (.ref T) >>= k ∧ k (some its.toArray) = pure (ps.zip us)) : Binds K fd ps [] := by
  obtain ⟨ds, r, b⟩ := FunD.binds1 (ps := ps) F n dvs.length hd (by omega) fun T kV doc pm an cdv ct us its l1 l2 => by
    obtain ⟨k, e1, e2⟩ := h T kV doc pm an cdv ct us its l1 l2
    refine ⟨k, e1, ?_⟩
    rw [e2]
    have : its.drop dvs.length = [] := by simp [← l2]
    rw [this, List.append_nil]
  rw [List.drop_length] at r
  cases r
  exact b
theorem Scr.of {H : Hp} {a : Addr} {xs : List V} (hO : Only H) (hS : SqL K H a xs) : Scr K H a xs := fun H' h => by
  rcases hS with hr | hr
  · rcases hO a with e | ⟨o, ys, e⟩
    · rcases hr with q | ⟨o, q⟩ <;> rw [e] at q <;> cases q
    · rcases hr with q | ⟨o', q⟩
      · rw [e] at q; cases q
      · exact .inl (.inr ⟨o', h o' _ q⟩)
  · exact .inr hr
end
/-- an argument that is read and kept: its slot becomes data that stays -/
def eFz (f : M Rv) : M Rv := bnd f fun r => bnd (frz r) fun d => retM (.val d)
theorem sim_fz {X : Cx} {W : WX} {e : Expr} {fe : M Rv} (h : SimE X W e fe) : SimE X W e (eFz fe) := by
  obtain ⟨t, p, h⟩ := h
  refine ⟨t, p, fun F A H σ ρ E Q hp => h F A H σ ρ E Q (hp.split fun r ρ1 A1 H1 v E1 S1 R1 h1 => ?_)⟩
  obtain ⟨d, A2, ρ2, E2, S2, R2, h2⟩ := h1.frz E1 S1 R1
  exact h2 A2 H1 v E2 S2 R2
end DP
namespace LW
open PySem L2 DP
def top (i : Nat) : Stmt := PySem.Challenge.pw_leastbroken_k14_whole_what_is_pushed_is.main.body.getD i (.Pass ⟨0, 0, 0, 0⟩)

def fu_pushed_1 : Nat := 1000
structure Txt (K : PySem.W.Frag) (mg : Str → Option Value) : Prop where
  b_abs : mg "abs" = none
  b_int : mg "int" = none
  b_len : mg "len" = none
  b_max : mg "max" = none
  b_min : mg "min" = none
  b_range : mg "range" = none
  b_sorted : mg "sorted" = none
  b_sum : mg "sum" = none
  b_tuple : mg "tuple" = none
theorem bt_abs : bootBuiltins "abs" = some (.builtin "abs") := by decide +kernel
theorem bt_int : bootBuiltins "int" = some (.type "int") := by decide +kernel
theorem bt_len : bootBuiltins "len" = some (.builtin "len") := by decide +kernel
theorem bt_max : bootBuiltins "max" = some (.builtin "max") := by decide +kernel
theorem bt_min : bootBuiltins "min" = some (.builtin "min") := by decide +kernel
theorem bt_sorted : bootBuiltins "sorted" = some (.builtin "sorted") := by decide +kernel
theorem bt_sum : bootBuiltins "sum" = some (.builtin "sum") := by decide +kernel
theorem bt_tuple : bootBuiltins "tuple" = some (.type "tuple") := by decide +kernel
section
variable {P : Program} {w : World} {K : PySem.W.Frag} {mg : Str → Option Value} {base : Heap}
/-! room -/
abbrev st_room : Stmt := top 1
abbrev N_room : List Str := ["one", "known", "terms", "least", "factor", "mark"]
theorem sc_room : FnScope N_room ["one", "known"] (defScope st_room) := ⟨rfl, rfl, rfl, by decide +kernel, rfl, by decide +kernel, by decide +kernel⟩
def b_room : SM := (sSeq (sAsg (eVar 0) (gTupM (gsCons (gNm 2) (gsCons (gNm 3) gsNil))))
    (sRet (eOp2 gSub (eOpN gSum (aCons (eComp (iSeqM (eVar 2)) (gTupM (gsCons (gNm 4) (gsCons (gNm 5) gsNil))) [4, 5] (tBool (eOp2 (gIn true) (eOp1 gNeg (eVar 5)) (eVar 1))) (eVar 4)) aNil)) (eVar 3))))
def m_room : List PD → FR := fun ds => (runF N_room.length [false, false] b_room ds).calm
theorem me_room (ds : List PD) : m_room ds = (runF 6 [false, false] b_room ds).calm := Eq.trans rfl rfl
theorem ok_room {f : Addr} {fd : FuncData} {dvs : List V} (F : FnP K "room" st_room dvs f fd) (T : Txt K mg)  : FnOk P w K mg base CX0 1 f fd ["one", "known"] (spD mg [false, false] m_room) := fn_simD (b := b_room) F sc_room rfl (fun cdv A outer s H E hr => (sim_seq (sim_asg (sim_var (pv 0)) (sim_gtup rfl (sim_gscons (sim_gname (i := 2) sc_room.nd rfl (.inl rfl)) (sim_gscons (sim_gname (i := 3) sc_room.nd rfl (.inl rfl)) sim_gsnil)) (gs_lenc (gs_lenc gs_len0))))
    (sim_one (sim_ret (sim_op op_sub o2_sub (sim_callB (cr_sum rfl) (on_sum _) (by rfl) T.b_sum bt_sum (sim_acons (sim_lc [("factor", 4), ("mark", 5)] rfl sc_room.nd (sim_iseq (sim_var (pv 2))) (blkOk_by (N := N_room) (sc := defScope st_room) (by decide +kernel)) (fun _ _ _ _ _ => (sim_gtup rfl (sim_gscons (sim_gname (i := 4) sc_room.nd rfl (.inl rfl)) (sim_gscons (sim_gname (i := 5) sc_room.nd rfl (.inl rfl)) sim_gsnil)) (gs_lenc (gs_lenc gs_len0)))) (fun _ _ _ _ _ => (sim_tsone (sim_tcmp (or_notIn (u65 hr)) (o2_notIn _) (sim_un un_neg o1_neg (sim_var (pv 5))) (sim_var (pv 1)) rfl))) (fun _ _ _ _ _ => (sim_var (pv 4))) (by decide)) sim_anil)) (sim_var (pv 3)))))))
/-! pushed_by -/
abbrev st_pushed_by : Stmt := top 2
abbrev N_pushed_by : List Str := ["one", "known", "spare", "found", "factor", "mark"]
theorem sc_pushed_by : FnScope N_pushed_by ["one", "known"] (defScope st_pushed_by) := ⟨rfl, rfl, rfl, by decide +kernel, rfl, by decide +kernel, by decide +kernel⟩
def b_pushed_by : SM := (sSeq (sSet 2 (eCall [false, false] m_room (aCons (eVar 0) (aCons (eVar 1) aNil))))
    (sSeq (sIf (tBool (eOp2 gLt (eVar 2) (eC (.int 0)))) (sRet (eTup (aCons (eLst aNil) (aCons (eC (.bool true)) aNil)))) sNil)
    (sSeq (sSet 3 (eComp (iSeqM (eOp2 gIx (eVar 0) (eC (.int 0)))) (gTupM (gsCons (gNm 4) (gsCons (gNm 5) gsNil))) [4, 5] (tAndM (tBool (eOp2 gGt (eVar 4) (eVar 2))) (tAndM (tBool (eOp2 (gIn true) (eVar 5) (eVar 1))) (tBool (eOp2 (gIn true) (eOp1 gNeg (eVar 5)) (eVar 1))))) (eVar 5)))
    (sRet (eTup (aCons (eVar 3) (aCons (eC (.bool false)) aNil)))))))
def m_pushed_by : List PD → FR := fun ds => (runF N_pushed_by.length [false, false] b_pushed_by ds).calm
theorem me_pushed_by (ds : List PD) : m_pushed_by ds = (runF 6 [false, false] b_pushed_by ds).calm := Eq.trans rfl rfl
theorem ok_pushed_by {f : Addr} {fd : FuncData} {dvs : List V} (F : FnP K "pushed_by" st_pushed_by dvs f fd) (T : Txt K mg) (C_room : Cal P w K mg base 1 "room" ["one", "known"] [false, false] m_room) : FnOk P w K mg base CX0 2 f fd ["one", "known"] (spD mg [false, false] m_pushed_by) := fn_simD (b := b_pushed_by) F sc_pushed_by rfl (fun cdv A outer s H E hr => (sim_seq (sim_set (i := 2) sc_pushed_by.nd rfl (.inr rfl) (sim_callC C_room (hr.mono (by decide)) (by rfl) (sim_acons (sim_var (pv 0)) (sim_acons (sim_var (pv 1)) sim_anil))))
    (sim_seq (sim_if (sim_tcmp op_lt o2_lt (sim_var (pv 2)) sim_int (nomark _)) (sim_one (sim_ret (sim_tup (sim_acons (sim_lst sim_anil) (sim_acons sim_bl sim_anil))))) sim_nil)
    (sim_seq (sim_setlc [("factor", 4), ("mark", 5)] (i := 3) rfl sc_pushed_by.nd rfl rfl (sw_true rfl rfl rfl (by decide +kernel)) (sim_iseq (sim_ix (ir_all (hu_of hr)) (o2_ix _) (sim_var (pv 0)) sim_int (fun _ _ => rfl))) (blkOk_by (N := N_pushed_by) (sc := defScope st_pushed_by) (by decide +kernel)) (fun _ _ _ _ _ => (sim_gtup rfl (sim_gscons (sim_gname (i := 4) sc_pushed_by.nd rfl (.inl rfl)) (sim_gscons (sim_gname (i := 5) sc_pushed_by.nd rfl (.inl rfl)) sim_gsnil)) (gs_lenc (gs_lenc gs_len0)))) (fun _ _ _ _ _ => (sim_tsone (SimW.t (sim_wand (sim_tcmp op_gt o2_gt (sim_var (pv 4)) (sim_var (pv 2)) (nomark _)) (sim_wand (sim_tcmp (or_notIn (u65 hr)) (o2_notIn _) (sim_var (pv 5)) (sim_var (pv 1)) rfl) (sim_wand1 (sim_tcmp (or_notIn (u65 hr)) (o2_notIn _) (sim_un un_neg o1_neg (sim_var (pv 5))) (sim_var (pv 1)) rfl))))))) (fun _ _ _ _ _ => (sim_var (pv 5))) (by decide))
    (sim_one (sim_ret (sim_tup (sim_acons (sim_var (pv 3)) (sim_acons sim_bl sim_anil)))))))))
/-! pushed -/
abbrev st_pushed : Stmt := top 3
abbrev N_pushed : List Str := ["some", "marks", "known", "mark", "again", "one", "found", "is_burst"]
theorem sc_pushed : FnScope N_pushed ["some", "marks"] (defScope st_pushed) := ⟨rfl, rfl, rfl, by decide +kernel, rfl, by decide +kernel, by decide +kernel⟩
def b_pushed : SM := (sSeq (sSet 2 (eDComp (iSeqM (eVar 1)) (gNm 3) [3] (retM true) (eVar 3) (eC (.bool true))))
    (sSeq (sSet 4 (eC (.bool true)))
    (sSeq (whL (tBool (eVar 4)) (sSeq (sSet 4 (eC (.bool false)))
    (sFor (iSeqM (eVar 0)) (gNm 5) (sSeq (sAsg (eCall [false, false] m_pushed_by (aCons (eVar 5) (aCons (eVar 2) aNil))) (gTupM (gsCons (gNm 6) (gsCons (gNm 7) gsNil))))
    (sSeq (sIf (tBool (eVar 7)) (sRet (eTup (aCons (eC (.str "bursts")) (aCons (eOpN gSorted (aCons (eVar 2) aNil)) aNil)))) sNil)
    (sFor (iSeqM (eVar 6)) (gNm 3) (sAsgG2 (eC (.bool true)) (sPutIx 2 (eVar 3)) (tgOf (gNm 4)))))))) fu_pushed_1)
    (sRet (eTup (aCons (eC (.str "rests")) (aCons (eOpN gSorted (aCons (eVar 2) aNil)) aNil)))))))
def m_pushed : List PD → FR := fun ds => (runF N_pushed.length [false, false] b_pushed ds).calm
theorem me_pushed (ds : List PD) : m_pushed ds = (runF 8 [false, false] b_pushed ds).calm := Eq.trans rfl rfl
theorem ok_pushed {f : Addr} {fd : FuncData} {dvs : List V} (F : FnP K "pushed" st_pushed dvs f fd) (T : Txt K mg) (C_pushed_by : Cal P w K mg base 2 "pushed_by" ["one", "known"] [false, false] m_pushed_by) : FnOk P w K mg base CX0 3 f fd ["some", "marks"] (spD mg [false, false] m_pushed) := fn_simD (b := b_pushed) F sc_pushed rfl (fun cdv A outer s H E hr => (sim_seq (sim_setdc [("mark", 3)] (i := 2) rfl sc_pushed.nd rfl rfl (sw_trueD rfl rfl rfl (by decide +kernel)) (sim_iseq (sim_var (pv 1))) (blkOk_by (N := N_pushed) (sc := defScope st_pushed) (by decide +kernel)) (fun _ _ _ _ _ => (sim_gname (i := 3) sc_pushed.nd rfl (.inl rfl))) (fun _ _ _ _ _ => sim_tsnil) (fun _ _ _ _ _ => (sim_var (pv 3))) (fun _ _ _ _ _ => sim_bl) (by decide))
    (sim_seq (sim_set (i := 4) sc_pushed.nd rfl (.inl rfl) sim_bl)
    (sim_seq (sim_while fu_pushed_1 PassesOwn.never (sim_tval (sim_var (pv 4))) (sim_seq (sim_set (i := 4) sc_pushed.nd rfl (.inl rfl) sim_bl)
    (sim_one (sim_for PassesOwn.never rfl (sim_iseq (sim_var (pv 0))) (sim_gname (i := 5) sc_pushed.nd rfl (.inl rfl)) (sim_seq (sim_asg (sim_callC C_pushed_by (hr.mono (by decide)) (by rfl) (sim_acons (sim_var (pv 5)) (sim_acons (sim_var (pv 2)) sim_anil))) (sim_gtup rfl (sim_gscons (sim_gname (i := 6) sc_pushed.nd rfl (.inl rfl)) (sim_gscons (sim_gname (i := 7) sc_pushed.nd rfl (.inl rfl)) sim_gsnil)) (gs_lenc (gs_lenc gs_len0))))
    (sim_seq (sim_if (sim_tval (sim_var (pv 7))) (sim_one (sim_ret (sim_tup (sim_acons sim_str (sim_acons (sim_callB ((cr_sortedD hr.units).or (call_sortedDI rfl)) (on_sorted _) (by rfl) T.b_sorted bt_sorted (sim_acons (sim_var (pv 2)) sim_anil)) sim_anil))))) sim_nil)
    (sim_one (sim_for PassesOwn.never rfl (sim_iseq (sim_var (pv 6))) (sim_gname (i := 3) sc_pushed.nd rfl (.inl rfl)) (sim_one (sim_asgG2 sim_bl (sim_tgsub (hu_of hr) (pv 2) (sim_var (pv 3))) (SimG.toTg (sim_gname (i := 4) sc_pushed.nd rfl (.inl rfl)))))))))))))
    (sim_one (sim_ret (sim_tup (sim_acons sim_str (sim_acons (sim_callB ((cr_sortedD hr.units).or (call_sortedDI rfl)) (on_sorted _) (by rfl) T.b_sorted bt_sorted (sim_acons (sim_var (pv 2)) sim_anil)) sim_anil)))))))))
/-! _law_pool -/
abbrev st__law_pool : Stmt := top 5
abbrev N__law_pool : List Str := ["_law_script", "_law_k", "_law_cell", "_law_great", "_law_mixed"]
theorem sc__law_pool : FnScope N__law_pool ["_law_script", "_law_k"] (defScope st__law_pool) := ⟨rfl, rfl, rfl, by decide +kernel, rfl, by decide +kernel, by decide +kernel⟩
def b__law_pool : SM := (sSeq (sSet 2 (eOp2 gAdd (eOp2 gMul (eC (.int 11)) (eOpN gSum (aCons (eSlScr 0 63) aNil))) (eVar 1)))
    (sSeq (sIf (tBool (eOp2 gLt (eVar 1) (eLenScr 0))) (sSet 2 (eIxScr' 0 (eVar 1))) sNil)
    (sSeq (sSet 3 (eOpN gAbs (aCons (eVar 2) aNil)))
    (sSeq (sSet 4 (eOp2 gMod (eOp2 gMul (eOp2 gAdd (eOp2 gAdd (eOp2 gAdd (eOp2 gMod (eVar 3) (eC (.int 2147483629))) (eOp2 gMul (eOp2 gMul (eC (.int 7919)) (eVar 1)) (eVar 1))) (eOp2 gMul (eC (.int 31)) (eVar 1))) (eC (.int 17))) (eC (.int 48271))) (eC (.int 2147483647))))
    (sRet (eLst (aCons (eOp2 gMul (eVar 3) (eOpN gInt (aCons (eOp2 gGe (eVar 3) (eOp2 gPow (eC (.int 10)) (eC (.int 18)))) aNil))) (aCons (eOp2 gMod (eOp2 gMul (eVar 4) (eVar 4)) (eC (.int 2147483629))) aNil))))))))
theorem ok__law_pool {f : Addr} {fd : FuncData} {dvs : List V} (F : FnP K "_law_pool" st__law_pool dvs f fd) (T : Txt K mg) (hl : ∀ (ns : List Int) (k : Int), ns.length ≤ 63 → 0 ≤ k → k < 64 → ∃ ρ', b__law_pool (some (.scr ns) :: some (.imm (.int k)) :: List.replicate (N__law_pool.length - 2) none) = .rt (.fresh (poolD ns k)) ρ') : FnOk P w K mg base CX0 1 f fd ["_law_script", "_law_k"] (spPool K) := pool_fnD (b := b__law_pool) F sc__law_pool (by decide) (fun cdv A outer s H E hr => (sim_seq (sim_set (i := 2) sc__law_pool.nd rfl (.inl rfl) (sim_op or_add (o2_add _) (sim_op or_mul o2_mul sim_int (sim_callB (cr_sum rfl) (on_sum _) (by rfl) T.b_sum bt_sum (sim_acons (sim_slscr (pv 0)) sim_anil))) (sim_var (pv 1))))
    (sim_seq (sim_if (sim_tcmp op_lt o2_lt (sim_var (pv 1)) (sim_lenscr (pv 0) (by rfl) T.b_len bt_len) (nomark _)) (sim_one (sim_set (i := 2) sc__law_pool.nd rfl (.inl rfl) (sim_ixscr (pv 0) (sim_var (pv 1)) (fun _ _ => rfl)))) sim_nil)
    (sim_seq (sim_set (i := 3) sc__law_pool.nd rfl (.inl rfl) (sim_callB call_abs on_abs (by rfl) T.b_abs bt_abs (sim_acons (sim_var (pv 2)) sim_anil)))
    (sim_seq (sim_set (i := 4) sc__law_pool.nd rfl (.inl rfl) (sim_op op_mod o2_mod (sim_op or_mul o2_mul (sim_op or_add (o2_add _) (sim_op or_add (o2_add _) (sim_op or_add (o2_add _) (sim_op op_mod o2_mod (sim_var (pv 3)) sim_int) (sim_op or_mul o2_mul (sim_op or_mul o2_mul sim_int (sim_var (pv 1))) (sim_var (pv 1)))) (sim_op or_mul o2_mul sim_int (sim_var (pv 1)))) sim_int) sim_int) sim_int))
    (sim_one (sim_ret (sim_lst (sim_acons (sim_op or_mul o2_mul (sim_var (pv 3)) (sim_callTy call_int1 on_int (by rfl) T.b_int bt_int (sim_acons (sim_cmp op_ge o2_ge (sim_var (pv 3)) (sim_op op_pow o2_pow sim_int sim_int) (nomark _)) sim_anil))) (sim_acons (sim_op op_mod o2_mod (sim_op or_mul o2_mul (sim_var (pv 4)) (sim_var (pv 4))) sim_int) sim_anil)))))))))) hl
/-! _law_take -/
abbrev st__law_take : Stmt := top 6
abbrev N__law_take : List Str := ["_law_pool_here", "_law_many", "_law_found"]
theorem sc__law_take : FnScope N__law_take ["_law_pool_here", "_law_many"] (defScope st__law_take) := ⟨rfl, rfl, rfl, by decide +kernel, rfl, by decide +kernel, by decide +kernel⟩
def b__law_take : SM := (sSeq (sIf (tBool (eOp2 gGt (eOp2 gIx (eVar 0) (eC (.int 0))) (eC (.int 0)))) (sSeq (sSet 2 (eOp2 gMod (eOp2 gIx (eVar 0) (eC (.int 0))) (eVar 1)))
    (sSeq (sAsgG (eOp2 gFdiv (eOp2 gIx (eVar 0) (eC (.int 0))) (eVar 1)) (sPutIx 0 (eC (.int 0))))
    (sRet (eVar 2)))) sNil)
    (sSeq (sAsgG (eOp2 gMod (eOp2 gAdd (eOp2 gMul (eOp2 gIx (eVar 0) (eC (.int 1))) (eC (.int 48271))) (eC (.int 11))) (eC (.int 2147483647))) (sPutIx 0 (eC (.int 1))))
    (sRet (eOp2 gMod (eOp2 gFdiv (eOp2 gMod (eOp2 gMul (eOp2 gIx (eVar 0) (eC (.int 1))) (eOp2 gIx (eVar 0) (eC (.int 1)))) (eC (.int 2147483629))) (eC (.int 16))) (eVar 1)))))
def m__law_take : List PD → FR := fun ds => (runF N__law_take.length [true, false] b__law_take ds).calm
theorem me__law_take (ds : List PD) : m__law_take ds = (runF 3 [true, false] b__law_take ds).calm := Eq.trans rfl rfl
theorem ok__law_take {f : Addr} {fd : FuncData} {dvs : List V} (F : FnP K "_law_take" st__law_take dvs f fd) (T : Txt K mg)  : FnOk P w K mg base CX0 1 f fd ["_law_pool_here", "_law_many"] (spD mg [true, false] m__law_take) := fn_simD (b := b__law_take) F sc__law_take rfl (fun cdv A outer s H E hr => (sim_seq (sim_if (sim_tcmp op_gt o2_gt (sim_ix (ir_all (hu_of hr)) (o2_ix _) (sim_var (pv 0)) sim_int (fun _ _ => rfl)) sim_int (nomark _)) (sim_seq (sim_set (i := 2) sc__law_take.nd rfl (.inl rfl) (sim_op op_mod o2_mod (sim_ix (ir_all (hu_of hr)) (o2_ix _) (sim_var (pv 0)) sim_int (fun _ _ => rfl)) (sim_var (pv 1))))
    (sim_seq (sim_asgG (sim_op op_fdivW o2_fdiv (sim_ix (ir_all (hu_of hr)) (o2_ix _) (sim_var (pv 0)) sim_int (fun _ _ => rfl)) (sim_var (pv 1))) (sim_tgsub (hu_of hr) (pv 0) sim_int))
    (sim_one (sim_ret (sim_var (pv 2)))))) sim_nil)
    (sim_seq (sim_asgG (sim_op op_mod o2_mod (sim_op or_add (o2_add _) (sim_op or_mul o2_mul (sim_ix (ir_all (hu_of hr)) (o2_ix _) (sim_var (pv 0)) sim_int (fun _ _ => rfl)) sim_int) sim_int) sim_int) (sim_tgsub (hu_of hr) (pv 0) sim_int))
    (sim_one (sim_ret (sim_op op_mod o2_mod (sim_op op_fdivW o2_fdiv (sim_op op_mod o2_mod (sim_op or_mul o2_mul (sim_ix (ir_all (hu_of hr)) (o2_ix _) (sim_var (pv 0)) sim_int (fun _ _ => rfl)) (sim_ix (ir_all (hu_of hr)) (o2_ix _) (sim_var (pv 0)) sim_int (fun _ _ => rfl))) sim_int) sim_int) (sim_var (pv 1))))))))
/-! _law_fillings -/
abbrev st__law_fillings : Stmt := top 7
abbrev N__law_fillings : List Str := ["_law_many", "_law_found", "_law_turn", "_law_row"]
theorem sc__law_fillings : FnScope N__law_fillings ["_law_many"] (defScope st__law_fillings) := ⟨rfl, rfl, rfl, by decide +kernel, rfl, by decide +kernel, by decide +kernel⟩
def b__law_fillings : SM := (sSeq (sSet 1 (eLst (aCons (eTup aNil) aNil)))
    (sSeq (sFor (iRng1M (aCons (eVar 0) aNil)) (gNm 2) (sSet 1 (eOp2 gAdd (eComp (iSeqM (eVar 1)) (gNm 3) [3] (retM true) (eOp2 gAdd (eVar 3) (eTup (aCons (eC (.bool false)) aNil)))) (eComp (iSeqM (eVar 1)) (gNm 3) [3] (retM true) (eOp2 gAdd (eVar 3) (eTup (aCons (eC (.bool true)) aNil)))))))
    (sRet (eOpN gSorted (aCons (eVar 1) aNil)))))
def m__law_fillings : List PD → FR := fun ds => (runF N__law_fillings.length [false] b__law_fillings ds).calm
theorem me__law_fillings (ds : List PD) : m__law_fillings ds = (runF 4 [false] b__law_fillings ds).calm := Eq.trans rfl rfl
theorem ok__law_fillings {f : Addr} {fd : FuncData} {dvs : List V} (F : FnP K "_law_fillings" st__law_fillings dvs f fd) (T : Txt K mg)  : FnOk P w K mg base CX0 1 f fd ["_law_many"] (spD mg [false] m__law_fillings) := fn_simD (b := b__law_fillings) F sc__law_fillings rfl (fun cdv A outer s H E hr => (sim_seq (sim_set (i := 1) sc__law_fillings.nd rfl (.inl rfl) (sim_lst (sim_acons (sim_tup sim_anil) sim_anil)))
    (sim_seq (sim_for PassesOwn.never rfl (sim_irng1 (by rfl) T.b_range (sim_acons (sim_var (pv 0)) sim_anil)) (sim_gname (i := 2) sc__law_fillings.nd rfl (.inl rfl)) (sim_one (sim_set (i := 1) sc__law_fillings.nd rfl (.inl rfl) (sim_op or_add (o2_add _) (sim_lc [("_law_row", 3)] rfl sc__law_fillings.nd (sim_iseq (sim_var (pv 1))) (blkOk_by (N := N__law_fillings) (sc := defScope st__law_fillings) (by decide +kernel)) (fun _ _ _ _ _ => (sim_gname (i := 3) sc__law_fillings.nd rfl (.inl rfl))) (fun _ _ _ _ _ => sim_tsnil) (fun _ _ _ _ _ => (sim_op or_add (o2_add _) (sim_var (pv 3)) (sim_tup (sim_acons sim_bl sim_anil)))) (by decide)) (sim_lc [("_law_row", 3)] rfl sc__law_fillings.nd (sim_iseq (sim_var (pv 1))) (blkOk_by (N := N__law_fillings) (sc := defScope st__law_fillings) (by decide +kernel)) (fun _ _ _ _ _ => (sim_gname (i := 3) sc__law_fillings.nd rfl (.inl rfl))) (fun _ _ _ _ _ => sim_tsnil) (fun _ _ _ _ _ => (sim_op or_add (o2_add _) (sim_var (pv 3)) (sim_tup (sim_acons sim_bl sim_anil)))) (by decide))))))
    (sim_one (sim_ret (sim_callB ((cr_sortedD hr.units).or (call_sortedDI rfl)) (on_sorted _) (by rfl) T.b_sorted bt_sorted (sim_acons (sim_var (pv 1)) sim_anil)))))))
/-! _law_is_so -/
abbrev st__law_is_so : Stmt := top 8
abbrev N__law_is_so : List Str := ["_law_mark", "_law_filling"]
theorem sc__law_is_so : FnScope N__law_is_so ["_law_mark", "_law_filling"] (defScope st__law_is_so) := ⟨rfl, rfl, rfl, by decide +kernel, rfl, by decide +kernel, by decide +kernel⟩
def b__law_is_so : SM := (sRet (eOp2 (gEq false) (eOp2 gIx (eVar 1) (eOp2 gSub (eOpN gAbs (aCons (eVar 0) aNil)) (eC (.int 1)))) (eOp2 gGt (eVar 0) (eC (.int 0)))))
def m__law_is_so : List PD → FR := fun ds => (runF N__law_is_so.length [false, false] b__law_is_so ds).calm
theorem me__law_is_so (ds : List PD) : m__law_is_so ds = (runF 2 [false, false] b__law_is_so ds).calm := Eq.trans rfl rfl
theorem ok__law_is_so {f : Addr} {fd : FuncData} {dvs : List V} (F : FnP K "_law_is_so" st__law_is_so dvs f fd) (T : Txt K mg)  : FnOk P w K mg base CX0 1 f fd ["_law_mark", "_law_filling"] (spD mg [false, false] m__law_is_so) := fn_simD (b := b__law_is_so) F sc__law_is_so rfl (fun cdv A outer s H E hr => (sim_one (sim_ret (sim_cmp (op_eqD hr.units) (o2_eq _) (sim_ix (ir_all (hu_of hr)) (o2_ix _) (sim_var (pv 1)) (sim_op op_sub o2_sub (sim_callB call_abs on_abs (by rfl) T.b_abs bt_abs (sim_acons (sim_var (pv 0)) sim_anil)) sim_int) (fun _ _ => rfl)) (sim_cmp op_gt o2_gt (sim_var (pv 0)) sim_int (nomark _)) (nomark _)))))
/-! _law_holds -/
abbrev st__law_holds : Stmt := top 9
abbrev N__law_holds : List Str := ["_law_want", "_law_filling", "_law_mark"]
theorem sc__law_holds : FnScope N__law_holds ["_law_want", "_law_filling"] (defScope st__law_holds) := ⟨rfl, rfl, rfl, by decide +kernel, rfl, by decide +kernel, by decide +kernel⟩
def b__law_holds : SM := (sRet (eOp2 (gEq true) (eComp (iSeqM (eVar 0)) (gNm 2) [2] (tBool (eCall [false, false] m__law_is_so (aCons (eVar 2) (aCons (eVar 1) aNil)))) (eVar 2)) (eLst aNil)))
def m__law_holds : List PD → FR := fun ds => (runF N__law_holds.length [false, false] b__law_holds ds).calm
theorem me__law_holds (ds : List PD) : m__law_holds ds = (runF 3 [false, false] b__law_holds ds).calm := Eq.trans rfl rfl
theorem ok__law_holds {f : Addr} {fd : FuncData} {dvs : List V} (F : FnP K "_law_holds" st__law_holds dvs f fd) (T : Txt K mg) (C__law_is_so : Cal P w K mg base 1 "_law_is_so" ["_law_mark", "_law_filling"] [false, false] m__law_is_so) : FnOk P w K mg base CX0 2 f fd ["_law_want", "_law_filling"] (spD mg [false, false] m__law_holds) := fn_simD (b := b__law_holds) F sc__law_holds rfl (fun cdv A outer s H E hr => (sim_one (sim_ret (sim_cmp (op_neD hr.units) (o2_ne _) (sim_lc [("_law_mark", 2)] rfl sc__law_holds.nd (sim_iseq (sim_var (pv 0))) (blkOk_by (N := N__law_holds) (sc := defScope st__law_holds) (by decide +kernel)) (fun _ _ _ _ _ => (sim_gname (i := 2) sc__law_holds.nd rfl (.inl rfl))) (fun _ _ _ _ _ => (sim_tsone (sim_tval (sim_callC C__law_is_so (hr.mono (by decide)) (by rfl) (sim_acons (sim_var (pv 2)) (sim_acons (sim_var (pv 1)) sim_anil)))))) (fun _ _ _ _ _ => (sim_var (pv 2))) (by decide)) (sim_lst sim_anil) (nomark _)))))
/-! _law_weight -/
abbrev st__law_weight : Stmt := top 10
abbrev N__law_weight : List Str := ["_law_one", "_law_filling", "_law_factor", "_law_mark"]
theorem sc__law_weight : FnScope N__law_weight ["_law_one", "_law_filling"] (defScope st__law_weight) := ⟨rfl, rfl, rfl, by decide +kernel, rfl, by decide +kernel, by decide +kernel⟩
def b__law_weight : SM := (sRet (eOpN gSum (aCons (eComp (iSeqM (eOp2 gIx (eVar 0) (eC (.int 0)))) (gTupM (gsCons (gNm 2) (gsCons (gNm 3) gsNil))) [2, 3] (tBool (eCall [false, false] m__law_is_so (aCons (eVar 3) (aCons (eVar 1) aNil)))) (eVar 2)) aNil)))
def m__law_weight : List PD → FR := fun ds => (runF N__law_weight.length [false, false] b__law_weight ds).calm
theorem me__law_weight (ds : List PD) : m__law_weight ds = (runF 4 [false, false] b__law_weight ds).calm := Eq.trans rfl rfl
theorem ok__law_weight {f : Addr} {fd : FuncData} {dvs : List V} (F : FnP K "_law_weight" st__law_weight dvs f fd) (T : Txt K mg) (C__law_is_so : Cal P w K mg base 1 "_law_is_so" ["_law_mark", "_law_filling"] [false, false] m__law_is_so) : FnOk P w K mg base CX0 2 f fd ["_law_one", "_law_filling"] (spD mg [false, false] m__law_weight) := fn_simD (b := b__law_weight) F sc__law_weight rfl (fun cdv A outer s H E hr => (sim_one (sim_ret (sim_callB (cr_sum rfl) (on_sum _) (by rfl) T.b_sum bt_sum (sim_acons (sim_lc [("_law_factor", 2), ("_law_mark", 3)] rfl sc__law_weight.nd (sim_iseq (sim_ix (ir_all (hu_of hr)) (o2_ix _) (sim_var (pv 0)) sim_int (fun _ _ => rfl))) (blkOk_by (N := N__law_weight) (sc := defScope st__law_weight) (by decide +kernel)) (fun _ _ _ _ _ => (sim_gtup rfl (sim_gscons (sim_gname (i := 2) sc__law_weight.nd rfl (.inl rfl)) (sim_gscons (sim_gname (i := 3) sc__law_weight.nd rfl (.inl rfl)) sim_gsnil)) (gs_lenc (gs_lenc gs_len0)))) (fun _ _ _ _ _ => (sim_tsone (sim_tval (sim_callC C__law_is_so (hr.mono (by decide)) (by rfl) (sim_acons (sim_var (pv 3)) (sim_acons (sim_var (pv 1)) sim_anil)))))) (fun _ _ _ _ _ => (sim_var (pv 2))) (by decide)) sim_anil)))))
/-! _law_reach -/
abbrev st__law_reach : Stmt := top 11
abbrev N__law_reach : List Str := ["_law_one", "_law_factor", "_law_mark"]
theorem sc__law_reach : FnScope N__law_reach ["_law_one"] (defScope st__law_reach) := ⟨rfl, rfl, rfl, by decide +kernel, rfl, by decide +kernel, by decide +kernel⟩
def b__law_reach : SM := (sRet (eOpN gSum (aCons (eComp (iSeqM (eOp2 gIx (eVar 0) (eC (.int 0)))) (gTupM (gsCons (gNm 1) (gsCons (gNm 2) gsNil))) [1, 2] (retM true) (eVar 1)) aNil)))
def m__law_reach : List PD → FR := fun ds => (runF N__law_reach.length [false] b__law_reach ds).calm
theorem me__law_reach (ds : List PD) : m__law_reach ds = (runF 3 [false] b__law_reach ds).calm := Eq.trans rfl rfl
theorem ok__law_reach {f : Addr} {fd : FuncData} {dvs : List V} (F : FnP K "_law_reach" st__law_reach dvs f fd) (T : Txt K mg)  : FnOk P w K mg base CX0 1 f fd ["_law_one"] (spD mg [false] m__law_reach) := fn_simD (b := b__law_reach) F sc__law_reach rfl (fun cdv A outer s H E hr => (sim_one (sim_ret (sim_callB (cr_sum rfl) (on_sum _) (by rfl) T.b_sum bt_sum (sim_acons (sim_lc [("_law_factor", 1), ("_law_mark", 2)] rfl sc__law_reach.nd (sim_iseq (sim_ix (ir_all (hu_of hr)) (o2_ix _) (sim_var (pv 0)) sim_int (fun _ _ => rfl))) (blkOk_by (N := N__law_reach) (sc := defScope st__law_reach) (by decide +kernel)) (fun _ _ _ _ _ => (sim_gtup rfl (sim_gscons (sim_gname (i := 1) sc__law_reach.nd rfl (.inl rfl)) (sim_gscons (sim_gname (i := 2) sc__law_reach.nd rfl (.inl rfl)) sim_gsnil)) (gs_lenc (gs_lenc gs_len0)))) (fun _ _ _ _ _ => sim_tsnil) (fun _ _ _ _ _ => (sim_var (pv 1))) (by decide)) sim_anil)))))
/-! _law_is_held -/
abbrev st__law_is_held : Stmt := top 12
abbrev N__law_is_held : List Str := ["_law_one", "_law_filling"]
theorem sc__law_is_held : FnScope N__law_is_held ["_law_one", "_law_filling"] (defScope st__law_is_held) := ⟨rfl, rfl, rfl, by decide +kernel, rfl, by decide +kernel, by decide +kernel⟩
def b__law_is_held : SM := (sRet (eOp2 gGe (eCall [false, false] m__law_weight (aCons (eVar 0) (aCons (eVar 1) aNil))) (eOp2 gIx (eVar 0) (eC (.int 1)))))
def m__law_is_held : List PD → FR := fun ds => (runF N__law_is_held.length [false, false] b__law_is_held ds).calm
theorem me__law_is_held (ds : List PD) : m__law_is_held ds = (runF 2 [false, false] b__law_is_held ds).calm := Eq.trans rfl rfl
theorem ok__law_is_held {f : Addr} {fd : FuncData} {dvs : List V} (F : FnP K "_law_is_held" st__law_is_held dvs f fd) (T : Txt K mg) (C__law_weight : Cal P w K mg base 2 "_law_weight" ["_law_one", "_law_filling"] [false, false] m__law_weight) : FnOk P w K mg base CX0 3 f fd ["_law_one", "_law_filling"] (spD mg [false, false] m__law_is_held) := fn_simD (b := b__law_is_held) F sc__law_is_held rfl (fun cdv A outer s H E hr => (sim_one (sim_ret (sim_cmp op_ge o2_ge (sim_callC C__law_weight (hr.mono (by decide)) (by rfl) (sim_acons (sim_var (pv 0)) (sim_acons (sim_var (pv 1)) sim_anil))) (sim_ix (ir_all (hu_of hr)) (o2_ix _) (sim_var (pv 0)) sim_int (fun _ _ => rfl)) (nomark _)))))
/-! _law_sum -/
abbrev st__law_sum : Stmt := top 13
abbrev N__law_sum : List Str := ["_law_pool_here", "_law_many", "_law_terms", "_law_box", "_law_factor", "_law_total", "_law_mark", "_law_least"]
theorem sc__law_sum : FnScope N__law_sum ["_law_pool_here", "_law_many"] (defScope st__law_sum) := ⟨rfl, rfl, rfl, by decide +kernel, rfl, by decide +kernel, by decide +kernel⟩
def b__law_sum : SM := (sSeq (sSet 2 (eLst aNil))
    (sSeq (sFor (iRng2M (aCons (eC (.int 1)) (aCons (eOp2 gAdd (eVar 1) (eC (.int 1))) aNil))) (gNm 3) (sIf (tBool (eOp2 gGt (eCall [true, false] m__law_take (aCons (eVar 0) (aCons (eC (.int 3)) aNil))) (eC (.int 0)))) (sSeq (sSet 4 (eOp2 gIx (eLst (aCons (eC (.int 1)) (aCons (eC (.int 1)) (aCons (eC (.int 1)) (aCons (eC (.int 2)) (aCons (eC (.int 3)) (aCons (eC (.int 7)) (aCons (eOp2 gPow (eC (.int 10)) (eC (.int 20))) aNil)))))))) (eCall [true, false] m__law_take (aCons (eVar 0) (aCons (eC (.int 7)) aNil)))))
    (sApp 2 (eTup (aCons (eVar 4) (aCons (eOp2 gIx (eLst (aCons (eVar 3) (aCons (eOp2 gSub (eC (.int 0)) (eVar 3)) aNil))) (eCall [true, false] m__law_take (aCons (eVar 0) (aCons (eC (.int 2)) aNil)))) aNil))))) sNil))
    (sSeq (sSet 5 (eOpN gSum (aCons (eComp (iSeqM (eVar 2)) (gTupM (gsCons (gNm 4) (gsCons (gNm 6) gsNil))) [4, 6] (retM true) (eVar 4)) aNil)))
    (sSeq (sSet 7 (eOp2 gIx (eLst (aCons (eC (.int 1)) (aCons (eC (.int 1)) (aCons (eC (.int 2)) (aCons (eVar 5) (aCons (eOp2 gAdd (eVar 5) (eC (.int 1))) (aCons (eC (.int 0)) (aCons (eOp1 gNeg (eC (.int 3))) (aCons (eOp2 gAdd (eC (.int 1)) (eOp2 gFdiv (eVar 5) (eC (.int 2)))) aNil))))))))) (eCall [true, false] m__law_take (aCons (eVar 0) (aCons (eC (.int 8)) aNil)))))
    (sRet (eTup (aCons (eOpN gTuple (aCons (eVar 2) aNil)) (aCons (eVar 7) aNil))))))))
def m__law_sum : List PD → FR := fun ds => (runF N__law_sum.length [true, false] b__law_sum ds).calm
theorem me__law_sum (ds : List PD) : m__law_sum ds = (runF 8 [true, false] b__law_sum ds).calm := Eq.trans rfl rfl
theorem ok__law_sum {f : Addr} {fd : FuncData} {dvs : List V} (F : FnP K "_law_sum" st__law_sum dvs f fd) (T : Txt K mg) (C__law_take : Cal P w K mg base 1 "_law_take" ["_law_pool_here", "_law_many"] [true, false] m__law_take) : FnOk P w K mg base CX0 2 f fd ["_law_pool_here", "_law_many"] (spD mg [true, false] m__law_sum) := fn_simD (b := b__law_sum) F sc__law_sum rfl (fun cdv A outer s H E hr => (sim_seq (sim_set (i := 2) sc__law_sum.nd rfl (.inl rfl) (sim_lst sim_anil))
    (sim_seq (sim_for PassesOwn.never rfl (sim_irng2 (by rfl) T.b_range (sim_acons sim_int (sim_acons (sim_op or_add (o2_add _) (sim_var (pv 1)) sim_int) sim_anil))) (sim_gname (i := 3) sc__law_sum.nd rfl (.inl rfl)) (sim_one (sim_if (sim_tcmp op_gt o2_gt (sim_callC C__law_take (hr.mono (by decide)) (by rfl) (sim_acons (sim_var (pv 0)) (sim_acons sim_int sim_anil))) sim_int (nomark _)) (sim_seq (sim_set (i := 4) sc__law_sum.nd rfl (.inl rfl) (sim_ix (ir_all (hu_of hr)) (o2_ix _) (sim_lst (sim_acons sim_int (sim_acons sim_int (sim_acons sim_int (sim_acons sim_int (sim_acons sim_int (sim_acons sim_int (sim_acons (sim_op op_pow o2_pow sim_int sim_int) sim_anil)))))))) (sim_callC C__law_take (hr.mono (by decide)) (by rfl) (sim_acons (sim_var (pv 0)) (sim_acons sim_int sim_anil))) (fun _ _ => rfl)))
    (sim_one (sim_app (i := 2) (pv 2) (sim_tup (sim_acons (sim_var (pv 4)) (sim_acons (sim_ix (ir_all (hu_of hr)) (o2_ix _) (sim_lst (sim_acons (sim_var (pv 3)) (sim_acons (sim_op op_sub o2_sub sim_int (sim_var (pv 3))) sim_anil))) (sim_callC C__law_take (hr.mono (by decide)) (by rfl) (sim_acons (sim_var (pv 0)) (sim_acons sim_int sim_anil))) (fun _ _ => rfl)) sim_anil)))))) sim_nil)))
    (sim_seq (sim_set (i := 5) sc__law_sum.nd rfl (.inl rfl) (sim_callB (cr_sum rfl) (on_sum _) (by rfl) T.b_sum bt_sum (sim_acons (sim_lc [("_law_factor", 4), ("_law_mark", 6)] rfl sc__law_sum.nd (sim_iseq (sim_var (pv 2))) (blkOk_by (N := N__law_sum) (sc := defScope st__law_sum) (by decide +kernel)) (fun _ _ _ _ _ => (sim_gtup rfl (sim_gscons (sim_gname (i := 4) sc__law_sum.nd rfl (.inl rfl)) (sim_gscons (sim_gname (i := 6) sc__law_sum.nd rfl (.inl rfl)) sim_gsnil)) (gs_lenc (gs_lenc gs_len0)))) (fun _ _ _ _ _ => sim_tsnil) (fun _ _ _ _ _ => (sim_var (pv 4))) (by decide)) sim_anil)))
    (sim_seq (sim_set (i := 7) sc__law_sum.nd rfl (.inl rfl) (sim_ix (ir_all (hu_of hr)) (o2_ix _) (sim_lst (sim_acons sim_int (sim_acons sim_int (sim_acons sim_int (sim_acons (sim_var (pv 5)) (sim_acons (sim_op or_add (o2_add _) (sim_var (pv 5)) sim_int) (sim_acons sim_int (sim_acons (sim_un un_neg o1_neg sim_int) (sim_acons (sim_op or_add (o2_add _) sim_int (sim_op op_fdivW o2_fdiv (sim_var (pv 5)) sim_int)) sim_anil))))))))) (sim_callC C__law_take (hr.mono (by decide)) (by rfl) (sim_acons (sim_var (pv 0)) (sim_acons sim_int sim_anil))) (fun _ _ => rfl)))
    (sim_one (sim_ret (sim_tup (sim_acons (sim_callTy call_tuple_of (on_tuple _) (by rfl) T.b_tuple bt_tuple (sim_acons (sim_var (pv 2)) sim_anil)) (sim_acons (sim_var (pv 7)) sim_anil))))))))))
/-! _law_known -/
abbrev st__law_known : Stmt := top 14
abbrev N__law_known : List Str := ["_law_pool_here", "_law_size", "_law_found", "_law_box"]
theorem sc__law_known : FnScope N__law_known ["_law_pool_here", "_law_size"] (defScope st__law_known) := ⟨rfl, rfl, rfl, by decide +kernel, rfl, by decide +kernel, by decide +kernel⟩
def b__law_known : SM := (sSeq (sSet 2 (eLst aNil))
    (sSeq (sFor (iRng2M (aCons (eC (.int 1)) (aCons (eOp2 gAdd (eVar 1) (eC (.int 1))) aNil))) (gNm 3) (sIf (tBool (eOp2 (gEq false) (eCall [true, false] m__law_take (aCons (eVar 0) (aCons (eC (.int 4)) aNil))) (eC (.int 0)))) (sApp 2 (eOp2 gIx (eLst (aCons (eVar 3) (aCons (eOp2 gSub (eC (.int 0)) (eVar 3)) aNil))) (eCall [true, false] m__law_take (aCons (eVar 0) (aCons (eC (.int 2)) aNil))))) sNil))
    (sRet (eVar 2))))
def m__law_known : List PD → FR := fun ds => (runF N__law_known.length [true, false] b__law_known ds).calm
theorem me__law_known (ds : List PD) : m__law_known ds = (runF 4 [true, false] b__law_known ds).calm := Eq.trans rfl rfl
theorem ok__law_known {f : Addr} {fd : FuncData} {dvs : List V} (F : FnP K "_law_known" st__law_known dvs f fd) (T : Txt K mg) (C__law_take : Cal P w K mg base 1 "_law_take" ["_law_pool_here", "_law_many"] [true, false] m__law_take) : FnOk P w K mg base CX0 2 f fd ["_law_pool_here", "_law_size"] (spD mg [true, false] m__law_known) := fn_simD (b := b__law_known) F sc__law_known rfl (fun cdv A outer s H E hr => (sim_seq (sim_set (i := 2) sc__law_known.nd rfl (.inl rfl) (sim_lst sim_anil))
    (sim_seq (sim_for PassesOwn.never rfl (sim_irng2 (by rfl) T.b_range (sim_acons sim_int (sim_acons (sim_op or_add (o2_add _) (sim_var (pv 1)) sim_int) sim_anil))) (sim_gname (i := 3) sc__law_known.nd rfl (.inl rfl)) (sim_one (sim_if (sim_tcmp (op_eqD hr.units) (o2_eq _) (sim_callC C__law_take (hr.mono (by decide)) (by rfl) (sim_acons (sim_var (pv 0)) (sim_acons sim_int sim_anil))) sim_int (nomark _)) (sim_one (sim_app (i := 2) (pv 2) (sim_ix (ir_all (hu_of hr)) (o2_ix _) (sim_lst (sim_acons (sim_var (pv 3)) (sim_acons (sim_op op_sub o2_sub sim_int (sim_var (pv 3))) sim_anil))) (sim_callC C__law_take (hr.mono (by decide)) (by rfl) (sim_acons (sim_var (pv 0)) (sim_acons sim_int sim_anil))) (fun _ _ => rfl)))) sim_nil)))
    (sim_one (sim_ret (sim_var (pv 2)))))))
/-! _law_all_so -/
abbrev st__law_all_so : Stmt := top 15
abbrev N__law_all_so : List Str := ["_law_marks", "_law_filling", "_law_mark"]
theorem sc__law_all_so : FnScope N__law_all_so ["_law_marks", "_law_filling"] (defScope st__law_all_so) := ⟨rfl, rfl, rfl, by decide +kernel, rfl, by decide +kernel, by decide +kernel⟩
def b__law_all_so : SM := (sRet (eOp2 (gEq false) (eComp (iSeqM (eVar 0)) (gNm 2) [2] (tNotM (tBool (eCall [false, false] m__law_is_so (aCons (eVar 2) (aCons (eVar 1) aNil))))) (eVar 2)) (eLst aNil)))
def m__law_all_so : List PD → FR := fun ds => (runF N__law_all_so.length [false, false] b__law_all_so ds).calm
theorem me__law_all_so (ds : List PD) : m__law_all_so ds = (runF 3 [false, false] b__law_all_so ds).calm := Eq.trans rfl rfl
theorem ok__law_all_so {f : Addr} {fd : FuncData} {dvs : List V} (F : FnP K "_law_all_so" st__law_all_so dvs f fd) (T : Txt K mg) (C__law_is_so : Cal P w K mg base 1 "_law_is_so" ["_law_mark", "_law_filling"] [false, false] m__law_is_so) : FnOk P w K mg base CX0 2 f fd ["_law_marks", "_law_filling"] (spD mg [false, false] m__law_all_so) := fn_simD (b := b__law_all_so) F sc__law_all_so rfl (fun cdv A outer s H E hr => (sim_one (sim_ret (sim_cmp (op_eqD hr.units) (o2_eq _) (sim_lc [("_law_mark", 2)] rfl sc__law_all_so.nd (sim_iseq (sim_var (pv 0))) (blkOk_by (N := N__law_all_so) (sc := defScope st__law_all_so) (by decide +kernel)) (fun _ _ _ _ _ => (sim_gname (i := 2) sc__law_all_so.nd rfl (.inl rfl))) (fun _ _ _ _ _ => (sim_tsone (sim_tnot (sim_tval (sim_callC C__law_is_so (hr.mono (by decide)) (by rfl) (sim_acons (sim_var (pv 2)) (sim_acons (sim_var (pv 1)) sim_anil))))))) (fun _ _ _ _ _ => (sim_var (pv 2))) (by decide)) (sim_lst sim_anil) (nomark _)))))
/-! _law_holding -/
abbrev st__law_holding : Stmt := top 16
abbrev N__law_holding : List Str := ["_law_some", "_law_marks", "_law_size", "_law_found", "_law_truths", "_law_one"]
theorem sc__law_holding : FnScope N__law_holding ["_law_some", "_law_marks", "_law_size"] (defScope st__law_holding) := ⟨rfl, rfl, rfl, by decide +kernel, rfl, by decide +kernel, by decide +kernel⟩
def b__law_holding : SM := (sSeq (sSet 3 (eLst aNil))
    (sSeq (sFor (iSeqM (eCall [false] m__law_fillings (aCons (eVar 2) aNil))) (gNm 4) (sIf (tAndM (tBool (eCall [false, false] m__law_all_so (aCons (eVar 1) (aCons (eVar 4) aNil)))) (tBool (eOp2 (gEq false) (eComp (iSeqM (eVar 0)) (gNm 5) [5] (tNotM (tBool (eCall [false, false] m__law_is_held (aCons (eVar 5) (aCons (eVar 4) aNil))))) (eVar 5)) (eLst aNil)))) (sApp 3 (eVar 4)) sNil))
    (sRet (eVar 3))))
def m__law_holding : List PD → FR := fun ds => (runF N__law_holding.length [false, false, false] b__law_holding ds).calm
theorem me__law_holding (ds : List PD) : m__law_holding ds = (runF 6 [false, false, false] b__law_holding ds).calm := Eq.trans rfl rfl
theorem ok__law_holding {f : Addr} {fd : FuncData} {dvs : List V} (F : FnP K "_law_holding" st__law_holding dvs f fd) (T : Txt K mg) (C__law_fillings : Cal P w K mg base 1 "_law_fillings" ["_law_many"] [false] m__law_fillings) (C__law_all_so : Cal P w K mg base 2 "_law_all_so" ["_law_marks", "_law_filling"] [false, false] m__law_all_so) (C__law_is_held : Cal P w K mg base 3 "_law_is_held" ["_law_one", "_law_filling"] [false, false] m__law_is_held) : FnOk P w K mg base CX0 4 f fd ["_law_some", "_law_marks", "_law_size"] (spD mg [false, false, false] m__law_holding) := fn_simD (b := b__law_holding) F sc__law_holding rfl (fun cdv A outer s H E hr => (sim_seq (sim_set (i := 3) sc__law_holding.nd rfl (.inl rfl) (sim_lst sim_anil))
    (sim_seq (sim_for PassesOwn.never rfl (sim_iseq (sim_callC C__law_fillings (hr.mono (by decide)) (by rfl) (sim_acons (sim_var (pv 2)) sim_anil))) (sim_gname (i := 4) sc__law_holding.nd rfl (.inr rfl)) (sim_one (sim_if (SimW.t (sim_wand (sim_tval (sim_callC C__law_all_so (hr.mono (by decide)) (by rfl) (sim_acons (sim_var (pv 1)) (sim_acons (sim_var (pv 4)) sim_anil)))) (sim_wand1 (sim_tcmp (op_eqD hr.units) (o2_eq _) (sim_lc [("_law_one", 5)] rfl sc__law_holding.nd (sim_iseq (sim_var (pv 0))) (blkOk_by (N := N__law_holding) (sc := defScope st__law_holding) (by decide +kernel)) (fun _ _ _ _ _ => (sim_gname (i := 5) sc__law_holding.nd rfl (.inl rfl))) (fun _ _ _ _ _ => (sim_tsone (sim_tnot (sim_tval (sim_callC C__law_is_held (hr.mono (by decide)) (by rfl) (sim_acons (sim_var (pv 5)) (sim_acons (sim_var (pv 4)) sim_anil))))))) (fun _ _ _ _ _ => (sim_var (pv 5))) (by decide)) (sim_lst sim_anil) (nomark _))))) (sim_one (sim_app (i := 3) (pv 3) (sim_var (pv 4)))) sim_nil)))
    (sim_one (sim_ret (sim_var (pv 3)))))))
/-! law -/
abbrev st_law : Stmt := top 17
abbrev N_law : List Str := ["_law_script", "_law_k", "_law_pool_here", "_law_size", "_law_some", "_law_marks", "_law_holding_here", "_law_later", "_law_word", "_law_told", "_law_turn", "_law_truths", "_law_mark"]
theorem sc_law : FnScope N_law ["_law_script"] (defScope st_law) := ⟨rfl, rfl, rfl, by decide +kernel, rfl, by decide +kernel, by decide +kernel⟩
def b_law : SM := (sSeq (sFor (iRng1M (aCons (eOpN gMax2 (aCons (eC (.int 1)) (aCons (eOpN gMin2 (aCons (eLenScr 0) (aCons (eC (.int 16)) aNil))) aNil))) aNil)) (gNm 1) (sSeq (sSet 2 (ePool 0 (eVar 1)))
    (sSeq (sSet 3 (eOp2 gAdd (eC (.int 1)) (eCall [true, false] m__law_take (aCons (eVar 2) (aCons (eC (.int 5)) aNil)))))
    (sSeq (sSet 4 (eComp (iRng1M (aCons (eCall [true, false] m__law_take (aCons (eVar 2) (aCons (eC (.int 6)) aNil))) aNil)) (gNm 10) [10] (retM true) (eCall [true, false] m__law_sum (aCons (eVar 2) (aCons (eFz (eVar 3)) aNil)))))
    (sSeq (sSet 5 (eCall [true, false] m__law_known (aCons (eVar 2) (aCons (eFz (eVar 3)) aNil))))
    (sSeq (sAsg (eCall [false, false] m_pushed (aCons (eFz (eVar 4)) (aCons (eFz (eVar 5)) aNil))) (gTupM (gsCons (gNm 8) (gsCons (gNm 9) gsNil))))
    (sSeq (sSet 6 (eCall [false, false, false] m__law_holding (aCons (eFz (eVar 4)) (aCons (eFz (eVar 5)) (aCons (eFz (eVar 3)) aNil)))))
    (sSeq (sIf (tAndM (tBool (eOp2 (gEq false) (eVar 8) (eC (.str "bursts")))) (tBool (eOp2 (gEq true) (eVar 6) (eLst aNil)))) (sRet (eC (.bool false))) sNil)
    (sSeq (sIf (tBool (eOp2 (gEq true) (eComp (iSeqM (eVar 6)) (gNm 11) [11] (tNotM (tBool (eCall [false, false] m__law_all_so (aCons (eVar 9) (aCons (eVar 11) aNil))))) (eVar 11)) (eLst aNil))) (sRet (eC (.bool false))) sNil)
    (sSeq (sSet 7 (eCall [false, false] m_pushed (aCons (eOp2 gAdd (eVar 4) (eLst (aCons (eCall [true, false] m__law_sum (aCons (eVar 2) (aCons (eFz (eVar 3)) aNil))) aNil))) (aCons (eFz (eVar 5)) aNil))))
    (sSeq (sIf (tAndM (tBool (eOp2 (gEq false) (eVar 8) (eC (.str "bursts")))) (tBool (eOp2 (gEq true) (eOp2 gIx (eVar 7) (eC (.int 0))) (eC (.str "bursts"))))) (sRet (eC (.bool false))) sNil)
    (sSeq (sIf (tAndM (tBool (eOp2 (gEq false) (eOp2 gIx (eVar 7) (eC (.int 0))) (eC (.str "rests")))) (tBool (eOp2 (gEq true) (eComp (iSeqM (eVar 9)) (gNm 12) [12] (tBool (eOp2 (gIn true) (eVar 12) (eOp2 gIx (eVar 7) (eC (.int 1))))) (eVar 12)) (eLst aNil)))) (sRet (eC (.bool false))) sNil)
    (sIf (tAndM (tBool (eOp2 (gEq false) (eVar 8) (eC (.str "rests")))) (tBool (eOp2 (gEq true) (eCall [false, false] m_pushed (aCons (eFz (eVar 4)) (aCons (eVar 9) aNil))) (eTup (aCons (eC (.str "rests")) (aCons (eVar 9) aNil)))))) (sRet (eC (.bool false))) sNil)))))))))))))
    (sRet (eC (.bool true))))
theorem ok_law {f : Addr} {fd : FuncData} {fp : Addr} {fdp : FuncData} {dvs : List V} (F : FnP K "law" st_law dvs f fd) (T : Txt K mg) (C__law_pool : FnOk P w K mg base CX0 1 fp fdp ["_law_script", "_law_k"] (spPool K) ∧ mg "_law_pool" = some (.ref fp) ∧ PySem.W.keepIn K (.ref fp) = true ∧ Binds K fdp ["_law_script", "_law_k"] []) (C__law_take : Cal P w K mg base 1 "_law_take" ["_law_pool_here", "_law_many"] [true, false] m__law_take) (C__law_sum : Cal P w K mg base 2 "_law_sum" ["_law_pool_here", "_law_many"] [true, false] m__law_sum) (C__law_known : Cal P w K mg base 2 "_law_known" ["_law_pool_here", "_law_size"] [true, false] m__law_known) (C_pushed : Cal P w K mg base 3 "pushed" ["some", "marks"] [false, false] m_pushed) (C__law_holding : Cal P w K mg base 4 "_law_holding" ["_law_some", "_law_marks", "_law_size"] [false, false, false] m__law_holding) (C__law_all_so : Cal P w K mg base 2 "_law_all_so" ["_law_marks", "_law_filling"] [false, false] m__law_all_so) (hl : ∀ ns : List Int, ns.length ≤ 63 → ∃ ρ', b_law (some (.scr ns) :: List.replicate (N_law.length - 1) none) = .rt (.val (.bool true)) ρ') : FnOk P w K mg base CX0 5 f fd ["_law_script"] (spLaw K) := law_fnD (b := b_law) F sc_law (by decide) (fun cdv A outer s H E hr => (sim_seq (sim_for PassesOwn.never rfl (sim_irng1 (by rfl) T.b_range (sim_acons (sim_callB (call_max2 rfl) on_max2 (by rfl) T.b_max bt_max (sim_acons sim_int (sim_acons (sim_callB (call_min2 rfl) on_min2 (by rfl) T.b_min bt_min (sim_acons (sim_lenscr (pv 0) (by rfl) T.b_len bt_len) (sim_acons sim_int sim_anil))) sim_anil))) sim_anil)) (sim_gname (i := 1) sc_law.nd rfl (.inl rfl)) (sim_seq (sim_set (i := 2) sc_law.nd rfl (.inr rfl) (sim_pool C__law_pool.1 (hr.mono (by decide)) (by rfl) C__law_pool.2.1 C__law_pool.2.2.1 C__law_pool.2.2.2 (pv 0) (sim_var (pv 1))))
    (sim_seq (sim_set (i := 3) sc_law.nd rfl (.inr rfl) (sim_op or_add (o2_add _) sim_int (sim_callC C__law_take (hr.mono (by decide)) (by rfl) (sim_acons (sim_var (pv 2)) (sim_acons sim_int sim_anil)))))
    (sim_seq (sim_setlc [("_law_turn", 10)] (i := 4) rfl sc_law.nd rfl rfl (sw_true rfl rfl rfl (by decide +kernel)) (sim_irng1 (by rfl) T.b_range (sim_acons (sim_callC C__law_take (hr.mono (by decide)) (by rfl) (sim_acons (sim_var (pv 2)) (sim_acons sim_int sim_anil))) sim_anil)) (blkOk_by (N := N_law) (sc := defScope st_law) (by decide +kernel)) (fun _ _ _ _ _ => (sim_gname (i := 10) sc_law.nd rfl (.inl rfl))) (fun _ _ _ _ _ => sim_tsnil) (fun _ _ _ _ _ => (sim_callC C__law_sum (hr.mono (by decide)) (by rfl) (sim_acons (sim_var (pv 2)) (sim_acons (sim_fz (sim_var (pv 3))) sim_anil)))) (by decide))
    (sim_seq (sim_set (i := 5) sc_law.nd rfl (.inl rfl) (sim_callC C__law_known (hr.mono (by decide)) (by rfl) (sim_acons (sim_var (pv 2)) (sim_acons (sim_fz (sim_var (pv 3))) sim_anil))))
    (sim_seq (sim_asg (sim_callC C_pushed (hr.mono (by decide)) (by rfl) (sim_acons (sim_fz (sim_var (pv 4))) (sim_acons (sim_fz (sim_var (pv 5))) sim_anil))) (sim_gtup rfl (sim_gscons (sim_gname (i := 8) sc_law.nd rfl (.inl rfl)) (sim_gscons (sim_gname (i := 9) sc_law.nd rfl (.inr rfl)) sim_gsnil)) (gs_lenc (gs_lenc gs_len0))))
    (sim_seq (sim_set (i := 6) sc_law.nd rfl (.inl rfl) (sim_callC C__law_holding (hr.mono (by decide)) (by rfl) (sim_acons (sim_fz (sim_var (pv 4))) (sim_acons (sim_fz (sim_var (pv 5))) (sim_acons (sim_fz (sim_var (pv 3))) sim_anil)))))
    (sim_seq (sim_if (SimW.t (sim_wand (sim_tcmp (op_eqD hr.units) (o2_eq _) (sim_var (pv 8)) sim_str (nomark _)) (sim_wand1 (sim_tcmp (op_neD hr.units) (o2_ne _) (sim_var (pv 6)) (sim_lst sim_anil) (nomark _))))) (sim_one (sim_ret sim_bl)) sim_nil)
    (sim_seq (sim_if (sim_tcmp (op_neD hr.units) (o2_ne _) (sim_lc [("_law_truths", 11)] rfl sc_law.nd (sim_iseq (sim_var (pv 6))) (blkOk_by (N := N_law) (sc := defScope st_law) (by decide +kernel)) (fun _ _ _ _ _ => (sim_gname (i := 11) sc_law.nd rfl (.inl rfl))) (fun _ _ _ _ _ => (sim_tsone (sim_tnot (sim_tval (sim_callC C__law_all_so (hr.mono (by decide)) (by rfl) (sim_acons (sim_var (pv 9)) (sim_acons (sim_var (pv 11)) sim_anil))))))) (fun _ _ _ _ _ => (sim_var (pv 11))) (by decide)) (sim_lst sim_anil) (nomark _)) (sim_one (sim_ret sim_bl)) sim_nil)
    (sim_seq (sim_set (i := 7) sc_law.nd rfl (.inr rfl) (sim_callC C_pushed (hr.mono (by decide)) (by rfl) (sim_acons (sim_op or_add (o2_add _) (sim_var (pv 4)) (sim_lst (sim_acons (sim_callC C__law_sum (hr.mono (by decide)) (by rfl) (sim_acons (sim_var (pv 2)) (sim_acons (sim_fz (sim_var (pv 3))) sim_anil))) sim_anil))) (sim_acons (sim_fz (sim_var (pv 5))) sim_anil))))
    (sim_seq (sim_if (SimW.t (sim_wand (sim_tcmp (op_eqD hr.units) (o2_eq _) (sim_var (pv 8)) sim_str (nomark _)) (sim_wand1 (sim_tcmp (op_neD hr.units) (o2_ne _) (sim_ix (ir_all (hu_of hr)) (o2_ix _) (sim_var (pv 7)) sim_int (fun _ _ => rfl)) sim_str (nomark _))))) (sim_one (sim_ret sim_bl)) sim_nil)
    (sim_seq (sim_if (SimW.t (sim_wand (sim_tcmp (op_eqD hr.units) (o2_eq _) (sim_ix (ir_all (hu_of hr)) (o2_ix _) (sim_var (pv 7)) sim_int (fun _ _ => rfl)) sim_str (nomark _)) (sim_wand1 (sim_tcmp (op_neD hr.units) (o2_ne _) (sim_lc [("_law_mark", 12)] rfl sc_law.nd (sim_iseq (sim_var (pv 9))) (blkOk_by (N := N_law) (sc := defScope st_law) (by decide +kernel)) (fun _ _ _ _ _ => (sim_gname (i := 12) sc_law.nd rfl (.inl rfl))) (fun _ _ _ _ _ => (sim_tsone (sim_tcmp (or_notIn (u65 hr)) (o2_notIn _) (sim_var (pv 12)) (sim_ix (ir_all (hu_of hr)) (o2_ix _) (sim_var (pv 7)) sim_int (fun _ _ => rfl)) rfl))) (fun _ _ _ _ _ => (sim_var (pv 12))) (by decide)) (sim_lst sim_anil) (nomark _))))) (sim_one (sim_ret sim_bl)) sim_nil)
    (sim_one (sim_if (SimW.t (sim_wand (sim_tcmp (op_eqD hr.units) (o2_eq _) (sim_var (pv 8)) sim_str (nomark _)) (sim_wand1 (sim_tcmp (op_neD hr.units) (o2_ne _) (sim_callC C_pushed (hr.mono (by decide)) (by rfl) (sim_acons (sim_fz (sim_var (pv 4))) (sim_acons (sim_var (pv 9)) sim_anil))) (sim_tup (sim_acons sim_str (sim_acons (sim_var (pv 9)) sim_anil))) (nomark _))))) (sim_one (sim_ret sim_bl)) sim_nil))))))))))))))
    (sim_one (sim_ret sim_bl)))) hl
end
def dd_room : He.DefD := ⟨("room", none), "room", "room", defArgs st_room, defBody st_room, defScope st_room, [], []⟩
def dd_pushed_by : He.DefD := ⟨("pushed_by", none), "pushed_by", "pushed_by", defArgs st_pushed_by, defBody st_pushed_by, defScope st_pushed_by, [], []⟩
def dd_pushed : He.DefD := ⟨("pushed", none), "pushed", "pushed", defArgs st_pushed, defBody st_pushed, defScope st_pushed, [.adr (He.dflAt ("pushed", none) 0)], []⟩
def dd__law_pool : He.DefD := ⟨("_law_pool", none), "_law_pool", "_law_pool", defArgs st__law_pool, defBody st__law_pool, defScope st__law_pool, [], []⟩
def dd__law_take : He.DefD := ⟨("_law_take", none), "_law_take", "_law_take", defArgs st__law_take, defBody st__law_take, defScope st__law_take, [], []⟩
def dd__law_fillings : He.DefD := ⟨("_law_fillings", none), "_law_fillings", "_law_fillings", defArgs st__law_fillings, defBody st__law_fillings, defScope st__law_fillings, [], []⟩
def dd__law_is_so : He.DefD := ⟨("_law_is_so", none), "_law_is_so", "_law_is_so", defArgs st__law_is_so, defBody st__law_is_so, defScope st__law_is_so, [], []⟩
def dd__law_holds : He.DefD := ⟨("_law_holds", none), "_law_holds", "_law_holds", defArgs st__law_holds, defBody st__law_holds, defScope st__law_holds, [], []⟩
def dd__law_weight : He.DefD := ⟨("_law_weight", none), "_law_weight", "_law_weight", defArgs st__law_weight, defBody st__law_weight, defScope st__law_weight, [], []⟩
def dd__law_reach : He.DefD := ⟨("_law_reach", none), "_law_reach", "_law_reach", defArgs st__law_reach, defBody st__law_reach, defScope st__law_reach, [], []⟩
def dd__law_is_held : He.DefD := ⟨("_law_is_held", none), "_law_is_held", "_law_is_held", defArgs st__law_is_held, defBody st__law_is_held, defScope st__law_is_held, [], []⟩
def dd__law_sum : He.DefD := ⟨("_law_sum", none), "_law_sum", "_law_sum", defArgs st__law_sum, defBody st__law_sum, defScope st__law_sum, [], []⟩
def dd__law_known : He.DefD := ⟨("_law_known", none), "_law_known", "_law_known", defArgs st__law_known, defBody st__law_known, defScope st__law_known, [], []⟩
def dd__law_all_so : He.DefD := ⟨("_law_all_so", none), "_law_all_so", "_law_all_so", defArgs st__law_all_so, defBody st__law_all_so, defScope st__law_all_so, [], []⟩
def dd__law_holding : He.DefD := ⟨("_law_holding", none), "_law_holding", "_law_holding", defArgs st__law_holding, defBody st__law_holding, defScope st__law_holding, [], []⟩
def dd_law : He.DefD := ⟨("law", none), "law", "law", defArgs st_law, defBody st_law, defScope st_law, [], []⟩
def fn : List He.DefD := [dd_room, dd_pushed_by, dd_pushed, dd__law_pool, dd__law_take, dd__law_fillings, dd__law_is_so, dd__law_holds, dd__law_weight, dd__law_reach, dd__law_is_held, dd__law_sum, dd__law_known, dd__law_all_so, dd__law_holding, dd_law]
def fa : List He.Fa := [.glo "room", .glo "pushed_by", .glo "pushed", .glo "_law_pool", .glo "_law_take", .glo "_law_fillings", .glo "_law_is_so", .glo "_law_holds", .glo "_law_weight", .glo "_law_reach", .glo "_law_is_held", .glo "_law_sum", .glo "_law_known", .glo "_law_all_so", .glo "_law_holding", .glo "law", .free "abs", .free "int", .free "len", .free "max", .free "min", .free "range", .free "sorted", .free "sum", .free "tuple"]
theorem facts {P : Program} {w : World} {K : PySem.W.Frag} {h : Heap} {mg : Str → Option Value} {f : Addr} (X : K.In h) (G : h.Ns mainGlobals mg) (hfa : mg ("law" : Str) = some (.ref f)) (c : He.SaysD fa fn K)
    (hp : ∀ (ns : List Int) (k : Int), ns.length ≤ 63 → 0 ≤ k → k < 64 → ∃ ρ', b__law_pool (some (.scr ns) :: some (.imm (.int k)) :: List.replicate (N__law_pool.length - 2) none) = .rt (.fresh (poolD ns k)) ρ')
    (hl : ∀ ns : List Int, ns.length ≤ 63 → ∃ ρ', b_law (some (.scr ns) :: List.replicate (N_law.length - 1) none) = .rt (.val (.bool true)) ρ') :
    ∃ fd : FuncData, (∀ (s : Shared) (v : Value), BindsTo s fd ⟨[v], []⟩ [("_law_script", v)]) ∧ ∀ base : Heap, K.In base → base.Ns mainGlobals mg → FnOk P w K mg base CX0 5 f fd ["_law_script"] (spLaw K) := by
  obtain ⟨fd_room, F_room⟩ := c.def_ 0 (d := dd_room) rfl
  obtain ⟨fd_pushed_by, F_pushed_by⟩ := c.def_ 1 (d := dd_pushed_by) rfl
  obtain ⟨fd_pushed, F_pushed⟩ := c.def_ 2 (d := dd_pushed) rfl
  obtain ⟨fd__law_pool, F__law_pool⟩ := c.def_ 3 (d := dd__law_pool) rfl
  obtain ⟨fd__law_take, F__law_take⟩ := c.def_ 4 (d := dd__law_take) rfl
  obtain ⟨fd__law_fillings, F__law_fillings⟩ := c.def_ 5 (d := dd__law_fillings) rfl
  obtain ⟨fd__law_is_so, F__law_is_so⟩ := c.def_ 6 (d := dd__law_is_so) rfl
  obtain ⟨fd__law_holds, F__law_holds⟩ := c.def_ 7 (d := dd__law_holds) rfl
  obtain ⟨fd__law_weight, F__law_weight⟩ := c.def_ 8 (d := dd__law_weight) rfl
  obtain ⟨fd__law_reach, F__law_reach⟩ := c.def_ 9 (d := dd__law_reach) rfl
  obtain ⟨fd__law_is_held, F__law_is_held⟩ := c.def_ 10 (d := dd__law_is_held) rfl
  obtain ⟨fd__law_sum, F__law_sum⟩ := c.def_ 11 (d := dd__law_sum) rfl
  obtain ⟨fd__law_known, F__law_known⟩ := c.def_ 12 (d := dd__law_known) rfl
  obtain ⟨fd__law_all_so, F__law_all_so⟩ := c.def_ 13 (d := dd__law_all_so) rfl
  obtain ⟨fd__law_holding, F__law_holding⟩ := c.def_ 14 (d := dd__law_holding) rfl
  obtain ⟨fd_law, F_law⟩ := c.def_ 15 (d := dd_law) rfl
  have T : Txt K mg := ⟨He.free_ok X G (c.fact 16 (f := .free "abs") rfl), He.free_ok X G (c.fact 17 (f := .free "int") rfl), He.free_ok X G (c.fact 18 (f := .free "len") rfl), He.free_ok X G (c.fact 19 (f := .free "max") rfl), He.free_ok X G (c.fact 20 (f := .free "min") rfl), He.free_ok X G (c.fact 21 (f := .free "range") rfl), He.free_ok X G (c.fact 22 (f := .free "sorted") rfl), He.free_ok X G (c.fact 23 (f := .free "sum") rfl), He.free_ok X G (c.fact 24 (f := .free "tuple") rfl)⟩
  have g_room := He.glo_ok X G (c.fact 0 (f := .glo "room") rfl)
  have b_room : Binds K fd_room ["one", "known"] [] := FunD.bindsN F_room fun _ _ _ _ _ _ us hl => match us, hl with | [_, _], _ => rfl
  have g_pushed_by := He.glo_ok X G (c.fact 1 (f := .glo "pushed_by") rfl)
  have b_pushed_by : Binds K fd_pushed_by ["one", "known"] [] := FunD.bindsN F_pushed_by fun _ _ _ _ _ _ us hl => match us, hl with | [_, _], _ => rfl
  have g_pushed := He.glo_ok X G (c.fact 2 (f := .glo "pushed") rfl)
  have b_pushed : Binds K fd_pushed ["some", "marks"] [] := binds_allD F_pushed 2 (by simp [He.DefD.dvs, dd_pushed]) rfl fun T kV doc pm an cdv ct us its hl hi => match us, hl, its, hi with | [_, _], _, [_], _ => ⟨_, rfl, rfl⟩
  have g__law_pool := He.glo_ok X G (c.fact 3 (f := .glo "_law_pool") rfl)
  have b__law_pool : Binds K fd__law_pool ["_law_script", "_law_k"] [] := FunD.bindsN F__law_pool fun _ _ _ _ _ _ us hl => match us, hl with | [_, _], _ => rfl
  have g__law_take := He.glo_ok X G (c.fact 4 (f := .glo "_law_take") rfl)
  have b__law_take : Binds K fd__law_take ["_law_pool_here", "_law_many"] [] := FunD.bindsN F__law_take fun _ _ _ _ _ _ us hl => match us, hl with | [_, _], _ => rfl
  have g__law_fillings := He.glo_ok X G (c.fact 5 (f := .glo "_law_fillings") rfl)
  have b__law_fillings : Binds K fd__law_fillings ["_law_many"] [] := FunD.bindsN F__law_fillings fun _ _ _ _ _ _ us hl => match us, hl with | [_], _ => rfl
  have g__law_is_so := He.glo_ok X G (c.fact 6 (f := .glo "_law_is_so") rfl)
  have b__law_is_so : Binds K fd__law_is_so ["_law_mark", "_law_filling"] [] := FunD.bindsN F__law_is_so fun _ _ _ _ _ _ us hl => match us, hl with | [_, _], _ => rfl
  have g__law_holds := He.glo_ok X G (c.fact 7 (f := .glo "_law_holds") rfl)
  have b__law_holds : Binds K fd__law_holds ["_law_want", "_law_filling"] [] := FunD.bindsN F__law_holds fun _ _ _ _ _ _ us hl => match us, hl with | [_, _], _ => rfl
  have g__law_weight := He.glo_ok X G (c.fact 8 (f := .glo "_law_weight") rfl)
  have b__law_weight : Binds K fd__law_weight ["_law_one", "_law_filling"] [] := FunD.bindsN F__law_weight fun _ _ _ _ _ _ us hl => match us, hl with | [_, _], _ => rfl
  have g__law_reach := He.glo_ok X G (c.fact 9 (f := .glo "_law_reach") rfl)
  have b__law_reach : Binds K fd__law_reach ["_law_one"] [] := FunD.bindsN F__law_reach fun _ _ _ _ _ _ us hl => match us, hl with | [_], _ => rfl
  have g__law_is_held := He.glo_ok X G (c.fact 10 (f := .glo "_law_is_held") rfl)
  have b__law_is_held : Binds K fd__law_is_held ["_law_one", "_law_filling"] [] := FunD.bindsN F__law_is_held fun _ _ _ _ _ _ us hl => match us, hl with | [_, _], _ => rfl
  have g__law_sum := He.glo_ok X G (c.fact 11 (f := .glo "_law_sum") rfl)
  have b__law_sum : Binds K fd__law_sum ["_law_pool_here", "_law_many"] [] := FunD.bindsN F__law_sum fun _ _ _ _ _ _ us hl => match us, hl with | [_, _], _ => rfl
  have g__law_known := He.glo_ok X G (c.fact 12 (f := .glo "_law_known") rfl)
  have b__law_known : Binds K fd__law_known ["_law_pool_here", "_law_size"] [] := FunD.bindsN F__law_known fun _ _ _ _ _ _ us hl => match us, hl with | [_, _], _ => rfl
  have g__law_all_so := He.glo_ok X G (c.fact 13 (f := .glo "_law_all_so") rfl)
  have b__law_all_so : Binds K fd__law_all_so ["_law_marks", "_law_filling"] [] := FunD.bindsN F__law_all_so fun _ _ _ _ _ _ us hl => match us, hl with | [_, _], _ => rfl
  have g__law_holding := He.glo_ok X G (c.fact 14 (f := .glo "_law_holding") rfl)
  have b__law_holding : Binds K fd__law_holding ["_law_some", "_law_marks", "_law_size"] [] := FunD.bindsN F__law_holding fun _ _ _ _ _ _ us hl => match us, hl with | [_, _, _], _ => rfl
  have e := hfa.symm.trans (He.glo_ok X G (c.fact 15 (f := .glo "law") rfl))
  cases e
  have b := FunD.bindsA (ps := ["_law_script"]) F_law fun _ _ _ _ _ _ us hl => match us, hl with | [_], _ => rfl
  refine ⟨fd_law, fun s v => b s [v] rfl, fun base _ _ => ?_⟩
  have C_room : Cal P w K mg base 1 "room" ["one", "known"] [false, false] m_room := ⟨_, _, ok_room F_room T, g_room, F_room.kp, b_room⟩
  have C_pushed_by : Cal P w K mg base 2 "pushed_by" ["one", "known"] [false, false] m_pushed_by := ⟨_, _, ok_pushed_by F_pushed_by T C_room, g_pushed_by, F_pushed_by.kp, b_pushed_by⟩
  have C_pushed : Cal P w K mg base 3 "pushed" ["some", "marks"] [false, false] m_pushed := ⟨_, _, ok_pushed F_pushed T C_pushed_by, g_pushed, F_pushed.kp, b_pushed⟩
  have O__law_pool : FnOk P w K mg base CX0 1 _ fd__law_pool _ (spPool K) := ok__law_pool F__law_pool T hp
  have C__law_pool := And.intro O__law_pool (And.intro g__law_pool (And.intro F__law_pool.kp b__law_pool))
  have C__law_take : Cal P w K mg base 1 "_law_take" ["_law_pool_here", "_law_many"] [true, false] m__law_take := ⟨_, _, ok__law_take F__law_take T, g__law_take, F__law_take.kp, b__law_take⟩
  have C__law_fillings : Cal P w K mg base 1 "_law_fillings" ["_law_many"] [false] m__law_fillings := ⟨_, _, ok__law_fillings F__law_fillings T, g__law_fillings, F__law_fillings.kp, b__law_fillings⟩
  have C__law_is_so : Cal P w K mg base 1 "_law_is_so" ["_law_mark", "_law_filling"] [false, false] m__law_is_so := ⟨_, _, ok__law_is_so F__law_is_so T, g__law_is_so, F__law_is_so.kp, b__law_is_so⟩
  have C__law_holds : Cal P w K mg base 2 "_law_holds" ["_law_want", "_law_filling"] [false, false] m__law_holds := ⟨_, _, ok__law_holds F__law_holds T C__law_is_so, g__law_holds, F__law_holds.kp, b__law_holds⟩
  have C__law_weight : Cal P w K mg base 2 "_law_weight" ["_law_one", "_law_filling"] [false, false] m__law_weight := ⟨_, _, ok__law_weight F__law_weight T C__law_is_so, g__law_weight, F__law_weight.kp, b__law_weight⟩
  have C__law_reach : Cal P w K mg base 1 "_law_reach" ["_law_one"] [false] m__law_reach := ⟨_, _, ok__law_reach F__law_reach T, g__law_reach, F__law_reach.kp, b__law_reach⟩
  have C__law_is_held : Cal P w K mg base 3 "_law_is_held" ["_law_one", "_law_filling"] [false, false] m__law_is_held := ⟨_, _, ok__law_is_held F__law_is_held T C__law_weight, g__law_is_held, F__law_is_held.kp, b__law_is_held⟩
  have C__law_sum : Cal P w K mg base 2 "_law_sum" ["_law_pool_here", "_law_many"] [true, false] m__law_sum := ⟨_, _, ok__law_sum F__law_sum T C__law_take, g__law_sum, F__law_sum.kp, b__law_sum⟩
  have C__law_known : Cal P w K mg base 2 "_law_known" ["_law_pool_here", "_law_size"] [true, false] m__law_known := ⟨_, _, ok__law_known F__law_known T C__law_take, g__law_known, F__law_known.kp, b__law_known⟩
  have C__law_all_so : Cal P w K mg base 2 "_law_all_so" ["_law_marks", "_law_filling"] [false, false] m__law_all_so := ⟨_, _, ok__law_all_so F__law_all_so T C__law_is_so, g__law_all_so, F__law_all_so.kp, b__law_all_so⟩
  have C__law_holding : Cal P w K mg base 4 "_law_holding" ["_law_some", "_law_marks", "_law_size"] [false, false, false] m__law_holding := ⟨_, _, ok__law_holding F__law_holding T C__law_fillings C__law_all_so C__law_is_held, g__law_holding, F__law_holding.kp, b__law_holding⟩
  exact ok_law F_law T C__law_pool C__law_take C__law_sum C__law_known C_pushed C__law_holding C__law_all_so hl
abbrev R : PySem.W.OpenRow := PySem.W.OpenLaw.row PySem.Challenge.rw_leastbroken_k14_whole_what_is_pushed_is
abbrev hk : PySem.W.Hook := He.hookD 4 fa fn
def ob (s : PySem.W.SharedT) : He.AlD := He.obsDG 4 fa fn (HandSHeadRun.getT s)
theorem ob_eq (s : PySem.W.SharedT) : ob s = hk.obs s.abs := He.obsDG_eq (HandSHeadRun.getT_eq s)
def loose0 : List Str := ["room", "pushed_by", "pushed", "_law_pool", "_law_take", "_law_fillings", "_law_is_so", "_law_holds", "_law_weight", "_law_reach", "_law_is_held", "_law_sum", "_law_known", "_law_all_so", "_law_holding"]
def loose : List Str := loose0
theorem run (w : World) : HandSHeadRun.RunEq R (PySem.W.view R.prog [17]) hk ob 4000 loose w := by
  intro os
  kernel_rfl
end LW
/-! PLA: running the mirrors. Each match is a function of its own here: the kernel compares a plain function's arguments, but runs a match. -/
namespace DP
open PySem L2
theorem nrf {α : Sort u} {a b : α} (h : a = b) : a = b := h
section
variable {α β : Type} {ρ : Dn}
def Rs.thn (r : Rs α) (k : α → Dn → Rs β) : Rs β := match r with | .ok a ρ' => k a ρ' | .ex e ρ' => .ex e ρ' | .no => .no
@[simp] theorem thn_ok (a : α) (k : α → Dn → Rs β) : (Rs.ok a ρ).thn k = k a ρ := nrf rfl
@[simp] theorem thn_no (k : α → Dn → Rs β) : (Rs.no).thn k = .no := nrf rfl
@[simp] theorem thn_ex (e : Exn) (k : α → Dn → Rs β) : (Rs.ex e ρ).thn k = .ex e ρ := nrf rfl
def Rs.thnS (r : Rs α) (k : α → Dn → Ou) : Ou := match r with | .ok a ρ' => k a ρ' | .ex e ρ' => .ex e ρ' | .no => .no
@[simp] theorem thnS_ok (a : α) (k : α → Dn → Ou) : (Rs.ok a ρ).thnS k = k a ρ := nrf rfl
@[simp] theorem thnS_no (k : α → Dn → Ou) : (Rs.no).thnS k = .no := nrf rfl
@[simp] theorem thnS_ex (e : Exn) (k : α → Dn → Ou) : (Rs.ex e ρ).thnS k = .ex e ρ := nrf rfl
def Ou.seq (o : Ou) (k : Dn → Ou) : Ou := match o with | .nx ρ' => k ρ' | o => o
@[simp] theorem seq_nx (k : Dn → Ou) : (Ou.nx ρ).seq k = k ρ := nrf rfl
@[simp] theorem seq_rt (r : Rv) (k : Dn → Ou) : (Ou.rt r ρ).seq k = .rt r ρ := nrf rfl
@[simp] theorem seq_bk (k : Dn → Ou) : (Ou.bk ρ).seq k = .bk ρ := nrf rfl
@[simp] theorem seq_ct (k : Dn → Ou) : (Ou.ct ρ).seq k = .ct ρ := nrf rfl
@[simp] theorem seq_ex (e : Exn) (k : Dn → Ou) : (Ou.ex e ρ).seq k = .ex e ρ := nrf rfl
@[simp] theorem seq_no (k : Dn → Ou) : (Ou.no).seq k = .no := nrf rfl
def optR (o : Option α) (ρ : Dn) : Rs α := match o with | some a => .ok a ρ | none => .no
@[simp] theorem optR_some (a : α) : optR (some a) ρ = .ok a ρ := nrf rfl
@[simp] theorem optR_none : optR (none : Option α) ρ = .no := nrf rfl
def varR (i : Nat) (o : Option (Option Sl)) (ρ : Dn) : Rs Rv := match o with | some (some (.imm d)) => .ok (.val d) ρ | some (some (.own _ _)) => .ok (.slot i) ρ | _ => .no
@[simp] theorem varR_imm (i : Nat) (d : PD) : varR i (some (some (.imm d))) ρ = .ok (.val d) ρ := nrf rfl
@[simp] theorem varR_own (i : Nat) (b : Bool) (d : PD) : varR i (some (some (.own b d))) ρ = .ok (.slot i) ρ := nrf rfl
def rdO (o : Option (Option Sl)) : Option PD := match o with | some (some s) => slD s | _ => none
@[simp] theorem rdO_imm (d : PD) : rdO (some (some (.imm d))) = some d := nrf rfl
@[simp] theorem rdO_own (b : Bool) (d : PD) : rdO (some (some (.own b d))) = some d := nrf rfl
def frzO (i : Nat) (o : Option (Option Sl)) (ρ : Dn) : Rs PD := match o with | some (some (.imm d)) => .ok d ρ | some (some (.own false d)) => .ok d (ρ.set i (some (.imm d))) | _ => .no
@[simp] theorem frzO_imm (i : Nat) (d : PD) : frzO i (some (some (.imm d))) ρ = .ok d ρ := nrf rfl
@[simp] theorem frzO_own (i : Nat) (d : PD) : frzO i (some (some (.own false d))) ρ = .ok d (ρ.set i (some (.imm d))) := nrf rfl
def consO (d : Option PD) (ds : Option (List PD)) : Option (List PD) := match d with | some d => ds.map (d :: ·) | none => none
@[simp] theorem consO_some (d : PD) (ds : List PD) : consO (some d) (some ds) = some (d :: ds) := nrf rfl
def boolR (d : PD) (ρ : Dn) : Rs Bool := match d with | .bool b => .ok b ρ | _ => .no
@[simp] theorem boolR_bool (b : Bool) : boolR (.bool b) ρ = .ok b ρ := nrf rfl
def optS (o : Option Dn) : Ou := match o with | some ρ' => .nx ρ' | none => .no
@[simp] theorem optS_some : optS (some ρ) = .nx ρ := nrf rfl
def optD (o : Option Dn) (k : Dn → Option Dn) : Option Dn := match o with | some ρ' => k ρ' | none => none
@[simp] theorem optD_some (k : Dn → Option Dn) : optD (some ρ) k = k ρ := nrf rfl
def freeO : Option Sl → Bool
  | some (.own true _) => false
  | _ => true
@[simp] theorem freeO_none : freeO none = true := nrf rfl
@[simp] theorem freeO_imm (d : PD) : freeO (some (.imm d)) = true := nrf rfl
@[simp] theorem freeO_own (d : PD) : freeO (some (.own false d)) = true := nrf rfl
@[simp] theorem freeO_in (d : PD) : freeO (some (.own true d)) = false := nrf rfl
def freeOO (o : Option (Option Sl)) : Bool := match o with | some o => freeO o | none => false
@[simp] theorem freeOO_some (o : Option Sl) : freeOO (some o) = freeO o := nrf rfl
def putO (i j : Nat) (o : Option (Option Sl)) (ρ : Dn) : Ou := match o with
  | some (some (.imm d)) => .nx (ρ.set i (some (.imm d)))
  | some (some (.own false d)) => .nx ((ρ.set j (some (.imm d))).set i (some (.imm d)))
  | _ => .no
@[simp] theorem putO_imm (i j : Nat) (d : PD) : putO i j (some (some (.imm d))) ρ = .nx (ρ.set i (some (.imm d))) := nrf rfl
@[simp] theorem putO_own (i j : Nat) (d : PD) : putO i j (some (some (.own false d))) ρ = .nx ((ρ.set j (some (.imm d))).set i (some (.imm d))) := nrf rfl
def putV (i : Nat) (r : Rv) (ρ : Dn) : Ou := match r with | .val d => .nx (ρ.set i (some (.imm d))) | .fresh d => .nx (ρ.set i (some (.own false d))) | .slot j => putO i j ρ[j]? ρ
@[simp] theorem putV_val (i : Nat) (d : PD) : putV i (.val d) ρ = .nx (ρ.set i (some (.imm d))) := nrf rfl
@[simp] theorem putV_fresh (i : Nat) (d : PD) : putV i (.fresh d) ρ = .nx (ρ.set i (some (.own false d))) := nrf rfl
@[simp] theorem putV_slot (i j : Nat) : putV i (.slot j) ρ = putO i j ρ[j]? ρ := nrf rfl
@[simp] theorem bnd_ap (m : M α) (k : α → M β) : bnd m k ρ = (m ρ).thn fun a ρ' => k a ρ' := nrf rfl
@[simp] theorem bndS_ap (m : M α) (k : α → SM) : bndS m k ρ = (m ρ).thnS fun a ρ' => k a ρ' := nrf rfl
@[simp] theorem retM_ap (a : α) : retM a ρ = .ok a ρ := nrf rfl
@[simp] theorem noM_ap : (noM : M α) ρ = .no := nrf rfl
@[simp] theorem chk_ap (b : Bool) : chk b ρ = if b = true then .ok () ρ else .no := nrf rfl
@[simp] theorem eVar_ap (i : Nat) : eVar i ρ = varR i ρ[i]? ρ := nrf rfl
@[simp] theorem eC_ap (d : PD) : eC d ρ = .ok (.val d) ρ := nrf rfl
@[simp] theorem rdM_ap (r : Rv) : rdM r ρ = optR (rd r ρ) ρ := by
  refine nrf ?_
  unfold rdM optR
  cases rd r ρ <;> rfl
@[simp] theorem rdsM_ap (r : List Rv) : rdsM r ρ = optR (rds r ρ) ρ := by
  refine nrf ?_
  unfold rdsM optR
  cases rds r ρ <;> rfl
@[simp] theorem rd_val (d : PD) : rd (.val d) ρ = some d := nrf rfl
@[simp] theorem rd_fresh (d : PD) : rd (.fresh d) ρ = some d := nrf rfl
@[simp] theorem rd_slot (i : Nat) : rd (.slot i) ρ = rdO ρ[i]? := nrf rfl
@[simp] theorem rds_nil : rds [] ρ = some [] := nrf rfl
@[simp] theorem rds_cons (r : Rv) (rs : List Rv) : rds (r :: rs) ρ = consO (rd r ρ) (rds rs ρ) := nrf rfl
@[simp] theorem frz_val (d : PD) : frz (.val d) ρ = .ok d ρ := nrf rfl
@[simp] theorem frz_fresh (d : PD) : frz (.fresh d) ρ = .ok d ρ := nrf rfl
@[simp] theorem frz_slot (i : Nat) : frz (.slot i) ρ = frzO i ρ[i]? ρ := nrf rfl
@[simp] theorem frzs_nil : frzs [] ρ = .ok [] ρ := nrf rfl
@[simp] theorem frzs_cons (r : Rv) (rs : List Rv) : frzs (r :: rs) ρ = (frz r ρ).thn fun d ρ' => (frzs rs ρ').thn fun ds ρ'' => .ok (d :: ds) ρ'' := nrf rfl
@[simp] theorem fin_some (c : Rc) : fin (some c) ρ = .ok c.rv ρ := nrf rfl
@[simp] theorem aNil_ap : aNil ρ = .ok [] ρ := nrf rfl
@[simp] theorem aCons_ap (a : M Rv) (b : M (List Rv)) : aCons a b ρ = (a ρ).thn fun x ρ' => (b ρ').thn fun xs ρ'' => .ok (x :: xs) ρ'' := nrf rfl
@[simp] theorem eOp2_ap (g : PD → PD → Option Rc) (a b : M Rv) : eOp2 g a b ρ = (a ρ).thn fun x ρ => (b ρ).thn fun y ρ => (rdM x ρ).thn fun d1 ρ => (rdM y ρ).thn fun d2 ρ => fin (g d1 d2) ρ := nrf rfl
@[simp] theorem eOp1_ap (g : PD → Option Rc) (a : M Rv) : eOp1 g a ρ = (a ρ).thn fun x ρ => (rdM x ρ).thn fun d1 ρ => fin (g d1) ρ := nrf rfl
@[simp] theorem eOpN_ap (g : List PD → Option Rc) (a : M (List Rv)) : eOpN g a ρ = (a ρ).thn fun xs ρ => (rdsM xs ρ).thn fun ds ρ => fin (g ds) ρ := nrf rfl
@[simp] theorem eTup_ap (a : M (List Rv)) : eTup a ρ = (a ρ).thn fun rs ρ => (frzs rs ρ).thn fun ds ρ => (chk (smallL ds.length) ρ).thn fun _ ρ => .ok (.val (.tuple ds)) ρ := nrf rfl
@[simp] theorem eLst_ap (a : M (List Rv)) : eLst a ρ = (a ρ).thn fun rs ρ => (frzs rs ρ).thn fun ds ρ => (chk (smallL ds.length) ρ).thn fun _ ρ => .ok (.fresh (.list ds)) ρ := nrf rfl
@[simp] theorem tBool_ap (f : M Rv) : tBool f ρ = (f ρ).thn fun r ρ => (rdM r ρ).thn fun d ρ => boolR d ρ := by
  refine nrf ?_
  unfold tBool
  rw [bnd_ap]
  congr 1
  funext r ρ1
  rw [bnd_ap]
  congr 1
  funext d ρ2
  cases d <;> rfl
@[simp] theorem tAnd_ap (a b : M Bool) : tAndM a b ρ = (a ρ).thn fun k ρ => if k = true then b ρ else .ok false ρ := by
  refine nrf ?_
  unfold tAndM
  rw [bnd_ap]
  congr 1
  funext k ρ1
  cases k <;> rfl
@[simp] theorem tOr_ap (a b : M Bool) : tOrM a b ρ = (a ρ).thn fun k ρ => if k = true then .ok true ρ else b ρ := by
  refine nrf ?_
  unfold tOrM
  rw [bnd_ap]
  congr 1
  funext k ρ1
  cases k <;> rfl
@[simp] theorem tNot_ap (a : M Bool) : tNotM a ρ = (a ρ).thn fun k ρ => .ok (!k) ρ := nrf rfl
@[simp] theorem eIf_ap (c : M Bool) (a b : M Rv) : eIf c a b ρ = (c ρ).thn fun k ρ => if k = true then a ρ else b ρ := by
  refine nrf ?_
  unfold eIf
  rw [bnd_ap]
  congr 1
  funext k ρ1
  cases k <;> rfl
@[simp] theorem eIsN_ap (a : M Rv) : eIsN a ρ = (a ρ).thn fun x ρ => (rdM x ρ).thn fun d ρ => .ok (.val (.bool (isNone d))) ρ := nrf rfl
@[simp] theorem eNotN_ap (a : M Rv) : eNotN a ρ = (a ρ).thn fun x ρ => (rdM x ρ).thn fun d ρ => .ok (.val (.bool (!isNone d))) ρ := nrf rfl
@[simp] theorem eFz_ap (f : M Rv) : eFz f ρ = (f ρ).thn fun r ρ => (frz r ρ).thn fun d ρ => .ok (.val d) ρ := nrf rfl
@[simp] theorem sSeq_ap (a b : SM) : sSeq a b ρ = (a ρ).seq b := nrf rfl
@[simp] theorem sNil_ap : sNil ρ = .nx ρ := nrf rfl
@[simp] theorem sRet_ap (f : M Rv) : sRet f ρ = (f ρ).thnS fun r ρ => .rt r ρ := nrf rfl
@[simp] theorem sIf_ap (c : M Bool) (a b : SM) : sIf c a b ρ = (c ρ).thnS fun k ρ => if k = true then a ρ else b ρ := by
  refine nrf ?_
  unfold sIf
  rw [bndS_ap]
  congr 1
  funext k ρ1
  cases k <;> rfl
@[simp] theorem sSet_ap (i : Nat) (f : M Rv) : sSet i f ρ = (f ρ).thnS fun r ρ => putR i r ρ := nrf rfl
@[simp] theorem free_ap (i : Nat) : freeSl ρ i = freeOO ρ[i]? := by
  refine nrf ?_
  unfold freeSl
  cases ρ[i]? with
  | none => rfl
  | some o => cases o with
    | none => rfl
    | some s => cases s with
      | own b d => cases b <;> rfl
      | _ => rfl
@[simp] theorem putR_ap (i : Nat) (r : Rv) : putR i r ρ = if freeSl ρ i = true then putV i r ρ else .no := by
  refine nrf ?_
  unfold putR putV
  cases r <;> rfl
@[simp] theorem sAsg_ap (f : M Rv) (g : PD → Dn → Option Dn) : sAsg f g ρ = (f ρ).thnS fun r ρ => (frz r ρ).thnS fun d ρ => optS (g d ρ) := by
  refine nrf ?_
  unfold sAsg
  rw [bndS_ap]
  congr 1
@[simp] theorem gNm_ap (i : Nat) (d : PD) : gNm i d ρ = if freeSl ρ i = true then some (ρ.set i (some (.imm d))) else none := nrf rfl
@[simp] theorem gTupM_ap (gs : List PD → Dn → Option Dn) (ds : List PD) : gTupM gs (.tuple ds) ρ = gs ds ρ := nrf rfl
@[simp] theorem gsNil_ap : gsNil [] ρ = some ρ := nrf rfl
@[simp] theorem gsCons_ap (g : PD → Dn → Option Dn) (gs : List PD → Dn → Option Dn) (d : PD) (ds : List PD) : gsCons g gs (d :: ds) ρ = optD (g d ρ) (gs ds) := nrf rfl
@[simp] theorem sFor_ap (it : M (List PD)) (g : PD → Dn → Option Dn) (body : SM) : sFor it g body ρ = (it ρ).thnS fun ds ρ => forL g body ds ρ := nrf rfl
@[simp] theorem iSeqM_ap (f : M Rv) : iSeqM f ρ = (f ρ).thn fun r ρ => (frz r ρ).thn fun d ρ => itemsOf d ρ := nrf rfl
@[simp] theorem itemsOf_l (ds : List PD) : itemsOf (.list ds) ρ = .ok ds ρ := nrf rfl
@[simp] theorem itemsOf_t (ds : List PD) : itemsOf (.tuple ds) ρ = .ok ds ρ := nrf rfl
/-! a def's body -/
@[simp] theorem startD_ap (n : Nat) (ms : List Bool) (ds : List PD) : startD n ms ds = argD ms ds ++ List.replicate (n - ms.length) none := nrf rfl
@[simp] theorem argD_cons (m : Bool) (ms : List Bool) (d : PD) (ds : List PD) : argD (m :: ms) (d :: ds) = slOf m d :: argD ms ds := nrf rfl
@[simp] theorem argD_nil (ds : List PD) : argD [] ds = [] := nrf rfl
@[simp] theorem slOf_t (d : PD) : slOf true d = some (.own true d) := nrf rfl
@[simp] theorem slOf_f (d : PD) : slOf false d = some (.imm d) := nrf rfl
def outO (o : Option (Option Sl)) (ds : Option (List PD)) : Option (List PD) := match o with | some (some (.own true d)) => ds.map (d :: ·) | _ => none
@[simp] theorem outO_own (d : PD) (ds : List PD) : outO (some (some (.own true d))) (some ds) = some (d :: ds) := nrf rfl
@[simp] theorem outs_nil (i : Nat) : outsAt ρ i [] = some [] := nrf rfl
@[simp] theorem outs_f (i : Nat) (ms : List Bool) : outsAt ρ i (false :: ms) = outsAt ρ (i + 1) ms := nrf rfl
@[simp] theorem outs_t (i : Nat) (ms : List Bool) : outsAt ρ i (true :: ms) = outO ρ[i]? (outsAt ρ (i + 1) ms) := nrf rfl
def resO (o : Option (Option Sl)) : Option Rc := match o with | some (some (.imm d)) => some (.val d) | some (some (.own false d)) => some (.fresh d) | _ => none
@[simp] theorem resO_imm (d : PD) : resO (some (some (.imm d))) = some (.val d) := nrf rfl
@[simp] theorem resO_own (d : PD) : resO (some (some (.own false d))) = some (.fresh d) := nrf rfl
@[simp] theorem res_val (d : PD) : resOf ρ (.val d) = some (.val d) := nrf rfl
@[simp] theorem res_fresh (d : PD) : resOf ρ (.fresh d) = some (.fresh d) := nrf rfl
@[simp] theorem res_slot (i : Nat) : resOf ρ (.slot i) = resO ρ[i]? := nrf rfl
def retF (o : Option (List PD)) (c : Option Rc) : FR := match o, c with | some o, some c => .ok c o | _, _ => .no
@[simp] theorem retF_some (o : List PD) (c : Rc) : retF (some o) (some c) = .ok c o := nrf rfl
def exF (e : Exn) (o : Option (List PD)) : FR := match o with | some o => .ex e o | none => .no
@[simp] theorem exF_some (e : Exn) (o : List PD) : exF e (some o) = .ex e o := nrf rfl
def endF (ms : List Bool) (o : Ou) : FR := match o with
  | .nx ρ => retF (outsAt ρ 0 ms) (some (.val .none))
  | .rt r ρ => retF (outsAt ρ 0 ms) (resOf ρ r)
  | .ex e ρ => exF e (outsAt ρ 0 ms)
  | _ => .no
@[simp] theorem endF_nx (ms : List Bool) : endF ms (.nx ρ) = retF (outsAt ρ 0 ms) (some (.val .none)) := nrf rfl
@[simp] theorem endF_rt (ms : List Bool) (r : Rv) : endF ms (.rt r ρ) = retF (outsAt ρ 0 ms) (resOf ρ r) := nrf rfl
@[simp] theorem endF_ex (ms : List Bool) (e : Exn) : endF ms (.ex e ρ) = exF e (outsAt ρ 0 ms) := nrf rfl
@[simp] theorem runF_ap (n : Nat) (ms : List Bool) (b : SM) (ds : List PD) : runF n ms b ds = endF ms (b (startD n ms ds)) := by
  refine nrf ?_
  unfold runF endF retF exF
  cases b (startD n ms ds) with
  | nx ρ => dsimp only; cases outsAt ρ 0 ms <;> rfl
  | rt r ρ => rfl
  | _ => rfl
@[simp] theorem calm_ok (c : Rc) (o : List PD) : (FR.ok c o).calm = .ok c o := nrf rfl
@[simp] theorem rv_val (d : PD) : (Rc.val d).rv = .val d := nrf rfl
@[simp] theorem rv_fresh (d : PD) : (Rc.fresh d).rv = .fresh d := nrf rfl
end
end DP
/-! PLB: comprehensions and loops, run. -/
namespace DP
open PySem L2
theorem back_wipe {ρ : Dn} : ∀ {vs : List Nat}, okW ρ vs = true → backD ρ (wipeD ρ vs) vs = ρ := by
  intro vs h
  apply List.ext_getElem?
  intro i
  by_cases hi : i ∈ vs
  · have hv := List.all_eq_true.mp h i hi
    cases e : ρ[i]? with
    | none => rw [e] at hv; cases hv
    | some o =>
      have hl : i < ρ.length := (List.getElem?_eq_some_iff.mp e).1
      rw [backD_in (by rw [wipeD_len]; exact hl) hi, e]
      rfl
  · rw [backD_out hi, wipeD_out hi]
/-- a comprehension whose tests and items leave the slots as they are -/
theorem eComp_run {it : M (List PD)} {g : PD → Dn → Option Dn} {vs : List Nat} {cond : M Bool} {elt : M Rv} {ρ ρ1 : Dn} {α : Type} {enc : α → PD} {xs : List α} (p : α → Bool) (f : α → PD)
    (hi : it ρ = .ok (xs.map enc) ρ1) (hw : okW ρ1 vs = true) (hz : xs.length ≤ 10000000)
    (h : ∀ x ∈ xs, ∃ ρ2 ρ3, g (enc x) (wipeD ρ1 vs) = some ρ2 ∧ cond ρ2 = .ok (p x) ρ3 ∧ (p x = false → wipeD ρ3 vs = wipeD ρ1 vs) ∧ (p x = true → ∃ ρ4, bnd elt frz ρ3 = .ok (f x) ρ4 ∧ wipeD ρ4 vs = wipeD ρ1 vs)) :
    eComp it g vs cond elt ρ = .ok (.fresh (.list ((xs.filter p).map f))) ρ1 := by
  have key : ∀ (ys : List α) (acc : List PD), (∀ y ∈ ys, y ∈ xs) → acc.length + ys.length ≤ 10000000 → compL g vs cond (bnd elt frz) (ys.map enc) acc (wipeD ρ1 vs) = .ok (acc ++ (ys.filter p).map f) (wipeD ρ1 vs) := by
    intro ys
    induction ys with
    | nil => intro acc _ _; simp [compL]
    | cons y ys ih =>
      intro acc hy hl
      simp only [List.length_cons] at hl
      obtain ⟨ρ2, ρ3, e1, e2, e3, e4⟩ := h y (hy y (List.mem_cons_self ..))
      simp only [List.map_cons, compL, e1, e2]
      cases hp : p y with
      | false =>
        simp only [e3 hp, List.filter_cons, hp]
        exact ih acc (fun z hz => hy z (List.mem_cons_of_mem _ hz)) (by omega)
      | true =>
        obtain ⟨ρ4, e5, e6⟩ := e4 hp
        have hs : smallL acc.length = true := by simp [smallL]; omega
        simp only [e5, hs, if_true, e6, List.filter_cons, hp, List.map_cons]
        rw [ih (acc ++ [f y]) (fun z hz => hy z (List.mem_cons_of_mem _ hz)) (by simp; omega)]
        simp
  unfold eComp
  rw [bnd_ap, hi]
  simp only [hw, if_true, thn_ok]
  rw [key xs [] (fun _ h => h) (by simpa using hz)]
  simp [back_wipe hw]
/-- what a loop asks of its body's end: P of the frame to go on with, Q of an end -/
def Ou.steps (o : Ou) (P : Dn → Prop) (Q : Ou → Prop) : Prop := match o with
  | .nx ρ2 => P ρ2
  | .ct ρ2 => P ρ2
  | .bk ρ2 => Q (.nx ρ2)
  | .no => False
  | o => Q o
section
variable {P : Dn → Prop} {Q : Ou → Prop} {ρ : Dn}
@[simp] theorem steps_nx : (Ou.nx ρ).steps P Q = P ρ := nrf rfl
@[simp] theorem steps_ct : (Ou.ct ρ).steps P Q = P ρ := nrf rfl
@[simp] theorem steps_bk : (Ou.bk ρ).steps P Q = Q (.nx ρ) := nrf rfl
@[simp] theorem steps_rt (r : Rv) : (Ou.rt r ρ).steps P Q = Q (.rt r ρ) := nrf rfl
@[simp] theorem steps_ex (r : Exn) : (Ou.ex r ρ).steps P Q = Q (.ex r ρ) := nrf rfl
end
/-- a loop by its invariant -/
theorem forL_inv {g : PD → Dn → Option Dn} {body : SM} {α : Type} {enc : α → PD} {Q : Ou → Prop} (I : List α → Dn → Prop) {xs : List α} {ρ : Dn} (h0 : I [] ρ)
    (hs : ∀ ys y zs ρ, xs = ys ++ y :: zs → I ys ρ → ∃ ρ1, g (enc y) ρ = some ρ1 ∧ (body ρ1).steps (I (ys ++ [y])) Q)
    (hn : ∀ ρ, I xs ρ → Q (.nx ρ)) : Q (forL g body (xs.map enc) ρ) := by
  have key : ∀ (zs ys : List α) (ρ : Dn), xs = ys ++ zs → I ys ρ → Q (forL g body (zs.map enc) ρ) := by
    intro zs
    induction zs with
    | nil => intro ys ρ e h; simp at e; subst e; exact hn ρ h
    | cons z zs ih =>
      intro ys ρ e h
      obtain ⟨ρ1, e1, e2⟩ := hs ys z zs ρ e h
      simp only [List.map_cons, forL, e1]
      have e' : xs = (ys ++ [z]) ++ zs := by simp [e]
      cases eb : body ρ1 <;> rw [eb] at e2 <;> simp only [Ou.steps] at e2 ⊢
      · exact ih _ _ e' e2
      · exact e2
      · exact e2
      · exact ih _ _ e' e2
      · exact e2
  exact key xs [] ρ rfl h0
/-- the same, where the loop is a fold -/
theorem forL_fold {g : PD → Dn → Option Dn} {body : SM} {α σ : Type} {enc : α → PD} (S : σ → Dn → Prop) (step : σ → α → σ) {xs : List α} {s : σ} {ρ : Dn} (h0 : S s ρ)
    (hs : ∀ t x ρ, x ∈ xs → S t ρ → ∃ ρ1 ρ2, g (enc x) ρ = some ρ1 ∧ (body ρ1 = .nx ρ2 ∨ body ρ1 = .ct ρ2) ∧ S (step t x) ρ2) : ∃ ρ', forL g body (xs.map enc) ρ = .nx ρ' ∧ S (xs.foldl step s) ρ' := by
  induction xs generalizing s ρ with
  | nil => exact ⟨ρ, rfl, h0⟩
  | cons x xs ih =>
    obtain ⟨ρ1, ρ2, e1, e2, h2⟩ := hs s x ρ (List.mem_cons_self ..) h0
    obtain ⟨ρ', e3, h3⟩ := ih h2 fun t y ρ hy => hs t y ρ (List.mem_cons_of_mem _ hy)
    refine ⟨ρ', ?_, h3⟩
    simp only [List.map_cons, forL, e1]
    rcases e2 with e2 | e2 <;> rw [e2] <;> exact e3
/-! sums, marks -/
abbrev Sm := List (Int × Int) × Int
def dTerm (t : Int × Int) : PD := .tuple [.int t.1, .int t.2]
def dSum (s : Sm) : PD := .tuple [.tuple (s.1.map dTerm), .int s.2]
def dInts (ks : List Int) : PD := .list (ks.map .int)
def dKn (ks : List Int) : PD := .dict (ks.map fun k => (.int k, .bool true))
theorem look_kn (k : Int) : ∀ ks : List Int, look (.inl k) (ks.map fun k => ((.int k, .bool true) : PD × PD)) = if k ∈ ks then some (.bool true) else none
  | [] => rfl
  | x :: ks => by
    simp only [List.map_cons, look, keyIsD, look_kn k ks, List.mem_cons]
    by_cases h : x = k
    · simp [h]
    · have h' : ¬ k = x := fun e => h e.symm
      simp [h, h']
theorem intsOf_map : ∀ ks : List Int, intsOf (ks.map .int) = some ks
  | [] => rfl
  | k :: ks => by simp [intsOf, intsOf_map ks]
theorem intsOf_map' {α : Type} (f : α → Int) : ∀ ks : List α, intsOf (ks.map fun k => .int (f k)) = some (ks.map f)
  | [] => rfl
  | k :: ks => by simp [intsOf, intsOf_map' f ks]
end DP
namespace DP
open PySem L2
theorem eComp_all {it : M (List PD)} {g : PD → Dn → Option Dn} {vs : List Nat} {cond : M Bool} {elt : M Rv} {ρ ρ1 : Dn} {α : Type} {enc : α → PD} {xs : List α} (f : α → PD)
    (hi : it ρ = .ok (xs.map enc) ρ1) (hw : okW ρ1 vs = true) (hz : xs.length ≤ 10000000)
    (h : ∀ x ∈ xs, ∃ ρ2 ρ3, g (enc x) (wipeD ρ1 vs) = some ρ2 ∧ cond ρ2 = .ok true ρ3 ∧ ∃ ρ4, bnd elt frz ρ3 = .ok (f x) ρ4 ∧ wipeD ρ4 vs = wipeD ρ1 vs) :
    eComp it g vs cond elt ρ = .ok (.fresh (.list (xs.map f))) ρ1 := by
  have e : xs.filter (fun _ => true) = xs := by simp
  have := eComp_run (p := fun _ => true) f hi hw hz fun x hx => by
    obtain ⟨a, b, h1, h2, c, h3, h4⟩ := h x hx
    exact ⟨a, b, h1, h2, fun z => (Bool.noConfusion z), fun _ => ⟨c, h3, h4⟩⟩
  rw [e] at this
  exact this
end DP
namespace DP
open PySem L2
def immO (o : Option Sl) : Bool := match o with
  | none => true
  | some (.imm _) => true
  | _ => false
@[simp] theorem immO_none : immO none = true := nrf rfl
@[simp] theorem immO_imm (d : PD) : immO (some (.imm d)) = true := nrf rfl
def immOO (o : Option (Option Sl)) : Bool := match o with | some o => immO o | none => false
@[simp] theorem immOO_some (o : Option Sl) : immOO (some o) = immO o := nrf rfl
@[simp] theorem okW_nil (ρ : Dn) : okW ρ [] = true := nrf rfl
@[simp] theorem okW_cons (ρ : Dn) (v : Nat) (vs : List Nat) : okW ρ (v :: vs) = (immOO ρ[v]? && okW ρ vs) := by
  refine nrf ?_
  unfold okW
  rw [List.all_cons]
  congr 1
  cases ρ[v]? with
  | none => rfl
  | some o => cases o with
    | none => rfl
    | some s => cases s <;> rfl
@[simp] theorem wipeD_nil (ρ : Dn) : wipeD ρ [] = ρ := nrf rfl
@[simp] theorem wipeD_cons (ρ : Dn) (v : Nat) (vs : List Nat) : wipeD ρ (v :: vs) = (wipeD ρ vs).set v none := nrf rfl
theorem immO_free {o : Option Sl} (h : immO o = true) : freeO o = true := by
  cases o with
  | none => rfl
  | some s => cases s with
    | imm d => rfl
    | own b d => cases h
    | scr n => cases h
end DP
/-! PLC: calls, stores, loops over ranges. -/
namespace DP
open PySem L2
section
variable {ρ : Dn}
def callR (os : List Nat) (l k : Bool) (r : FR) (ρ : Dn) : Rs Rv := match r with
  | .ok c outs => if (cleanRc l k c && outs.all (cleanTop l k)) = true then .ok c.rv (setOuts os outs ρ) else .no
  | .ex e outs => if ((e.fs.map (·.2)).all (clean l k) && outs.all (cleanTop l k)) = true then .ex e (setOuts os outs ρ) else .no
  | .no => .no
@[simp] theorem callR_ok (os : List Nat) (l k : Bool) (c : Rc) (outs : List PD) : callR os l k (.ok c outs) ρ = if (cleanRc l k c && outs.all (cleanTop l k)) = true then .ok c.rv (setOuts os outs ρ) else .no := nrf rfl
@[simp] theorem callR_ex (os : List Nat) (l k : Bool) (e : Exn) (outs : List PD) : callR os l k (.ex e outs) ρ = if ((e.fs.map (·.2)).all (clean l k) && outs.all (cleanTop l k)) = true then .ex e (setOuts os outs ρ) else .no := nrf rfl
def callO (m : List PD → FR) (o : Option (List PD × List Nat × List Nat)) (ρ : Dn) : Rs Rv := match o with
  | none => .no
  | some (ds, bs, os) => if okBO bs os = true then callR os (bs.any (isOwnL ρ)) (bs.any (isOwnD ρ)) (m ds) ρ else .no
@[simp] theorem callO_some (m : List PD → FR) (ds : List PD) (bs os : List Nat) : callO m (some (ds, bs, os)) ρ = if okBO bs os = true then callR os (bs.any (isOwnL ρ)) (bs.any (isOwnD ρ)) (m ds) ρ else .no := nrf rfl
@[simp] theorem eCall_ap (ms : List Bool) (m : List PD → FR) (fa : M (List Rv)) : eCall ms m fa ρ = (fa ρ).thn fun rs ρ => callO m (prep ms rs ρ) ρ := by
  refine nrf ?_
  unfold eCall
  rw [bnd_ap]
  congr 1
def prepV (d : PD) (o : Option (List PD × List Nat × List Nat)) : Option (List PD × List Nat × List Nat) := match o with
  | some (ds, bs, os) => some (d :: ds, bs, os)
  | none => none
@[simp] theorem prepV_some (d : PD) (ds : List PD) (bs os : List Nat) : prepV d (some (ds, bs, os)) = some (d :: ds, bs, os) := nrf rfl
def prepS (i : Nat) (w : Bool) (d : Option PD) (o : Option (List PD × List Nat × List Nat)) : Option (List PD × List Nat × List Nat) := match d, o with
  | some d, some (ds, bs, os) => some (d :: ds, (if w = true then i :: bs else bs), os)
  | _, _ => none
@[simp] theorem prepS_some (i : Nat) (w : Bool) (d : PD) (ds : List PD) (bs os : List Nat) : prepS i w (some d) (some (ds, bs, os)) = some (d :: ds, (if w = true then i :: bs else bs), os) := nrf rfl
def prepT (i : Nat) (d : Option (Option Sl)) (o : Option (List PD × List Nat × List Nat)) : Option (List PD × List Nat × List Nat) := match d, o with
  | some (some (.own _ d)), some (ds, bs, os) => if os.contains i = true then none else some (d :: ds, bs, i :: os)
  | _, _ => none
@[simp] theorem prepT_some (i : Nat) (b : Bool) (d : PD) (ds : List PD) (bs os : List Nat) : prepT i (some (some (.own b d))) (some (ds, bs, os)) = if os.contains i = true then none else some (d :: ds, bs, i :: os) := nrf rfl
@[simp] theorem prep_nil : prep [] [] ρ = some ([], [], []) := nrf rfl
@[simp] theorem prep_val (ms : List Bool) (d : PD) (rs : List Rv) : prep (false :: ms) (.val d :: rs) ρ = prepV d (prep ms rs ρ) := by
  refine nrf ?_
  rw [prep]; simp only [rd]; cases prep ms rs ρ <;> rfl
@[simp] theorem prep_fresh (ms : List Bool) (d : PD) (rs : List Rv) : prep (false :: ms) (.fresh d :: rs) ρ = prepV d (prep ms rs ρ) := by
  refine nrf ?_
  rw [prep]; simp only [rd]; cases prep ms rs ρ <;> rfl
@[simp] theorem prep_slot (ms : List Bool) (i : Nat) (rs : List Rv) : prep (false :: ms) (.slot i :: rs) ρ = prepS i (isOwn ρ i) (rd (.slot i) ρ) (prep ms rs ρ) := by
  refine nrf ?_
  rw [prep]
  cases rd (.slot i) ρ <;> cases prep ms rs ρ <;> rfl
@[simp] theorem prep_t (ms : List Bool) (i : Nat) (rs : List Rv) : prep (true :: ms) (.slot i :: rs) ρ = prepT i ρ[i]? (prep ms rs ρ) := by
  refine nrf ?_
  rw [prep]
  unfold prepT
  cases ρ[i]? with
  | none => rfl
  | some o => cases o with
    | none => rfl
    | some s => cases s <;> cases prep ms rs ρ <;> rfl
@[simp] theorem okBO_nil (bs : List Nat) : okBO bs [] = true := nrf rfl
@[simp] theorem okBO_cons (bs : List Nat) (i : Nat) (os : List Nat) : okBO bs (i :: os) = (!bs.contains i && okBO bs os) := nrf rfl
@[simp] theorem setOuts_nil (ds : List PD) : setOuts [] ds ρ = ρ := nrf rfl
@[simp] theorem setOuts_cons (i : Nat) (os : List Nat) (d : PD) (ds : List PD) : setOuts (i :: os) (d :: ds) ρ = setOuts os ds (setOwn ρ i d) := nrf rfl
def setO (i : Nat) (d : PD) (o : Option (Option Sl)) (ρ : Dn) : Dn := match o with | some (some (.own b _)) => ρ.set i (some (.own b d)) | _ => ρ
@[simp] theorem setO_own (i : Nat) (d e : PD) (b : Bool) : setO i d (some (some (.own b e))) ρ = ρ.set i (some (.own b d)) := nrf rfl
@[simp] theorem setOwn_ap (i : Nat) (d : PD) : setOwn ρ i d = setO i d ρ[i]? ρ := by
  refine nrf ?_
  unfold setOwn setO
  rfl
def ownO (o : Option (Option Sl)) : Bool := match o with | some (some (.own _ _)) => true | _ => false
@[simp] theorem ownO_own (b : Bool) (d : PD) : ownO (some (some (.own b d))) = true := nrf rfl
@[simp] theorem ownO_imm (d : PD) : ownO (some (some (.imm d))) = false := nrf rfl
def ownLO (o : Option (Option Sl)) : Bool := match o with | some (some (.own _ (.list _))) => true | _ => false
@[simp] theorem ownLO_l (b : Bool) (d : List PD) : ownLO (some (some (.own b (.list d)))) = true := nrf rfl
@[simp] theorem ownLO_d (b : Bool) (d : List (PD × PD)) : ownLO (some (some (.own b (.dict d)))) = false := nrf rfl
def ownDO (o : Option (Option Sl)) : Bool := match o with | some (some (.own _ (.dict _))) => true | _ => false
@[simp] theorem ownDO_l (b : Bool) (d : List PD) : ownDO (some (some (.own b (.list d)))) = false := nrf rfl
@[simp] theorem ownDO_d (b : Bool) (d : List (PD × PD)) : ownDO (some (some (.own b (.dict d)))) = true := nrf rfl
@[simp] theorem isOwn_ap (i : Nat) : isOwn ρ i = ownO ρ[i]? := nrf (by unfold isOwn ownO; rfl)
@[simp] theorem isOwnL_ap (i : Nat) : isOwnL ρ i = ownLO ρ[i]? := nrf (by unfold isOwnL ownLO; rfl)
@[simp] theorem isOwnD_ap (i : Nat) : isOwnD ρ i = ownDO ρ[i]? := nrf (by unfold isOwnD ownDO; rfl)
mutual
theorem clean_ff : ∀ d : PD, clean false false d = true
  | .list ds => by simp [clean, cleanAll_ff ds]
  | .tuple ds => by simp [clean, cleanAll_ff ds]
  | .dict ds => by simp [clean, cleanKV_ff ds]
  | .none => rfl
  | .bool _ => rfl
  | .int _ => rfl
  | .str _ => rfl
theorem cleanAll_ff : ∀ d : List PD, cleanAll false false d = true
  | [] => rfl
  | d :: ds => by simp [cleanAll, clean_ff d, cleanAll_ff ds]
theorem cleanKV_ff : ∀ d : List (PD × PD), cleanKV false false d = true
  | [] => rfl
  | (_, d) :: ds => by simp [cleanKV, clean_ff d, cleanKV_ff ds]
end
@[simp] theorem cleanff (d : PD) : clean false false d = true := clean_ff d
@[simp] theorem cleanAllff (d : List PD) : cleanAll false false d = true := cleanAll_ff d
@[simp] theorem cleanKVff (d : List (PD × PD)) : cleanKV false false d = true := cleanKV_ff d
@[simp] theorem cleanTopff (d : PD) : cleanTop false false d = true := by cases d <;> simp [cleanTop, cleanAll_ff, cleanKV_ff, clean_ff]
@[simp] theorem cleanRcff (c : Rc) : cleanRc false false c = true := by cases c <;> simp [cleanRc]
@[simp] theorem cleanRc_val (l k : Bool) (d : PD) : cleanRc l k (.val d) = clean l k d := nrf rfl
@[simp] theorem cleanRc_fresh (l k : Bool) (d : PD) : cleanRc l k (.fresh d) = cleanTop l k d := nrf rfl
@[simp] theorem clean_int (l k : Bool) (i : Int) : clean l k (.int i) = true := nrf rfl
@[simp] theorem clean_bool (l k : Bool) (i : Bool) : clean l k (.bool i) = true := nrf rfl
@[simp] theorem clean_str (l k : Bool) (i : Str) : clean l k (.str i) = true := nrf rfl
@[simp] theorem clean_none (l k : Bool) : clean l k .none = true := nrf rfl
@[simp] theorem clean_tup (l k : Bool) (ds : List PD) : clean l k (.tuple ds) = cleanAll l k ds := by simp [clean]
@[simp] theorem clean_lst (l k : Bool) (ds : List PD) : clean l k (.list ds) = (!l && cleanAll l k ds) := by simp [clean]
@[simp] theorem clean_dct (l k : Bool) (ds : List (PD × PD)) : clean l k (.dict ds) = (!k && cleanKV l k ds) := by simp [clean]
@[simp] theorem cleanTop_lst (l k : Bool) (ds : List PD) : cleanTop l k (.list ds) = cleanAll l k ds := by simp [cleanTop]
@[simp] theorem cleanTop_dct (l k : Bool) (ds : List (PD × PD)) : cleanTop l k (.dict ds) = cleanKV l k ds := by simp [cleanTop]
@[simp] theorem cleanAll_nil (l k : Bool) : cleanAll l k [] = true := nrf rfl
@[simp] theorem cleanAll_cons (l k : Bool) (d : PD) (ds : List PD) : cleanAll l k (d :: ds) = (clean l k d && cleanAll l k ds) := by simp [cleanAll]
theorem cleanAll_map {α : Type} {l k : Bool} (f : α → PD) (h : ∀ x, clean l k (f x) = true) : ∀ xs : List α, cleanAll l k (xs.map f) = true
  | [] => rfl
  | x :: xs => by simp [h x, cleanAll_map f h xs]
theorem cleanAll_mem {α : Type} {l k : Bool} (f : α → PD) : ∀ xs : List α, (∀ x ∈ xs, clean l k (f x) = true) → cleanAll l k (xs.map f) = true
  | [], _ => rfl
  | x :: xs, h => by simp [h x (List.mem_cons_self ..), cleanAll_mem f xs fun y hy => h y (List.mem_cons_of_mem _ hy)]
@[simp] theorem cleanAll_ints (l k : Bool) (xs : List Int) : cleanAll l k (xs.map .int) = true := cleanAll_map _ (fun _ => rfl) xs
/-! small -/
theorem smallL_of {n : Nat} (h : n ≤ 10000000) : smallL n = true := by simp [smallL, h]
@[simp] theorem smallL_ap (n : Nat) : smallL n = decide (n ≤ 10000000) := nrf rfl
/-! stores -/
@[simp] theorem sApp_ap (i : Nat) (f : M Rv) : sApp i f ρ = if isOwnLst ρ i = true then (f ρ).thnS (fun r ρ => (frz r ρ).thnS fun d ρ => appAt i d ρ) else .no := nrf rfl
@[simp] theorem isOwnLst_ap (i : Nat) : isOwnLst ρ i = ownLO ρ[i]? := nrf (by unfold isOwnLst ownLO; rfl)
def appO (i : Nat) (d : PD) (o : Option (Option Sl)) (ρ : Dn) : Ou := match o with | some (some (.own b (.list ds))) => if smallL ds.length = true then .nx (ρ.set i (some (.own b (.list (ds ++ [d]))))) else .no | _ => .no
@[simp] theorem appO_own (i : Nat) (d : PD) (b : Bool) (ds : List PD) : appO i d (some (some (.own b (.list ds)))) ρ = if smallL ds.length = true then .nx (ρ.set i (some (.own b (.list (ds ++ [d]))))) else .no := nrf rfl
@[simp] theorem appAt_ap (i : Nat) (d : PD) : appAt i d ρ = appO i d ρ[i]? ρ := nrf (by unfold appAt appO; rfl)
@[simp] theorem sPutIx_ap (i : Nat) (fk : M Rv) (d : PD) : sPutIx i fk d ρ = if isOwn ρ i = true then (fk ρ).thnS (fun r ρ => (rdM r ρ).thnS fun k ρ => putAt i d k ρ) else .no := nrf rfl
def putAO (i : Nat) (d k : PD) (o : Option (Option Sl)) (ρ : Dn) : Ou := match o with | some (some (.own b o)) => optS ((setIx o k d).map fun o' => ρ.set i (some (.own b o'))) | _ => .no
@[simp] theorem putAO_own (i : Nat) (d k o : PD) (b : Bool) : putAO i d k (some (some (.own b o))) ρ = optS ((setIx o k d).map fun o' => ρ.set i (some (.own b o'))) := nrf rfl
@[simp] theorem putAt_ap (i : Nat) (d k : PD) : putAt i d k ρ = putAO i d k ρ[i]? ρ := by
  refine nrf ?_
  unfold putAt putAO
  cases ρ[i]? with
  | none => rfl
  | some o => cases o with
    | none => rfl
    | some s => cases s with
      | own b o => dsimp only; cases setIx o k d <;> rfl
      | _ => rfl
@[simp] theorem sAsgG_ap (f : M Rv) (G : PD → SM) : sAsgG f G ρ = (f ρ).thnS fun r ρ => (frz r ρ).thnS fun d ρ => G d ρ := nrf rfl
@[simp] theorem sAsgG2_ap (f : M Rv) (G G2 : PD → SM) : sAsgG2 f G G2 ρ = (f ρ).thnS fun r ρ => (frz r ρ).thnS fun d ρ => (G d ρ).seq (G2 d) := nrf rfl
@[simp] theorem tgOf_ap (g : PD → Dn → Option Dn) (d : PD) : tgOf g d ρ = optS (g d ρ) := nrf (by unfold tgOf optS; rfl)
@[simp] theorem sPass_ap : sPass ρ = .nx ρ := nrf rfl
@[simp] theorem sBreak_ap : sBreak ρ = .bk ρ := nrf rfl
@[simp] theorem sCont_ap : sCont ρ = .ct ρ := nrf rfl
@[simp] theorem sRetN_ap : sRetN ρ = .rt (.val .none) ρ := nrf rfl
@[simp] theorem sExpr_ap (f : M Rv) : sExpr f ρ = (f ρ).thnS fun _ ρ => .nx ρ := nrf rfl
@[simp] theorem iRng1M_ap (f : M (List Rv)) : iRng1M f ρ = (f ρ).thn fun rs ρ => (rdsM rs ρ).thn fun ds ρ => rng1 ds ρ := nrf rfl
@[simp] theorem iRng2M_ap (f : M (List Rv)) : iRng2M f ρ = (f ρ).thn fun rs ρ => (rdsM rs ρ).thn fun ds ρ => rng2 ds ρ := nrf rfl
@[simp] theorem rng1_ap (j : Int) : rng1 [.int j] ρ = if in62 j = true then .ok (rngL 0 j.toNat) ρ else .no := by
  refine nrf ?_
  show bnd (chk (in62 j)) (fun _ => retM (rngL 0 j.toNat)) ρ = _
  rw [bnd_ap, chk_ap]
  cases in62 j <;> rfl
@[simp] theorem rng2_ap (i j : Int) : rng2 [.int i, .int j] ρ = if (in62 i && in62 j) = true then .ok (rngL i (j - i).toNat) ρ else .no := by
  refine nrf ?_
  show bnd (chk (in62 i && in62 j)) (fun _ => retM (rngL i (j - i).toNat)) ρ = _
  rw [bnd_ap, chk_ap]
  cases (in62 i && in62 j) <;> rfl
theorem in62_of {i : Int} (h0 : 0 ≤ i) (h : i ≤ 1000000000) : in62 i = true := by unfold in62; simp; omega
@[simp] theorem gIx_list (ds : List PD) (i : Int) : gIx (.list ds) (.int i) = (atI ds i).map .val := nrf rfl
@[simp] theorem gIx_tuple (ds : List PD) (i : Int) : gIx (.tuple ds) (.int i) = (atI ds i).map .val := nrf rfl
@[simp] theorem gSub_ap (i j : Int) : DP.gSub (.int i) (.int j) = some (.val (.int (i - j))) := nrf rfl
@[simp] theorem gAdd_int (i j : Int) : gAdd (.int i) (.int j) = some (.val (.int (i + j))) := nrf rfl
@[simp] theorem gLt_ap (i j : Int) : gLt (.int i) (.int j) = some (.val (.bool (decide (i < j)))) := nrf rfl
@[simp] theorem gLe_ap (i j : Int) : gLe (.int i) (.int j) = some (.val (.bool (decide (i ≤ j)))) := nrf rfl
@[simp] theorem gGt_ap (i j : Int) : gGt (.int i) (.int j) = some (.val (.bool (decide (j < i)))) := nrf rfl
@[simp] theorem gGe_ap (i j : Int) : gGe (.int i) (.int j) = some (.val (.bool (decide (j ≤ i)))) := nrf rfl
@[simp] theorem gNeg_ap (i : Int) : gNeg (.int i) = some (.val (.int (-i))) := nrf rfl
@[simp] theorem gSum_ap (ds : List PD) : gSum [.list ds] = (intsOf ds).map fun ns => .val (.int ns.sum) := nrf rfl
@[simp] theorem intsOf_ints (ks : List Int) : intsOf (ks.map .int) = some ks := intsOf_map ks
theorem gMod_ap {i j : Int} (h : 0 < j) : gMod (.int i) (.int j) = some (.val (.int (i % j))) := by simp [gMod, gI, h]
theorem gFdiv_ap {i j : Int} (h : 0 < j) (h2 : j < 2 ^ 200) : gFdiv (.int i) (.int j) = some (.val (.int (i / j))) := by simp [gFdiv, gI, divOk]; omega
end
end DP
namespace DP
open PySem L2
theorem gMul_l {i j : Int} (h : -18446744073709551616 < i ∧ i < 18446744073709551616) : gMul (.int i) (.int j) = some (.val (.int (i * j))) := by
  simp only [gMul]
  rw [if_pos]
  unfold mulOk
  rw [Bool.or_eq_true]
  exact .inl (decide_eq_true ⟨by omega, by omega⟩)
theorem gMul_r {i j : Int} (h : -18446744073709551616 < j ∧ j < 18446744073709551616) : gMul (.int i) (.int j) = some (.val (.int (i * j))) := by
  simp only [gMul]
  rw [if_pos]
  unfold mulOk
  rw [Bool.or_eq_true]
  exact .inr (decide_eq_true ⟨by omega, by omega⟩)
theorem gPow_ap {i j : Int} (h : 0 ≤ j ∧ j ≤ 1000000) (h2 : i.natAbs < 18446744073709551616) : gPow (.int i) (.int j) = some (.val (.int (i ^ j.toNat))) := by
  have e : powOk i j = true := by
    unfold powOk
    rw [Bool.and_eq_true]
    exact ⟨decide_eq_true h, decide_eq_true (by omega)⟩
  simp only [gPow, gI, e, if_true]
@[simp] theorem gAbs_ap (i : Int) : gAbs [.int i] = some (.val (.int (if i < 0 then -i else i))) := nrf rfl
@[simp] theorem gInt_bool (k : Bool) : gInt [.bool k] = some (.val (.int (if k then 1 else 0))) := nrf rfl
@[simp] theorem gInt_int (k : Int) : gInt [.int k] = some (.val (.int k)) := nrf rfl
@[simp] theorem gMax2_ap (i j : Int) : gMax2 [.int i, .int j] = some (.val (.int (max i j))) := by
  refine nrf ?_
  simp only [gMax2, Option.some.injEq, Rc.val.injEq, PyData.int.injEq]
  split <;> omega
@[simp] theorem gMin2_ap (i j : Int) : gMin2 [.int i, .int j] = some (.val (.int (min i j))) := by
  refine nrf ?_
  simp only [gMin2, Option.some.injEq, Rc.val.injEq, PyData.int.injEq]
  split <;> omega
@[simp] theorem gTuple_l (ds : List PD) : gTuple [.list ds] = some (.val (.tuple ds)) := nrf rfl
@[simp] theorem gTuple_t (ds : List PD) : gTuple [.tuple ds] = some (.val (.tuple ds)) := nrf rfl
@[simp] theorem gList_l (ds : List PD) : gList [.list ds] = some (.fresh (.list ds)) := nrf rfl
@[simp] theorem gList_t (ds : List PD) : gList [.tuple ds] = some (.fresh (.list ds)) := nrf rfl
@[simp] theorem gLen_l (ds : List PD) : gLen [.list ds] = some (.val (.int ds.length)) := nrf rfl
@[simp] theorem gLen_t (ds : List PD) : gLen [.tuple ds] = some (.val (.int ds.length)) := nrf rfl
@[simp] theorem setIx_list (ds : List PD) (i : Int) (v : PD) : setIx (.list ds) (.int i) v = (ixN ds.length i).map fun j => .list (ds.set j v) := nrf rfl
end DP
/-! PLD: facts of data. -/
namespace DP
open PySem L2
/-! shape -/
theorem canAll_map {α : Type} {f : α → PD} : ∀ {xs : List α}, (∀ x ∈ xs, (f x).canLay0 = true) → PyData.canLayAll0 (xs.map f) = true
  | [], _ => by simp [PyData.canLayAll0]
  | x :: xs, h => by simp [PyData.canLayAll0, h x (List.mem_cons_self ..), canAll_map (xs := xs) fun y hy => h y (List.mem_cons_of_mem _ hy)]
theorem depthAll_map {α : Type} {f : α → PD} {n : Nat} : ∀ {xs : List α}, (∀ x ∈ xs, (f x).depth ≤ n) → PyData.depthAll (xs.map f) ≤ n
  | [], _ => by simp [PyData.depthAll]
  | x :: xs, h => by
    have h1 := h x (List.mem_cons_self ..)
    have h2 := depthAll_map (xs := xs) fun y hy => h y (List.mem_cons_of_mem _ hy)
    simp only [List.map_cons, PyData.depthAll]
    omega
/-- lays, at most n deep -/
def ShD (n : Nat) (d : PD) : Prop := d.canLay0 = true ∧ d.depth ≤ n
theorem ShD.shaped {n : Nat} {d : PD} (h : ShD n d) (hn : n ≤ 64 := by decide) : SeqAt.shaped d = true := by
  unfold SeqAt.shaped
  rw [h.1]
  simp
  have := h.2
  omega
theorem ShD.mono {n m : Nat} {d : PD} (h : ShD n d) (hn : n ≤ m) : ShD m d := ⟨h.1, Nat.le_trans h.2 hn⟩
theorem shInt (n : Nat) (i : Int) : ShD n (.int i) := ⟨by simp [PyData.canLay0], by simp [PyData.depth]⟩
theorem shBool (n : Nat) (i : Bool) : ShD n (.bool i) := ⟨by simp [PyData.canLay0], by simp [PyData.depth]⟩
theorem shNone (n : Nat) : ShD n .none := ⟨by simp [PyData.canLay0], by simp [PyData.depth]⟩
theorem shList {α : Type} {n : Nat} {f : α → PD} {xs : List α} (h : ∀ x ∈ xs, ShD n (f x)) : ShD (n + 1) (.list (xs.map f)) := ⟨by simp [PyData.canLay0]; exact canAll_map fun x hx => (h x hx).1, by
  simp [PyData.depth]; exact depthAll_map fun x hx => (h x hx).2⟩
theorem shTup {α : Type} {n : Nat} {f : α → PD} {xs : List α} (h : ∀ x ∈ xs, ShD n (f x)) : ShD (n + 1) (.tuple (xs.map f)) := ⟨by simp [PyData.canLay0]; exact canAll_map fun x hx => (h x hx).1, by
  simp [PyData.depth]; exact depthAll_map fun x hx => (h x hx).2⟩
theorem shTup2 {n : Nat} {a b : PD} (ha : ShD n a) (hb : ShD n b) : ShD (n + 1) (.tuple [a, b]) := ⟨by simp [PyData.canLay0, PyData.canLayAll0, ha.1, hb.1], by
  have := ha.2; have := hb.2; simp [PyData.depth, PyData.depthAll]; omega⟩
theorem shTup3 {n : Nat} {a b c : PD} (ha : ShD n a) (hb : ShD n b) (hc : ShD n c) : ShD (n + 1) (.tuple [a, b, c]) := ⟨by simp [PyData.canLay0, PyData.canLayAll0, ha.1, hb.1, hc.1], by
  have := ha.2; have := hb.2; have := hc.2; simp [PyData.depth, PyData.depthAll]; omega⟩
theorem shNil (n : Nat) : ShD (n + 1) (.list []) := ⟨by simp [PyData.canLay0, PyData.canLayAll0], by simp [PyData.depth, PyData.depthAll]⟩
theorem shNilT (n : Nat) : ShD (n + 1) (.tuple []) := ⟨by simp [PyData.canLay0, PyData.canLayAll0], by simp [PyData.depth, PyData.depthAll]⟩
theorem shStr (n : Nat) {x : Str} (h : PyData.strOk x = true) : ShD n (.str x) := ⟨by simp [PyData.canLay0, h], by simp [PyData.depth]⟩
theorem sh_ints (ks : List Int) : ShD 1 (dInts ks) := shList (n := 0) fun _ _ => shInt 0 _
theorem sh_term (t : Int × Int) : ShD 1 (dTerm t) := shTup2 (n := 0) (shInt 0 _) (shInt 0 _)
theorem sh_sum (s : Sm) : ShD 3 (dSum s) := shTup2 (n := 2) (shTup (n := 1) fun t _ => sh_term t) (shInt 2 _)
/-! equality -/
theorem gEq_of {neg : Bool} {d e : PD} {n m : Nat} (hd : ShD n d) (he : ShD m e) (hn : n ≤ 64 := by decide) (hm : m ≤ 64 := by decide) : gEq neg d e = some (.val (.bool (if neg = true then !PyData.eqv d e else PyData.eqv d e))) := by
  unfold gEq
  rw [hd.shaped hn, he.shaped hm]
  rfl
@[simp] theorem gEq_int (neg : Bool) (i j : Int) : gEq neg (.int i) (.int j) = some (.val (.bool (if neg = true then !(i == j) else i == j))) := by
  rw [gEq_of (shInt 0 i) (shInt 0 j)]; simp [PyData.eqv]
@[simp] theorem gEq_bool (neg : Bool) (i j : Bool) : gEq neg (.bool i) (.bool j) = some (.val (.bool (if neg = true then !(i == j) else i == j))) := by
  rw [gEq_of (shBool 0 i) (shBool 0 j)]; simp [PyData.eqv]
theorem eqvAll_map {α β : Type} {f : α → PD} {g : β → PD} {e : α → β → Bool} (h : ∀ x y, PyData.eqv (f x) (g y) = e x y) : ∀ (xs : List α) (ys : List β), PyData.eqvAll (xs.map f) (ys.map g) = ((xs.length == ys.length) && (xs.zip ys).all fun p => e p.1 p.2)
  | [], [] => by simp [PyData.eqvAll]
  | [], _ :: _ => by simp [PyData.eqvAll]
  | _ :: _, [] => by simp [PyData.eqvAll]
  | x :: xs, y :: ys => by
    simp only [List.map_cons, PyData.eqvAll, h, eqvAll_map h xs ys, List.length_cons, List.zip_cons_cons, List.all_cons]
    cases e x y <;> simp
theorem eqvAll_inj {α : Type} [DecidableEq α] {f : α → PD} (h : ∀ x y, PyData.eqv (f x) (f y) = decide (x = y)) : ∀ xs ys : List α, PyData.eqvAll (xs.map f) (ys.map f) = decide (xs = ys)
  | [], [] => by simp [PyData.eqvAll]
  | [], _ :: _ => by simp [PyData.eqvAll]
  | _ :: _, [] => by simp [PyData.eqvAll]
  | x :: xs, y :: ys => by
    simp only [List.map_cons, PyData.eqvAll, h, eqvAll_inj h xs ys]
    by_cases a : x = y <;> by_cases b : xs = ys <;> simp [a, b]
theorem eqv_int (i j : Int) : PyData.eqv (.int i) (.int j) = decide (i = j) := by simp only [PyData.eqv]; by_cases h : i = j <;> simp [h]
theorem eqv_bool (i j : Bool) : PyData.eqv (.bool i) (.bool j) = decide (i = j) := by simp only [PyData.eqv]; cases i <;> cases j <;> rfl
theorem eqv_ints (xs ys : List Int) : PyData.eqv (dInts xs) (dInts ys) = decide (xs = ys) := by simp only [dInts, PyData.eqv]; exact eqvAll_inj eqv_int xs ys
theorem eqv_term (s t : Int × Int) : PyData.eqv (dTerm s) (dTerm t) = decide (s = t) := by
  obtain ⟨a, b⟩ := s
  obtain ⟨c, d⟩ := t
  simp only [dTerm, PyData.eqv, PyData.eqvAll, Prod.mk.injEq]
  by_cases h : a = c <;> by_cases h2 : b = d <;> simp [h, h2]
theorem eqv_nil {ds : List PD} : PyData.eqv (.list ds) (.list []) = ds.isEmpty := by cases ds <;> simp [PyData.eqv, PyData.eqvAll]
/-- xs == [], xs != [] -/
theorem gEq_nil {neg : Bool} {ds : List PD} {n : Nat} (h : ShD n (.list ds)) (hn : n ≤ 64 := by decide) : gEq neg (.list ds) (.list []) = some (.val (.bool (if neg = true then !ds.isEmpty else ds.isEmpty))) := by
  rw [gEq_of h (shNil 0) hn, eqv_nil]
/-! strings -/
theorem gEq_str {neg : Bool} {x y : Str} (hx : PyData.strOk x = true) (hy : PyData.strOk y = true) : gEq neg (.str x) (.str y) = some (.val (.bool (if neg = true then !(x == y) else x == y))) := by
  rw [gEq_of (shStr 0 hx) (shStr 0 hy)]; simp [PyData.eqv]
/-! in -/
@[simp] theorem gIn_kn (neg : Bool) (k : Int) (ks : List Int) : gIn neg (.int k) (dKn ks) = some (.val (.bool (if neg = true then !decide (k ∈ ks) else decide (k ∈ ks)))) := by
  simp only [dKn, gIn, keyD, look_kn]
  by_cases h : k ∈ ks <;> simp [h]
theorem any_eqv_ints (k : Int) (ks : List Int) : ((ks.map PyData.int).any fun z => PyData.eqv z (.int k)) = decide (k ∈ ks) := by
  induction ks with
  | nil => simp
  | cons x xs ih =>
    simp only [List.map_cons, List.any_cons, ih, eqv_int, List.mem_cons]
    by_cases h : x = k
    · simp [h]
    · have h' : ¬ k = x := fun e => h e.symm
      simp [h, h']
@[simp] theorem gIn_ints (neg : Bool) (k : Int) (ks : List Int) : gIn neg (.int k) (dInts ks) = some (.val (.bool (if neg = true then !decide (k ∈ ks) else decide (k ∈ ks)))) := by
  simp only [dInts, gIn]
  rw [(shInt 0 k).shaped, show SeqAt.shaped (.list (ks.map PyData.int)) = true from (sh_ints ks).shaped, any_eqv_ints]
  rfl
/-! the pool -/
section
variable {ρ : Dn}
def lenO (o : Option (Option Sl)) (ρ : Dn) : Rs Rv := match o with | some (some (.scr ns)) => .ok (.val (.int ns.length)) ρ | _ => .no
@[simp] theorem lenO_scr (ns : List Int) : lenO (some (some (.scr ns))) ρ = .ok (.val (.int ns.length)) ρ := nrf rfl
@[simp] theorem eLenScr_ap (i : Nat) : eLenScr i ρ = lenO ρ[i]? ρ := nrf (by unfold eLenScr lenO; rfl)
def slO (hi : Int) (o : Option (Option Sl)) (ρ : Dn) : Rs Rv := match o with | some (some (.scr ns)) => .ok (.fresh (.list (cutD (ns.map .int) none (some hi)))) ρ | _ => .no
@[simp] theorem slO_scr (hi : Int) (ns : List Int) : slO hi (some (some (.scr ns))) ρ = .ok (.fresh (.list (cutD (ns.map .int) none (some hi)))) ρ := nrf rfl
@[simp] theorem eSlScr_ap (i : Nat) (hi : Int) : eSlScr i hi ρ = slO hi ρ[i]? ρ := nrf (by unfold eSlScr slO; rfl)
def scrO (o : Option (Option Sl)) : Bool := match o with | some (some (.scr _)) => true | _ => false
@[simp] theorem scrO_scr (ns : List Int) : scrO (some (some (.scr ns))) = true := nrf rfl
@[simp] theorem isScr_ap (i : Nat) : isScr ρ i = scrO ρ[i]? := nrf (by unfold isScr scrO; rfl)
def ixO (o : Option (Option Sl)) (d : PD) (ρ : Dn) : Rs Rv := match o, d with | some (some (.scr ns)), .int k => optR ((atI ns k).map fun x => Rv.val (.int x)) ρ | _, _ => .no
@[simp] theorem ixO_scr (ns : List Int) (k : Int) : ixO (some (some (.scr ns))) (.int k) ρ = optR ((atI ns k).map fun x => Rv.val (.int x)) ρ := nrf rfl
@[simp] theorem eIxScr_ap (i : Nat) (f : M Rv) : eIxScr' i f ρ = if isScr ρ i = true then (f ρ).thn (fun r ρ => (rdM r ρ).thn fun d ρ => ixO ρ[i]? d ρ) else .no := by
  refine nrf ?_
  unfold eIxScr' eIxScr
  rw [bnd_ap]
  congr 1
  congr 1
  funext r ρ1
  rw [bnd_ap]
  congr 1
  funext d ρ2
  unfold ixO
  cases ρ2[i]? with
  | none => rfl
  | some o => cases o with
    | none => rfl
    | some s => cases s with
      | scr ns => cases d with
        | int k => dsimp only; cases atI ns k <;> rfl
        | _ => rfl
      | _ => rfl
def poolO (o : Option (Option Sl)) (d : PD) (ρ : Dn) : Rs Rv := match o, d with | some (some (.scr ns)), .int k => if ns.length ≤ 63 ∧ 0 ≤ k ∧ k < 64 then .ok (.fresh (poolD ns k)) ρ else .no | _, _ => .no
@[simp] theorem poolO_scr (ns : List Int) (k : Int) : poolO (some (some (.scr ns))) (.int k) ρ = if ns.length ≤ 63 ∧ 0 ≤ k ∧ k < 64 then .ok (.fresh (poolD ns k)) ρ else .no := nrf rfl
@[simp] theorem ePool_ap (i : Nat) (f : M Rv) : ePool i f ρ = if isScr ρ i = true then (f ρ).thn (fun r ρ => (rdM r ρ).thn fun d ρ => poolO ρ[i]? d ρ) else .no := by
  refine nrf ?_
  unfold ePool
  rw [bnd_ap]
  congr 1
end
theorem cut63 (ns : List Int) : cutD (ns.map PyData.int) none (some 63) = (ns.take 63).map PyData.int := by
  unfold cutD
  rw [show (some (63 : Int)) = some ((63 : Nat) : Int) from rfl, HT.sIx_nat, HT.sIx_none]
  simp only [List.drop_zero, Nat.sub_zero, List.length_map, List.map_take]
  rcases Nat.le_total 63 ns.length with h | h
  · rw [Nat.min_eq_left h]
  · rw [Nat.min_eq_right h, List.take_of_length_le (by simp), List.take_of_length_le (by simp; omega)]
@[simp] theorem intsOf_take (n : Nat) (ns : List Int) : intsOf (List.take n (ns.map PyData.int)) = some (ns.take n) := by rw [← List.map_take, intsOf_ints]
def PoolOk (p : PD) : Prop := ∃ g x : Int, p = dInts [g, x] ∧ 0 ≤ g ∧ 0 ≤ x ∧ x < 2147483647
theorem poolOk_of {ns : List Int} {k : Int} : PoolOk (poolD ns k) := by
  refine ⟨_, _, rfl, ?_, ?_, ?_⟩
  · unfold poolOf
    dsimp only
    refine Int.mul_nonneg ?_ ?_
    · split <;> omega
    · split <;> omega
  · unfold poolOf
    exact Int.emod_nonneg _ (by decide)
  · unfold poolOf
    exact Int.lt_trans (Int.emod_lt_of_pos _ (by decide)) (by decide)
@[simp] theorem atI_two0 {α : Type} (a b : α) : atI [a, b] 0 = some a := nrf rfl
@[simp] theorem atI_two1 {α : Type} (a b : α) : atI [a, b] 1 = some b := nrf rfl
/-- sums of the pool's lists are read -/
theorem atI_some {α : Type} {xs : List α} {i : Int} (h0 : 0 ≤ i) (h : i < xs.length) : ∃ x, atI xs i = some x ∧ x ∈ xs ∧ xs[i.toNat]? = some x := by
  have hl : i.toNat < xs.length := by omega
  refine ⟨xs[i.toNat], ?_, List.getElem_mem hl, List.getElem?_eq_getElem hl⟩
  unfold atI ixN
  simp [h0, h, List.getElem?_eq_getElem hl]
end DP
/-! PLE: fillings. -/
namespace DP
open PySem L2
def dFill (f : List Bool) : PD := .tuple (f.map .bool)
def fillL : Nat → List (List Bool)
  | 0 => [[]]
  | n + 1 => (fillL n).map (· ++ [false]) ++ (fillL n).map (· ++ [true])
theorem fillL_len : ∀ n, (fillL n).length = 2 ^ n
  | 0 => rfl
  | n + 1 => by simp [fillL, fillL_len n, Nat.pow_succ]; omega
theorem mem_fillL : ∀ {n : Nat} {f : List Bool}, f ∈ fillL n ↔ f.length = n
  | 0, f => by simp [fillL]
  | n + 1, f => by
    simp only [fillL, List.mem_append, List.mem_map, mem_fillL (n := n)]
    constructor
    · rintro (⟨g, h, rfl⟩ | ⟨g, h, rfl⟩) <;> simp [h]
    · intro h
      have e : f ≠ [] := by intro e; simp [e] at h
      have e2 := List.dropLast_concat_getLast e
      have hl : f.dropLast.length = n := by simp [h]
      cases hb : f.getLast e with
      | false => rw [hb] at e2; exact .inl ⟨_, hl, e2⟩
      | true => rw [hb] at e2; exact .inr ⟨_, hl, e2⟩
theorem fillL_nodup : ∀ n, (fillL n).Nodup
  | 0 => by simp [fillL]
  | n + 1 => by
    rw [fillL, List.nodup_append]
    refine ⟨?_, ?_, ?_⟩
    · exact List.Pairwise.map _ (fun a b h e => h (List.append_cancel_right e)) (fillL_nodup n)
    · exact List.Pairwise.map _ (fun a b h e => h (List.append_cancel_right e)) (fillL_nodup n)
    · intro a ha b hb e
      obtain ⟨x, _, rfl⟩ := List.mem_map.mp ha
      obtain ⟨y, _, rfl⟩ := List.mem_map.mp hb
      have := congrArg List.getLast? e
      simp at this
theorem alikeAll_bool : ∀ a b : List Bool, PySem.W.alikeAll (a.map PyData.bool) (b.map PyData.bool) = true
  | [], _ => by simp [PySem.W.alikeAll]
  | _ :: _, [] => by simp [PySem.W.alikeAll]
  | x :: a, y :: b => by simp [PySem.W.alikeAll, PySem.W.alike, alikeAll_bool a b]
theorem alike_fill (a b : List Bool) : PySem.W.alike (dFill a) (dFill b) = true := by simp [dFill, PySem.W.alike, alikeAll_bool]
theorem alikeL_map {α : Type} {f : α → PD} : ∀ {xs : List α}, (∀ x ∈ xs, ∀ y ∈ xs, PySem.W.alike (f x) (f y) = true) → alikeL (xs.map f) = true
  | [], _ => rfl
  | x :: xs, h => by
    simp only [List.map_cons, alikeL, Bool.and_eq_true, List.all_eq_true, List.mem_map, forall_exists_index, and_imp, forall_apply_eq_imp_iff₂]
    exact ⟨fun y hy => h x (List.mem_cons_self ..) y (List.mem_cons_of_mem _ hy), alikeL_map fun y hy z hz => h y (List.mem_cons_of_mem _ hy) z (List.mem_cons_of_mem _ hz)⟩
theorem sortOk_map {α : Type} {f : α → PD} {xs : List α} {n : Nat} (h : ∀ x ∈ xs, ∀ y ∈ xs, PySem.W.alike (f x) (f y) = true) (ht : (∀ x ∈ xs, tupX (f x) = true) ∨ ∀ x ∈ xs, notTN (f x) = true) (hs : ∀ x ∈ xs, ShD n (f x)) (hn : n ≤ 60 := by decide) : sortOk (xs.map f) = true := by
  unfold sortOk
  rw [alikeL_map h]
  have h2 : selfL (xs.map f) = true := by
    simp only [selfL, List.all_eq_true, List.mem_map, forall_exists_index, and_imp, forall_apply_eq_imp_iff₂]
    exact fun x hx => h x hx x hx
  have h3 : ((xs.map f).all tupX || (xs.map f).all notTN) = true := by
    rw [Bool.or_eq_true]
    rcases ht with z | z
    · exact .inl (by simp only [List.all_eq_true, List.mem_map, forall_exists_index, and_imp, forall_apply_eq_imp_iff₂]; exact z)
    · exact .inr (by simp only [List.all_eq_true, List.mem_map, forall_exists_index, and_imp, forall_apply_eq_imp_iff₂]; exact z)
  rw [h2, h3]
  simp only [Bool.and_true, Bool.true_and, List.all_eq_true, List.mem_map, forall_exists_index, and_imp, forall_apply_eq_imp_iff₂, Bool.and_eq_true, decide_eq_true_eq]
  intro x hx
  have := hs x hx
  exact ⟨this.1, by have := this.2; omega⟩
theorem sh_fill (f : List Bool) : ShD 1 (dFill f) := shTup (n := 0) fun _ _ => shBool 0 _
/-- sorted(xs), the data of one kind -/
theorem gSorted_map {α : Type} {f : α → PD} {xs : List α} (h : sortOk (xs.map f) = true) : ∃ ys : List α, gSorted [.list (xs.map f)] = some (.fresh (.list (ys.map f))) ∧ ys = xs.mergeSort (fun a b => leD (f a) (f b)) ∧ ys.Perm xs := by
  refine ⟨xs.mergeSort (fun a b => leD (f a) (f b)), ?_, rfl, List.mergeSort_perm _ _⟩
  simp only [gSorted, h, if_true]
  rw [List.map_mergeSort (s := leD) (fun a _ b _ => rfl)]
@[simp] theorem gAdd_list (xs ys : List PD) : gAdd (.list xs) (.list ys) = if smallL (xs.length + ys.length) = true then some (.fresh (.list (xs ++ ys))) else none := nrf rfl
@[simp] theorem gAdd_tuple (xs ys : List PD) : gAdd (.tuple xs) (.tuple ys) = if smallL (xs.length + ys.length) = true then some (.val (.tuple (xs ++ ys))) else none := nrf rfl
/-- so -/
def isSo (m : Int) (f : List Bool) : Bool := f.getD (m.natAbs - 1) false == decide (0 < m)
def okM (n : Nat) (m : Int) : Prop := 1 ≤ m.natAbs ∧ m.natAbs ≤ n
theorem isSo_neg {n : Nat} {m : Int} {f : List Bool} (h : okM n m) (hf : f.length = n) : isSo (-m) f = !isSo m f := by
  unfold isSo
  rw [Int.natAbs_neg]
  have h1 := h.1
  have e : decide (0 < -m) = !decide (0 < m) := by by_cases z : 0 < m <;> simp [z] <;> omega
  rw [e]
  cases f.getD (m.natAbs - 1) false <;> cases decide (0 < m) <;> rfl
def weightL (s : Sm) (f : List Bool) : Int := ((s.1.filter fun t => isSo t.2 f).map (·.1)).sum
def heldL (s : Sm) (f : List Bool) : Bool := decide (s.2 ≤ weightL s f)
/-- a sum of the pool: its factors are positive, its marks good -/
structure SumOk (n : Nat) (s : Sm) : Prop where
  pos : ∀ t ∈ s.1, 0 < t.1
  ok : ∀ t ∈ s.1, okM n t.2
  len : s.1.length ≤ n
end DP
namespace DP
theorem filter_not_isEmpty {α : Type} (p : α → Bool) : ∀ xs : List α, (xs.filter fun m => !p m).isEmpty = xs.all p
  | [] => rfl
  | x :: xs => by
    simp only [List.filter_cons, List.all_cons]
    cases h : p x with
    | true => simpa using filter_not_isEmpty p xs
    | false => simp
theorem filter_isEmpty {α : Type} (p : α → Bool) : ∀ xs : List α, (xs.filter p).isEmpty = xs.all fun x => !p x
  | [] => rfl
  | x :: xs => by
    simp only [List.filter_cons, List.all_cons]
    cases h : p x with
    | false => simpa using filter_isEmpty p xs
    | true => simp
theorem isEmpty_map {α β : Type} (f : α → β) (xs : List α) : (xs.map f).isEmpty = xs.isEmpty := by cases xs <;> rfl
end DP
namespace DP
open PySem L2
/-- a comprehension whose items change the frame -/
theorem eComp_inv {it : M (List PD)} {g : PD → Dn → Option Dn} {vs : List Nat} {cond : M Bool} {elt : M Rv} {ρ ρ1 : Dn} {α β : Type} {enc : α → PD} {e2 : β → PD} {xs : List α} (I : Dn → Prop) (R : β → Prop)
    (hi : it ρ = .ok (xs.map enc) ρ1) (hw : okW ρ1 vs = true) (hz : xs.length ≤ 10000000) (h0 : I (wipeD ρ1 vs))
    (h : ∀ x ρ', x ∈ xs → I ρ' → ∃ ρ2 ρ3 ρ4 y, g (enc x) ρ' = some ρ2 ∧ cond ρ2 = .ok true ρ3 ∧ bnd elt frz ρ3 = .ok (e2 y) ρ4 ∧ R y ∧ I (wipeD ρ4 vs)) :
    ∃ (ys : List β) (ρ' : Dn), eComp it g vs cond elt ρ = .ok (.fresh (.list (ys.map e2))) (backD ρ1 ρ' vs) ∧ I ρ' ∧ (∀ y ∈ ys, R y) ∧ ys.length = xs.length := by
  have key : ∀ (zs : List α) (acc : List PD) (ρ' : Dn), (∀ z ∈ zs, z ∈ xs) → acc.length + zs.length ≤ 10000000 → I ρ' → ∃ (ys : List β) (ρ'' : Dn), compL g vs cond (bnd elt frz) (zs.map enc) acc ρ' = .ok (acc ++ ys.map e2) ρ'' ∧ I ρ'' ∧ (∀ y ∈ ys, R y) ∧ ys.length = zs.length := by
    intro zs
    induction zs with
    | nil => intro acc ρ' _ _ hI; exact ⟨[], ρ', by simp [compL], hI, by simp, rfl⟩
    | cons z zs ih =>
      intro acc ρ' hm hl hI
      simp only [List.length_cons] at hl
      obtain ⟨ρ2, ρ3, ρ4, y, e1, e3, e4, hR, hI4⟩ := h z ρ' (hm z (List.mem_cons_self ..)) hI
      have hs : smallL acc.length = true := by simp [smallL]; omega
      obtain ⟨ys, ρ'', e5, hI5, hR5, hl5⟩ := ih (acc ++ [e2 y]) (wipeD ρ4 vs) (fun x hx => hm x (List.mem_cons_of_mem _ hx)) (by simp; omega) hI4
      refine ⟨y :: ys, ρ'', ?_, hI5, fun x hx => ?_, by simp [hl5]⟩
      · simp only [List.map_cons, compL, e1, e3, e4, hs, if_true]
        rw [e5]
        simp
      · rcases List.mem_cons.mp hx with e | hx
        · rw [e]; exact hR
        · exact hR5 x hx
  obtain ⟨ys, ρ', e, hI, hR, hl⟩ := key xs [] (wipeD ρ1 vs) (fun _ h => h) (by simpa using hz) h0
  refine ⟨ys, ρ', ?_, hI, hR, hl⟩
  unfold eComp
  rw [bnd_ap, hi]
  simp only [hw, if_true, thn_ok]
  rw [e]
  simp
@[simp] theorem backD_nil (ρ ρ' : Dn) : backD ρ ρ' [] = ρ' := nrf rfl
@[simp] theorem backD_cons (ρ ρ' : Dn) (v : Nat) (vs : List Nat) : backD ρ ρ' (v :: vs) = (backD ρ ρ' vs).set v (ρ[v]?.join) := nrf rfl
end DP
namespace DP
open PySem L2
theorem eComp_invP {P : Rs Rv → Prop} {it : M (List PD)} {g : PD → Dn → Option Dn} {vs : List Nat} {cond : M Bool} {elt : M Rv} {ρ ρ1 : Dn} {α β : Type} {enc : α → PD} {e2 : β → PD} {xs : List α} (I : Dn → Prop) (R : β → Prop)
    (hi : it ρ = .ok (xs.map enc) ρ1) (hw : okW ρ1 vs = true) (hz : xs.length ≤ 10000000) (h0 : I (wipeD ρ1 vs))
    (h : ∀ x ρ', x ∈ xs → I ρ' → ∃ ρ2 ρ3 ρ4 y, g (enc x) ρ' = some ρ2 ∧ cond ρ2 = .ok true ρ3 ∧ bnd elt frz ρ3 = .ok (e2 y) ρ4 ∧ R y ∧ I (wipeD ρ4 vs))
    (k : ∀ (ys : List β) (ρ' : Dn), I ρ' → (∀ y ∈ ys, R y) → ys.length = xs.length → P (.ok (.fresh (.list (ys.map e2))) (backD ρ1 ρ' vs))) : P (eComp it g vs cond elt ρ) := by
  obtain ⟨ys, ρ', e, hI, hR, hl⟩ := eComp_inv I R hi hw hz h0 h
  rw [e]
  exact k ys ρ' hI hR hl
end DP
/-! PLF: dicts, sorted ints, sums under marks. -/
namespace DP
open PySem L2
theorem nodup_len {α : Type} [DecidableEq α] : ∀ {xs ys : List α}, xs.Nodup → (∀ x ∈ xs, x ∈ ys) → xs.length ≤ ys.length
  | [], _, _, _ => Nat.zero_le _
  | x :: xs, ys, h, hs => by
    have hx := hs x (List.mem_cons_self ..)
    rw [List.nodup_cons] at h
    have := nodup_len (ys := ys.erase x) h.2 fun y hy => by
      have hne : y ≠ x := fun e => by subst e; exact h.1 hy
      exact (List.mem_erase_of_ne hne).mpr (hs y (List.mem_cons_of_mem _ hy))
    rw [List.length_erase_of_mem hx] at this
    have hp : 0 < ys.length := List.length_pos_of_mem hx
    simp only [List.length_cons]
    omega
theorem okM_len {n : Nat} {K : List Int} (h : K.Nodup) (hk : ∀ k ∈ K, okM n k) : K.length ≤ 2 * n := by
  have := nodup_len (ys := (List.range n).map (fun i : Nat => (1 : Int) + (i : Int)) ++ (List.range n).map (fun i : Nat => -((1 : Int) + (i : Int)))) h fun k hk' => by
    obtain ⟨h1, h2⟩ := hk k hk'
    rw [List.mem_append, List.mem_map, List.mem_map]
    by_cases h0 : 0 < k
    · exact .inl ⟨k.natAbs - 1, by rw [List.mem_range]; omega, by omega⟩
    · exact .inr ⟨k.natAbs - 1, by rw [List.mem_range]; omega, by omega⟩
  simp at this
  omega
def addK (K : List Int) (m : Int) : List Int := if m ∈ K then K else K ++ [m]
theorem mem_addK {K : List Int} {m x : Int} : x ∈ addK K m ↔ x ∈ K ∨ x = m := by
  unfold addK
  split
  · exact ⟨.inl, fun h => h.elim id fun e => e ▸ by assumption⟩
  · simp
theorem nodup_addK {K : List Int} {m : Int} (h : K.Nodup) : (addK K m).Nodup := by
  unfold addK
  split
  · exact h
  · rename_i hm
    rw [List.nodup_append]
    exact ⟨h, by simp, fun a ha b hb e => by simp at hb; subst hb; subst e; exact hm ha⟩
theorem addK_len (K : List Int) (m : Int) : K.length ≤ (addK K m).length := by unfold addK; split <;> simp
theorem mem_addsK {x : Int} : ∀ {ms K : List Int}, x ∈ ms.foldl addK K ↔ x ∈ K ∨ x ∈ ms
  | [], K => by simp
  | m :: ms, K => by rw [List.foldl_cons, mem_addsK, mem_addK, List.mem_cons, or_assoc]
theorem nodup_addsK : ∀ {ms K : List Int}, K.Nodup → (ms.foldl addK K).Nodup
  | [], _, h => h
  | m :: ms, K, h => by rw [List.foldl_cons]; exact nodup_addsK (nodup_addK h)
theorem addsK_len : ∀ (ms K : List Int), K.length ≤ (ms.foldl addK K).length
  | [], _ => Nat.le_refl _
  | m :: ms, K => Nat.le_trans (addK_len K m) (addsK_len ms _)
theorem putD_kn (K : List Int) (m : Int) : putD (.inl m) (.bool true) (K.map fun k => ((.int k, .bool true) : PD × PD)) = (addK K m).map fun k => ((.int k, .bool true) : PD × PD) := by
  have ha : ∀ K : List Int, ((K.map fun k => ((.int k, .bool true) : PD × PD)).any fun p => keyIsD (.inl m) p.1) = decide (m ∈ K) := by
    intro K
    induction K with
    | nil => simp
    | cons x xs ih =>
      rw [List.map_cons, List.any_cons, ih]
      by_cases h : x = m
      · simp [h, keyIsD]
      · have h' : ¬ m = x := fun e => h e.symm
        simp [h, h', keyIsD]
  unfold putD addK
  rw [ha]
  by_cases h : m ∈ K
  · simp only [h, decide_true, if_true, List.map_map]
    apply List.map_congr_left
    intro k hk
    simp only [Function.comp]
    split <;> rfl
  · simp [h, kD]
@[simp] theorem setIx_kn (K : List Int) (m : Int) : setIx (dKn K) (.int m) (.bool true) = if smallL K.length = true then some (dKn (addK K m)) else none := by
  refine nrf ?_
  simp only [dKn, setIx, keyD, List.length_map]
  rw [putD_kn]
theorem keysOf_kn : ∀ K : List Int, keysOf (K.map fun k => ((.int k, .bool true) : PD × PD)) = some K
  | [] => rfl
  | k :: K => by simp [keysOf, keysOf_kn K]
theorem gSorted_kn {K : List Int} (h : K.length < 64) : gSorted [dKn K] = some (.fresh (dInts (K.mergeSort leI))) := by
  simp only [dKn, gSorted, keysOf_kn, h, if_true, dInts]
/-- {k: True for k in ks} -/
theorem eDComp_kn {it : M (List PD)} {v : Nat} {ρ ρ1 : Dn} {ks : List Int} (hi : it ρ = .ok (ks.map .int) ρ1) (hv : v < ρ1.length) (hw : immOO ρ1[v]? = true) (hz : ks.length ≤ 10000000) :
    eDComp it (gNm v) [v] (retM true) (eVar v) (eC (.bool true)) ρ = .ok (.fresh (dKn (ks.foldl addK []))) ρ1 := by
  have hw' : okW ρ1 [v] = true := by simp [hw]
  have hg : (wipeD ρ1 [v])[v]? = some none := by simp [hv]
  have key : ∀ (ys K : List Int), K.length + ys.length ≤ 10000000 → dcompL (gNm v) [v] (retM true) (eVar v) (bnd (eC (.bool true)) frz) (ys.map .int) (K.map fun k => ((.int k, .bool true) : PD × PD)) (wipeD ρ1 [v]) = .ok ((ys.foldl addK K).map fun k => ((.int k, .bool true) : PD × PD)) (wipeD ρ1 [v]) := by
    intro ys
    induction ys with
    | nil => intro K _; rfl
    | cons y ys ih =>
      intro K hl
      simp only [List.length_cons] at hl
      have hs : smallL (K.map fun k => ((.int k, .bool true) : PD × PD)).length = true := by simp; omega
      have e1 : gNm v (.int y) (wipeD ρ1 [v]) = some ((wipeD ρ1 [v]).set v (some (.imm (.int y)))) := by
        simp [hv]
      have e2 : eVar v ((wipeD ρ1 [v]).set v (some (.imm (.int y)))) = .ok (.val (.int y)) ((wipeD ρ1 [v]).set v (some (.imm (.int y)))) := by
        simp [hv]
      have e3 : wipeD ((wipeD ρ1 [v]).set v (some (.imm (.int y)))) [v] = wipeD ρ1 [v] := by simp
      simp only [List.map_cons, dcompL, e1, retM_ap, e2, bnd_ap, eC_ap, thn_ok, frz_val, rd_val, keyD, hs, if_true, e3, putD_kn]
      have hl2 : (addK K y).length ≤ K.length + 1 := by unfold addK; split <;> simp
      exact ih (addK K y) (by omega)
  unfold eDComp
  rw [bnd_ap, hi]
  simp only [hw', if_true, thn_ok]
  have := key ks [] (by simpa using hz)
  simp only [List.map_nil] at this
  rw [this]
  simp only [back_wipe hw', dKn]
/-! sorted ints -/
theorem leI_total (a b : Int) : (leI a b || leI b a) = true := by simp [leI]; omega
theorem leI_trans (a b c : Int) (h : leI a b = true) (h2 : leI b c = true) : leI a c = true := by simp [leI] at *; omega
/-- strictly rising -/
def Rise (ks : List Int) : Prop := ks.Pairwise (· < ·)
theorem rise_sort {K : List Int} (h : K.Nodup) : Rise (K.mergeSort leI) := by
  have h1 : (K.mergeSort leI).Pairwise (fun a b => leI a b = true) := List.pairwise_mergeSort leI_trans leI_total K
  have h2 : (K.mergeSort leI).Nodup := (List.mergeSort_perm K leI).nodup_iff.mpr h
  refine (h1.and h2).imp fun {a b} ⟨h3, h4⟩ => ?_
  simp only [leI, decide_eq_true_eq] at h3
  omega
theorem rise_ext : ∀ {xs ys : List Int}, Rise xs → Rise ys → (∀ x, x ∈ xs ↔ x ∈ ys) → xs = ys
  | [], [], _, _, _ => rfl
  | [], y :: ys, _, _, h => by have := (h y).mpr (List.mem_cons_self ..); cases this
  | x :: xs, [], _, _, h => by have := (h x).mp (List.mem_cons_self ..); cases this
  | x :: xs, y :: ys, hx, hy, h => by
    unfold Rise at hx hy
    rw [List.pairwise_cons] at hx hy
    have e : x = y := by
      have h1 := (h x).mp (List.mem_cons_self ..)
      have h2 := (h y).mpr (List.mem_cons_self ..)
      rw [List.mem_cons] at h1 h2
      rcases h1 with h1 | h1
      · exact h1
      · rcases h2 with h2 | h2
        · exact h2.symm
        · have a := hx.1 _ h2
          have b := hy.1 _ h1
          omega
    subst e
    congr 1
    refine rise_ext hx.2 hy.2 fun z => ?_
    have hz := h z
    rw [List.mem_cons, List.mem_cons] at hz
    constructor
    · intro hm
      rcases hz.mp (.inr hm) with e | hm'
      · subst e; have := hx.1 _ hm; omega
      · exact hm'
    · intro hm
      rcases hz.mpr (.inr hm) with e | hm'
      · subst e; have := hy.1 _ hm; omega
      · exact hm'
/-! sums of factors -/
theorem sum_filter_le {ts : List (Int × Int)} (hp : ∀ t ∈ ts, 0 < t.1) {p q : Int × Int → Bool} (h : ∀ t ∈ ts, p t = true → q t = true) : ((ts.filter p).map (·.1)).sum ≤ ((ts.filter q).map (·.1)).sum := by
  induction ts with
  | nil => simp
  | cons t ts ih =>
    have i := ih (fun s hs => hp s (List.mem_cons_of_mem _ hs)) fun s hs => h s (List.mem_cons_of_mem _ hs)
    have h0 := hp t (List.mem_cons_self ..)
    have h1 := h t (List.mem_cons_self ..)
    simp only [List.filter_cons]
    cases ep : p t <;> cases eq : q t <;> simp
    · exact i
    · omega
    · simp [ep, eq] at h1
    · omega
theorem sum_filter_lt {ts : List (Int × Int)} (hp : ∀ t ∈ ts, 0 < t.1) {p q : Int × Int → Bool} (h : ∀ t ∈ ts, p t = true → q t = true) {u : Int × Int} (hu : u ∈ ts) (hpu : p u = false) (hqu : q u = true) : ((ts.filter p).map (·.1)).sum + u.1 ≤ ((ts.filter q).map (·.1)).sum := by
  induction ts with
  | nil => cases hu
  | cons t ts ih =>
    have hp' : ∀ t ∈ ts, 0 < t.1 := fun s hs => hp s (List.mem_cons_of_mem _ hs)
    have h' : ∀ t ∈ ts, p t = true → q t = true := fun s hs => h s (List.mem_cons_of_mem _ hs)
    have i2 := sum_filter_le hp' h'
    have h0 := hp t (List.mem_cons_self ..)
    have h1 := h t (List.mem_cons_self ..)
    simp only [List.filter_cons]
    rcases List.mem_cons.mp hu with e | hu
    · subst e
      simp [hpu, hqu]
      omega
    · have i := ih hp' h' hu
      cases ep : p t <;> cases eq : q t <;> simp
      · exact i
      · omega
      · simp [ep, eq] at h1
      · omega
end DP
namespace DP
@[simp] theorem ownLO_kn (b : Bool) (K : List Int) : ownLO (some (some (.own b (dKn K)))) = false := nrf rfl
@[simp] theorem ownDO_kn (b : Bool) (K : List Int) : ownDO (some (some (.own b (dKn K)))) = true := nrf rfl
@[simp] theorem clean_dInts (l k : Bool) (ks : List Int) : clean l k (dInts ks) = !l := by simp [dInts]
@[simp] theorem cleanTop_dInts (l k : Bool) (ks : List Int) : cleanTop l k (dInts ks) = true := by simp [dInts]
@[simp] theorem clean_dSum (l k : Bool) (s : Sm) : clean l k (dSum s) = true := by simp [dSum, dTerm, cleanAll_map]
@[simp] theorem itemsOf_dInts (ks : List Int) (ρ : Dn) : itemsOf (dInts ks) ρ = .ok (ks.map .int) ρ := nrf rfl
end DP
namespace LW
open PySem L2 DP
theorem pool_run (ns : List Int) (k : Int) (hn : ns.length ≤ 63) (h0 : 0 ≤ k) (h1 : k < 64) : ∃ ρ', b__law_pool (some (.scr ns) :: some (.imm (.int k)) :: List.replicate (N__law_pool.length - 2) none) = .rt (.fresh (poolD ns k)) ρ' := by
  have hk : -18446744073709551616 < k ∧ k < 18446744073709551616 := by omega
  have hc : ∃ x : Int, (if k < (ns.length : Int) then (atI ns k).getD 0 else 11 * (ns.take 63).sum + k) = x ∧ (k < (ns.length : Int) → atI ns k = some x) ∧ (¬ k < (ns.length : Int) → 11 * (ns.take 63).sum + k = x) := by
    by_cases h : k < (ns.length : Int)
    · obtain ⟨x, e, _⟩ := atI_some h0 h
      exact ⟨x, by simp [h, e], fun _ => e, fun z => absurd h z⟩
    · exact ⟨_, rfl, fun z => absurd z h, fun _ => by simp [h]⟩
  obtain ⟨x, ex, e1, e2⟩ := hc
  unfold poolD poolOf
  dsimp only
  rw [ex]
  generalize hg : (if x < 0 then -x else x) = g
  have hm : 0 ≤ g % 2147483629 ∧ g % 2147483629 < 2147483629 := ⟨Int.emod_nonneg _ (by decide), Int.emod_lt_of_pos _ (by decide)⟩
  generalize hmx : (g % 2147483629 + 7919 * k * k + 31 * k + 17) * 48271 % 2147483647 = m
  have hmm : -18446744073709551616 < m ∧ m < 18446744073709551616 := by
    have := Int.emod_nonneg ((g % 2147483629 + 7919 * k * k + 31 * k + 17) * 48271) (show (2147483647 : Int) ≠ 0 by decide)
    have := Int.emod_lt_of_pos ((g % 2147483629 + 7919 * k * k + 31 * k + 17) * 48271) (show (0 : Int) < 2147483647 by decide)
    omega
  have hi : -18446744073709551616 < (if 1000000000000000000 ≤ g then (1 : Int) else 0) ∧ (if 1000000000000000000 ≤ g then (1 : Int) else 0) < 18446744073709551616 := by split <;> decide
  by_cases h : k < (ns.length : Int)
  · rw [b__law_pool]; simp [cut63, gMul_l, gMul_r, gMod_ap, gPow_ap, h, e1 h, hg, hmx, hmm, hk, hi]
  · rw [b__law_pool]; simp [cut63, gMul_l, gMul_r, gMod_ap, gPow_ap, h, e2 h, hg, hmx, hmm, hk, hi]
theorem take_run {p : PD} (hp : PoolOk p) (n : Int) (h0 : 0 < n) (h1 : n ≤ 1000000000) : ∃ (r : Int) (p' : PD), m__law_take [p, .int n] = .ok (.val (.int r)) [p'] ∧ PoolOk p' ∧ 0 ≤ r ∧ r < n := by
  obtain ⟨g, x, rfl, hg, hx, hx2⟩ := hp
  have hn : n < 2 ^ 200 := by omega
  by_cases h : 0 < g
  · refine ⟨g % n, dInts [g / n, x], ?_, ⟨g / n, x, rfl, Int.ediv_nonneg hg (by omega), hx, hx2⟩, Int.emod_nonneg _ (by omega), Int.emod_lt_of_pos _ h0⟩
    rw [me__law_take, b__law_take]; simp [dInts, h, gMod_ap h0, gFdiv_ap h0 hn, ixN]
  · generalize hy : (x * 48271 + 11) % 2147483647 = y
    have hy0 : 0 ≤ y := by rw [← hy]; exact Int.emod_nonneg _ (by decide)
    have hy1 : y < 2147483647 := by rw [← hy]; exact Int.emod_lt_of_pos _ (by decide)
    refine ⟨y * y % 2147483629 / 16 % n, dInts [g, y], ?_, ⟨g, y, rfl, hg, hy0, hy1⟩, Int.emod_nonneg _ (by omega), Int.emod_lt_of_pos _ h0⟩
    have hb : -18446744073709551616 < y ∧ y < 18446744073709551616 := by omega
    rw [me__law_take, b__law_take]; simp [dInts, h, gMod_ap, gMod_ap h0, gFdiv_ap, ixN, gMul_r, gMul_l, hy, hb]
theorem fillings_run (n : Nat) (h0 : 1 ≤ n) (h1 : n ≤ 12) : ∃ fs : List (List Bool), m__law_fillings [.int n] = .ok (.fresh (.list (fs.map dFill))) [] ∧ fs.Perm (fillL n) := by
  have hs : sortOk ((fillL n).map dFill) = true := sortOk_map (n := 1) (fun x _ y _ => alike_fill x y) (.inl fun x hx => by
    have := mem_fillL.mp hx
    cases x with
    | nil => simp at this; omega
    | cons a b => rfl) (fun x _ => sh_fill x)
  obtain ⟨ys, e1, _, hp⟩ := gSorted_map hs
  refine ⟨ys, ?_, hp⟩
  have hi : in62 (n : Int) = true := in62_of (by omega) (by omega)
  have key := forL_inv (g := gNm 2) (body := sSet 1 (eOp2 gAdd (eComp (iSeqM (eVar 1)) (gNm 3) [3] (retM true) (eOp2 gAdd (eVar 3) (eTup (aCons (eC (.bool false)) aNil)))) (eComp (iSeqM (eVar 1)) (gNm 3) [3] (retM true) (eOp2 gAdd (eVar 3) (eTup (aCons (eC (.bool true)) aNil))))))
    (enc := fun i : Nat => PyData.int (0 + (i : Int))) (xs := List.range n) (ρ := [some (.imm (.int n)), some (.own false (.list [.tuple []])), none, none])
    (Q := fun o => ∃ a, freeO a = true ∧ o = .nx [some (.imm (.int n)), some (.own false (.list ((fillL n).map dFill))), a, none])
    (fun ys ρ => ∃ a, freeO a = true ∧ ρ = [some (.imm (.int n)), some (.own false (.list ((fillL ys.length).map dFill))), a, none])
    ⟨none, rfl, rfl⟩ ?_ ?_
  · obtain ⟨a, ha, e⟩ := key
    rw [me__law_fillings, b__law_fillings]; simp [hi, rngL]
    simp at e
    rw [e]
    simp [e1]
  · rintro ys y zs ρ he ⟨a, ha, rfl⟩
    have hl : ys.length ≤ 12 := by
      have := congrArg List.length he
      simp at this
      omega
    have hp := Nat.pow_le_pow_right (show 0 < 2 by decide) hl
    refine ⟨_, by simp [ha]; rfl, ?_⟩
    simp
    rw [eComp_all (xs := fillL ys.length) (enc := dFill) (fun f => dFill (f ++ [false])) ?a ?w ?z ?b]
    case a => simp; rfl
    case w => rfl
    case z => rw [fillL_len]; omega
    case b =>
      intro f hf
      have := mem_fillL.mp hf
      have h9 : ys.length ≤ 9999999 := by omega
      simp [wipeD, dFill, this, h9]
    simp
    rw [eComp_all (xs := fillL ys.length) (enc := dFill) (fun f => dFill (f ++ [true])) ?a ?w ?z ?b]
    case a => simp; rfl
    case w => rfl
    case z => rw [fillL_len]; omega
    case b =>
      intro f hf
      have := mem_fillL.mp hf
      have h9 : ys.length ≤ 9999999 := by omega
      simp [wipeD, dFill, this, h9]
    have hq : 2 ^ ys.length + 2 ^ ys.length ≤ 10000000 := by omega
    simp [fillL_len, hq, fillL, Function.comp_def]
  · rintro ρ ⟨a, ha, rfl⟩
    exact ⟨a, ha, by simp⟩
theorem is_so_run {n : Nat} {m : Int} {f : List Bool} (hm : okM n m) (hf : f.length = n) : m__law_is_so [.int m, dFill f] = .ok (.val (.bool (isSo m f))) [] := by
  rw [me__law_is_so, b__law_is_so]
  obtain ⟨h1, h2⟩ := hm
  have hx : (if m < 0 then -m else m) - 1 = ((m.natAbs - 1 : Nat) : Int) := by split <;> omega
  have hl : m.natAbs - 1 < f.length := by omega
  have he : atI (f.map PyData.bool) ((m.natAbs - 1 : Nat) : Int) = some (.bool (f.getD (m.natAbs - 1) false)) := by
    obtain ⟨x, e1, _, e2⟩ := atI_some (xs := f.map PyData.bool) (i := ((m.natAbs - 1 : Nat) : Int)) (by omega) (by simp; omega)
    rw [e1]
    simp only [Int.toNat_natCast, List.getElem?_map] at e2
    cases e3 : f[m.natAbs - 1]? with
    | none => rw [e3] at e2; cases e2
    | some b => rw [e3] at e2; simp only [Option.map_some, Option.some.injEq] at e2; rw [← e2, List.getD_eq_getElem?_getD, e3]; rfl
  simp [dFill, hx, he, isSo]
theorem weight_run {n : Nat} {s : Sm} {f : List Bool} (hs : SumOk n s) (hn : n ≤ 1000) (hf : f.length = n) : m__law_weight [dSum s, dFill f] = .ok (.val (.int (weightL s f))) [] := by
  rw [me__law_weight, b__law_weight]
  simp [dSum]
  rw [eComp_run (xs := s.1) (enc := dTerm) (fun t => isSo t.2 f) (fun t => .int t.1) ?a ?w ?z ?b]
  case a => simp; rfl
  case w => rfl
  case z => have := hs.len; omega
  case b =>
    intro t ht
    have e := is_so_run (hs.ok t ht) hf
    simp [dTerm, wipeD, e]
  simp [intsOf_map', weightL]
theorem is_held_run {n : Nat} {s : Sm} {f : List Bool} (hs : SumOk n s) (hn : n ≤ 1000) (hf : f.length = n) : m__law_is_held [dSum s, dFill f] = .ok (.val (.bool (heldL s f))) [] := by
  have e := weight_run hs hn hf
  rw [me__law_is_held, b__law_is_held]
  simp [e]
  simp [dSum, heldL]
theorem sum_run {n : Nat} {p : PD} (hp : PoolOk p) (hn : n ≤ 1000) : ∃ (s : Sm) (p' : PD), m__law_sum [p, .int n] = .ok (.val (dSum s)) [p'] ∧ PoolOk p' ∧ SumOk n s := by
  have hi : in62 ((n : Int) + 1) = true := in62_of (by omega) (by omega)
  have hi1 : in62 1 = true := in62_of (by omega) (by omega)
  have key := forL_inv (g := gNm 3) (body := sIf (tBool (eOp2 gGt (eCall [true, false] m__law_take (aCons (eVar 0) (aCons (eC (.int 3)) aNil))) (eC (.int 0)))) (sSeq (sSet 4 (eOp2 gIx (eLst (aCons (eC (.int 1)) (aCons (eC (.int 1)) (aCons (eC (.int 1)) (aCons (eC (.int 2)) (aCons (eC (.int 3)) (aCons (eC (.int 7)) (aCons (eOp2 gPow (eC (.int 10)) (eC (.int 20))) aNil)))))))) (eCall [true, false] m__law_take (aCons (eVar 0) (aCons (eC (.int 7)) aNil)))))
    (sApp 2 (eTup (aCons (eVar 4) (aCons (eOp2 gIx (eLst (aCons (eVar 3) (aCons (eOp2 gSub (eC (.int 0)) (eVar 3)) aNil))) (eCall [true, false] m__law_take (aCons (eVar 0) (aCons (eC (.int 2)) aNil)))) aNil))))) sNil)
    (enc := fun i : Nat => PyData.int (1 + (i : Int))) (xs := List.range n) (ρ := [some (.own true p), some (.imm (.int n)), some (.own false (.list [])), none, none, none, none, none])
    (Q := fun o => ∃ (p' : PD) (ts : List (Int × Int)) (a b : Option Sl), PoolOk p' ∧ (∀ t ∈ ts, (0 : Int) < t.1 ∧ okM n t.2) ∧ ts.length ≤ n ∧ freeO a = true ∧ immO b = true ∧ o = .nx [some (.own true p'), some (.imm (.int n)), some (.own false (.list (ts.map dTerm))), a, b, none, none, none])
    (fun ys ρ => ∃ (p' : PD) (ts : List (Int × Int)) (a b : Option Sl), PoolOk p' ∧ (∀ t ∈ ts, (0 : Int) < t.1 ∧ okM n t.2) ∧ ts.length ≤ ys.length ∧ freeO a = true ∧ immO b = true ∧ ρ = [some (.own true p'), some (.imm (.int n)), some (.own false (.list (ts.map dTerm))), a, b, none, none, none])
    ⟨p, [], none, none, hp, by simp, by simp, rfl, rfl, rfl⟩ ?_ ?_
  · obtain ⟨p', ts, a, b, hp', hts, hl, ha, hb, e⟩ := key
    rw [me__law_sum, b__law_sum]
    simp [hi, hi1, rngL]
    rw [e]
    simp
    rw [eComp_all (xs := ts) (enc := dTerm) (fun t => .int t.1) ?a ?w ?z ?b]
    case a => simp; rfl
    case w => simp [hb]
    case z => omega
    case b => intro t ht; simp [dTerm]
    simp [intsOf_map', gFdiv_ap]
    generalize (ts.map (·.1)).sum = tot
    obtain ⟨r, p'', e2, hp'', hr0, hr1⟩ := take_run hp' 8 (by decide) (by decide)
    obtain ⟨x, e3, hm, _⟩ := atI_some (xs := [PyData.int 1, .int 1, .int 2, .int tot, .int (tot + 1), .int 0, .int (-3), .int (1 + tot / 2)]) hr0 (by simpa using hr1)
    have hx : ∃ i, x = .int i := by
      simp only [List.mem_cons, List.not_mem_nil, or_false] at hm
      rcases hm with h | h | h | h | h | h | h | h <;> exact ⟨_, h⟩
    obtain ⟨i, rfl⟩ := hx
    refine ⟨ts, i, p'', ?_, hp'', ⟨fun t ht => (hts t ht).1, fun t ht => (hts t ht).2, hl⟩⟩
    simp [e2, e3, dSum]
  · rintro ys y zs ρ he ⟨p', ts, a, b, hp', hts, hl, ha, hb, rfl⟩
    have hy : ys.length < n ∧ y = ys.length := by
      have h1 := congrArg List.length he
      have h2 := congrArg (fun l => l[ys.length]?) he
      simp at h1 h2
      exact ⟨by omega, by rw [List.getElem?_range (by omega)] at h2; simpa using h2.symm⟩
    have hbf := immO_free hb
    refine ⟨_, by simp [ha]; rfl, ?_⟩
    obtain ⟨r, p1, e1, hp1, hr0, hr1⟩ := take_run hp' 3 (by decide) (by decide)
    simp [e1]
    by_cases hr : 0 < r
    · obtain ⟨r2, p2, e2, hp2, h20, h21⟩ := take_run hp1 7 (by decide) (by decide)
      obtain ⟨x, e3, hm, _⟩ := atI_some (xs := [PyData.int 1, .int 1, .int 1, .int 2, .int 3, .int 7, .int 100000000000000000000]) h20 (by simpa using h21)
      have hx : ∃ i, x = .int i ∧ 0 < i := by
        simp only [List.mem_cons, List.not_mem_nil, or_false] at hm
        rcases hm with h | h | h | h | h | h | h <;> exact ⟨_, h, by decide⟩
      obtain ⟨i, rfl, hi0⟩ := hx
      obtain ⟨r3, p3, e4, hp3, h30, h31⟩ := take_run hp2 2 (by decide) (by decide)
      obtain ⟨x, e5, hm, _⟩ := atI_some (xs := [PyData.int (1 + (y : Int)), .int (0 - (1 + (y : Int)))]) h30 (by simpa using h31)
      have hx : ∃ m, x = .int m ∧ okM n m := by
        simp only [List.mem_cons, List.not_mem_nil, or_false] at hm
        rcases hm with h | h
        · exact ⟨_, h, by unfold okM; omega⟩
        · exact ⟨_, h, by unfold okM; omega⟩
      obtain ⟨m, rfl, hmk⟩ := hx
      have hs : ts.length ≤ 10000000 := by omega
      simp at e5
      simp [hr, gPow_ap, e2, e3, hbf, e4, e5, hs]
      refine ⟨p3, hp3, ts ++ [(i, m)], ?_, by simp; omega, some (.imm (.int (1 + y))), rfl, some (.imm (.int i)), rfl, by simp [dTerm]⟩
      intro a c ht
      simp at ht
      rcases ht with h | ⟨rfl, rfl⟩
      · exact hts _ h
      · exact ⟨hi0, hmk⟩
    · simp [hr]
      refine ⟨p1, hp1, ts, ?_, by omega, some (.imm (.int (1 + y))), rfl, b, hb, rfl, rfl, rfl, rfl⟩
      intro a c ht
      exact hts _ ht
  · rintro ρ ⟨p', ts, a, b, hp', hts, hl, ha, hb, rfl⟩
    exact ⟨p', ts, a, b, hp', hts, by simpa using hl, ha, hb, rfl⟩
theorem known_run {n : Nat} {p : PD} (hp : PoolOk p) (hn : n ≤ 1000) : ∃ (ms : List Int) (p' : PD), m__law_known [p, .int n] = .ok (.fresh (dInts ms)) [p'] ∧ PoolOk p' ∧ (∀ m ∈ ms, okM n m) ∧ ms.length ≤ n := by
  have hi : in62 ((n : Int) + 1) = true := in62_of (by omega) (by omega)
  have hi1 : in62 1 = true := in62_of (by omega) (by omega)
  have key := forL_inv (g := gNm 3) (body := sIf (tBool (eOp2 (gEq false) (eCall [true, false] m__law_take (aCons (eVar 0) (aCons (eC (.int 4)) aNil))) (eC (.int 0)))) (sApp 2 (eOp2 gIx (eLst (aCons (eVar 3) (aCons (eOp2 gSub (eC (.int 0)) (eVar 3)) aNil))) (eCall [true, false] m__law_take (aCons (eVar 0) (aCons (eC (.int 2)) aNil))))) sNil)
    (enc := fun i : Nat => PyData.int (1 + (i : Int))) (xs := List.range n) (ρ := [some (.own true p), some (.imm (.int n)), some (.own false (.list [])), none])
    (Q := fun o => ∃ (p' : PD) (ms : List Int) (a : Option Sl), PoolOk p' ∧ (∀ m ∈ ms, okM n m) ∧ ms.length ≤ n ∧ o = .nx [some (.own true p'), some (.imm (.int n)), some (.own false (.list (ms.map .int))), a])
    (fun ys ρ => ∃ (p' : PD) (ms : List Int) (a : Option Sl), PoolOk p' ∧ (∀ m ∈ ms, okM n m) ∧ ms.length ≤ ys.length ∧ freeO a = true ∧ ρ = [some (.own true p'), some (.imm (.int n)), some (.own false (.list (ms.map .int))), a])
    ⟨p, [], none, hp, by simp, by simp, rfl, rfl⟩ ?_ ?_
  · obtain ⟨p', ms, a, hp', hms, hl, e⟩ := key
    refine ⟨ms, p', ?_, hp', hms, hl⟩
    rw [me__law_known, b__law_known]
    simp [hi, hi1, rngL]
    rw [e]
    simp [dInts]
  · rintro ys y zs ρ he ⟨p', ms, a, hp', hms, hl, ha, rfl⟩
    have hy : ys.length < n ∧ y = ys.length := by
      have h1 := congrArg List.length he
      have h2 := congrArg (fun l => l[ys.length]?) he
      simp at h1 h2
      exact ⟨by omega, by rw [List.getElem?_range (by omega)] at h2; simpa using h2.symm⟩
    refine ⟨_, by simp [ha]; rfl, ?_⟩
    obtain ⟨r, p1, e1, hp1, hr0, hr1⟩ := take_run hp' 4 (by decide) (by decide)
    simp [e1]
    by_cases hr : r = 0
    · obtain ⟨r3, p3, e4, hp3, h30, h31⟩ := take_run hp1 2 (by decide) (by decide)
      obtain ⟨x, e5, hm, _⟩ := atI_some (xs := [PyData.int (1 + (y : Int)), .int (0 - (1 + (y : Int)))]) h30 (by simpa using h31)
      have hx : ∃ m, x = .int m ∧ okM n m := by
        simp only [List.mem_cons, List.not_mem_nil, or_false] at hm
        rcases hm with h | h
        · exact ⟨_, h, by unfold okM; omega⟩
        · exact ⟨_, h, by unfold okM; omega⟩
      obtain ⟨m, rfl, hmk⟩ := hx
      have hs : ms.length ≤ 10000000 := by omega
      simp at e5
      simp [hr, e4, e5, hs]
      refine ⟨p3, hp3, ms ++ [m], ?_, by simp; omega, some (.imm (.int (1 + y))), rfl, by simp⟩
      intro c ht
      simp at ht
      rcases ht with h | rfl
      · exact hms _ h
      · exact hmk
    · simp [hr]
      exact ⟨p1, hp1, ms, hms, by omega, some (.imm (.int (1 + y))), rfl, rfl, rfl, rfl⟩
  · rintro ρ ⟨p', ms, a, hp', hms, hl, ha, rfl⟩
    exact ⟨p', ms, a, hp', hms, by simpa using hl, rfl⟩
theorem all_so_run {n : Nat} {ms : List Int} {f : List Bool} (hm : ∀ m ∈ ms, okM n m) (hl : ms.length ≤ 10000000) (hf : f.length = n) : m__law_all_so [dInts ms, dFill f] = .ok (.val (.bool (ms.all fun m => isSo m f))) [] := by
  rw [me__law_all_so, b__law_all_so]
  simp
  rw [eComp_run (xs := ms) (enc := PyData.int) (fun m => !isSo m f) PyData.int ?a ?w ?z ?b]
  case a => simp [dInts]; rfl
  case w => rfl
  case z => exact hl
  case b =>
    intro m h
    have e := is_so_run (hm m h) hf
    simp [dInts, e]
  have hs := gEq_nil (neg := false) (sh_ints (ms.filter fun m => !isSo m f))
  rw [isEmpty_map, filter_not_isEmpty] at hs
  simp only [Bool.false_eq_true, if_false] at hs
  simp [hs]
theorem holding_run {n : Nat} {ss : List Sm} {ms : List Int} (h0 : 1 ≤ n) (h1 : n ≤ 12) (hs : ∀ s ∈ ss, SumOk n s) (hl : ss.length ≤ 1000) (hm : ∀ m ∈ ms, okM n m) (hml : ms.length ≤ 1000) :
    ∃ fs : List (List Bool), m__law_holding [.list (ss.map dSum), dInts ms, .int n] = .ok (.fresh (.list (fs.map dFill))) [] ∧ (∀ f, f ∈ fs ↔ (f.length = n ∧ (ms.all fun m => isSo m f) = true ∧ (ss.all fun s => heldL s f) = true)) ∧ fs.length ≤ 4096 := by
  obtain ⟨fs, ef, pf⟩ := fillings_run n h0 h1
  have hfl : ∀ f ∈ fs, f.length = n := fun f hf => mem_fillL.mp (pf.mem_iff.mp hf)
  have hfn : fs.length ≤ 4096 := by
    rw [pf.length_eq, fillL_len]
    exact Nat.pow_le_pow_right (show 0 < 2 by decide) h1
  refine ⟨fs.filter fun f => (ms.all fun m => isSo m f) && (ss.all fun s => heldL s f), ?_, fun f => ?_, Nat.le_trans (List.length_filter_le _ _) hfn⟩
  · have key := forL_inv (g := gNm 4) (body := sIf (tAndM (tBool (eCall [false, false] m__law_all_so (aCons (eVar 1) (aCons (eVar 4) aNil)))) (tBool (eOp2 (gEq false) (eComp (iSeqM (eVar 0)) (gNm 5) [5] (tNotM (tBool (eCall [false, false] m__law_is_held (aCons (eVar 5) (aCons (eVar 4) aNil))))) (eVar 5)) (eLst aNil)))) (sApp 3 (eVar 4)) sNil)
      (enc := dFill) (xs := fs) (ρ := [some (.imm (.list (ss.map dSum))), some (.imm (dInts ms)), some (.imm (.int n)), some (.own false (.list [])), none, none])
      (Q := fun o => ∃ a, o = .nx [some (.imm (.list (ss.map dSum))), some (.imm (dInts ms)), some (.imm (.int n)), some (.own false (.list ((fs.filter fun f => (ms.all fun m => isSo m f) && (ss.all fun s => heldL s f)).map dFill))), a, none])
      (fun ys ρ => ∃ a, freeO a = true ∧ ρ = [some (.imm (.list (ss.map dSum))), some (.imm (dInts ms)), some (.imm (.int n)), some (.own false (.list ((ys.filter fun f => (ms.all fun m => isSo m f) && (ss.all fun s => heldL s f)).map dFill))), a, none])
      ⟨none, rfl, rfl⟩ ?_ ?_
    · obtain ⟨a, e⟩ := key
      rw [me__law_holding, b__law_holding]
      simp [ef]
      rw [e]
      simp
    · rintro ys f zs ρ he ⟨a, ha, rfl⟩
      have hf : f.length = n := hfl f (by rw [he]; simp)
      have hy : ys.length ≤ 4096 := by have := congrArg List.length he; simp at this; omega
      have hyf := List.length_filter_le (fun f => (ms.all fun m => isSo m f) && (ss.all fun s => heldL s f)) ys
      refine ⟨_, by simp [ha]; rfl, ?_⟩
      have e1 := all_so_run hm (by omega) hf
      simp only [sIf_ap, tAnd_ap, tBool_ap, eCall_ap, aCons_ap, eVar_ap, aNil_ap, List.getElem?_cons_zero, List.getElem?_cons_succ, varR_imm, thn_ok, prep_val, prep_nil, prepV_some, callO_some, okBO_nil, if_true, e1, callR_ok]
      by_cases h : (ms.all fun m => isSo m f) = true
      · simp [h]
        rw [eComp_run (xs := ss) (enc := dSum) (fun s => !heldL s f) dSum ?a ?w ?z ?b]
        case a => simp; rfl
        case w => rfl
        case z => omega
        case b =>
          intro s hss
          have e2 := is_held_run (hs s hss) (by omega) hf
          simp [e2]
        have e3 := gEq_nil (neg := false) (shList (n := 3) (f := dSum) (xs := ss.filter fun s => !heldL s f) fun s _ => sh_sum s)
        rw [isEmpty_map, filter_not_isEmpty] at e3
        simp only [Bool.false_eq_true, if_false] at e3
        have hz : (ys.filter fun f => (ms.all fun m => isSo m f) && (ss.all fun s => heldL s f)).length ≤ 10000000 := by omega
        cases h2 : ss.all fun s => heldL s f with
        | true =>
          simp only [h2] at e3
          simp [e3, hz, h, h2]
        | false =>
          simp only [h2] at e3
          simp [e3, hz, h, h2]
      · simp [h, List.filter_append]
    · rintro ρ ⟨a, ha, rfl⟩
      exact ⟨a, rfl⟩
  · simp only [List.mem_filter, Bool.and_eq_true, pf.mem_iff, mem_fillL]
/-! what is pushed -/
def roomL (s : Sm) (K : List Int) : Int := ((s.1.filter fun t => !decide (-t.2 ∈ K)).map (·.1)).sum - s.2
theorem room_run (s : Sm) (K : List Int) (h : s.1.length ≤ 1000) : m_room [dSum s, dKn K] = .ok (.val (.int (roomL s K))) [] := by
  rw [me_room, b_room]
  simp [dSum]
  rw [eComp_run (xs := s.1) (enc := dTerm) (fun t => !decide (-t.2 ∈ K)) (fun t => .int t.1) ?a ?w ?z ?b]
  case a => simp; rfl
  case w => rfl
  case z => omega
  case b =>
    intro t ht
    simp [dTerm]
  simp [intsOf_map', roomL]
def foundL (s : Sm) (K : List Int) : List Int := (s.1.filter fun t => decide (roomL s K < t.1) && (!decide (t.2 ∈ K) && !decide (-t.2 ∈ K))).map (·.2)
theorem pushed_by_run (s : Sm) (K : List Int) (h : s.1.length ≤ 1000) : m_pushed_by [dSum s, dKn K] = .ok (.val (if roomL s K < 0 then .tuple [.list [], .bool true] else .tuple [dInts (foundL s K), .bool false])) [] := by
  have e := room_run s K h
  rw [me_pushed_by, b_pushed_by]
  by_cases hr : roomL s K < 0
  · simp [e, hr]
  · simp [e, hr]
    rw [eComp_run (xs := s.1) (enc := dTerm) (fun t => decide (roomL s K < t.1) && (!decide (t.2 ∈ K) && !decide (-t.2 ∈ K))) (fun t => .int t.2) ?a ?w ?z ?b]
    case a => simp [dSum]; rfl
    case w => rfl
    case z => omega
    case b =>
      intro t ht
      simp [dTerm]
      by_cases h1 : roomL s K < t.1 <;> by_cases h2 : t.2 ∈ K <;> by_cases h3 : -t.2 ∈ K <;> simp [h1, h2, h3]
    simp [foundL, dInts, Function.comp_def]
/-- C: marks that are held; room under C -/
def roomP (s : Sm) (C : Int → Bool) : Int := ((s.1.filter fun t => !C (-t.2)).map (·.1)).sum - s.2
structure Shut (ss : List Sm) (C : Int → Bool) : Prop where
  room : ∀ s ∈ ss, 0 ≤ roomP s C
  push : ∀ s ∈ ss, ∀ t ∈ s.1, roomP s C < t.1 → C t.2 = true ∨ C (-t.2) = true
def OkAt (s : Sm) (K : List Int) : Prop := 0 ≤ roomL s K ∧ foundL s K = []
theorem roomP_mem (s : Sm) (K : List Int) : roomP s (fun m => decide (m ∈ K)) = roomL s K := rfl
theorem shut_of {ss : List Sm} {K : List Int} (h : ∀ s ∈ ss, OkAt s K) : Shut ss (fun m => decide (m ∈ K)) := by
  refine ⟨fun s hs => by rw [roomP_mem]; exact (h s hs).1, fun s hs t ht hr => ?_⟩
  rw [roomP_mem] at hr
  have h2 := (h s hs).2
  unfold foundL at h2
  rw [List.map_eq_nil_iff, List.filter_eq_nil_iff] at h2
  have := h2 t ht
  simp only [hr, decide_true, Bool.true_and, Bool.and_eq_true, Bool.not_eq_true', not_and, Bool.not_eq_false, decide_eq_false_iff_not] at this
  by_cases h3 : t.2 ∈ K
  · exact .inl (by simp [h3])
  · exact .inr (by simpa using this h3)
theorem room_le {n : Nat} {s : Sm} {K : List Int} {C : Int → Bool} (hs : SumOk n s) (h : ∀ k ∈ K, C k = true) : roomP s C ≤ roomL s K := by
  unfold roomP roomL
  have := sum_filter_le (p := fun t : Int × Int => !C (-t.2)) (q := fun t : Int × Int => !decide (-t.2 ∈ K)) hs.pos fun t _ hp => by
    simp only [Bool.not_eq_true', decide_eq_false_iff_not] at hp ⊢
    intro hk
    rw [h _ hk] at hp
    cases hp
  omega
theorem found_in {n : Nat} {ss : List Sm} {s : Sm} {K : List Int} {C : Int → Bool} (hs : SumOk n s) (hss : s ∈ ss) (h : ∀ k ∈ K, C k = true) (S : Shut ss C) : ∀ m ∈ foundL s K, C m = true := by
  intro m hm
  unfold foundL at hm
  rw [List.mem_map] at hm
  obtain ⟨t, ht, rfl⟩ := hm
  rw [List.mem_filter] at ht
  obtain ⟨ht, hc⟩ := ht
  simp only [Bool.and_eq_true, decide_eq_true_eq, Bool.not_eq_true', decide_eq_false_iff_not] at hc
  have h1 := room_le hs h
  rcases S.push s hss t ht (by omega) with h2 | h2
  · exact h2
  · exfalso
    have h3 := sum_filter_lt (p := fun t : Int × Int => !C (-t.2)) (q := fun t : Int × Int => !decide (-t.2 ∈ K)) hs.pos (fun t _ hp => by
      simp only [Bool.not_eq_true', decide_eq_false_iff_not] at hp ⊢
      intro hk
      rw [h _ hk] at hp
      cases hp) ht (by simp [h2]) (by simp [hc.2.2])
    have h4 := S.room s hss
    have h5 := hc.1
    unfold roomP at h4
    unfold roomL at h5
    omega
/-- what is known in the turns -/
structure KnI (n : Nat) (ss : List Sm) (M K : List Int) : Prop where
  nd : K.Nodup
  ok : ∀ k ∈ K, okM n k
  sub : ∀ m ∈ M, m ∈ K
  cl : ∀ C, Shut ss C → (∀ m ∈ M, C m = true) → ∀ k ∈ K, C k = true
theorem KnI.adds {n : Nat} {ss : List Sm} {M K : List Int} {s : Sm} (h : KnI n ss M K) (hs : SumOk n s) (hss : s ∈ ss) : KnI n ss M ((foundL s K).foldl addK K) := by
  refine ⟨nodup_addsK h.nd, fun k hk => ?_, fun m hm => mem_addsK.mpr (.inl (h.sub m hm)), fun C S hM k hk => ?_⟩
  · rcases mem_addsK.mp hk with z | z
    · exact h.ok k z
    · unfold foundL at z
      rw [List.mem_map] at z
      obtain ⟨t, ht, rfl⟩ := z
      exact hs.ok t (List.mem_filter.mp ht).1
  · rcases mem_addsK.mp hk with z | z
    · exact h.cl C S hM k z
    · exact found_in hs hss (h.cl C S hM) S k z
theorem found_new {s : Sm} {K : List Int} {m : Int} {ms : List Int} (h : foundL s K = m :: ms) : K.length < ((foundL s K).foldl addK K).length := by
  have hm : m ∈ foundL s K := by rw [h]; exact List.mem_cons_self ..
  unfold foundL at hm
  rw [List.mem_map] at hm
  obtain ⟨t, ht, e⟩ := hm
  rw [List.mem_filter] at ht
  have hc := ht.2
  simp only [Bool.and_eq_true, decide_eq_true_eq, Bool.not_eq_true', decide_eq_false_iff_not] at hc
  rw [h, List.foldl_cons]
  have h1 : (addK K m).length = K.length + 1 := by
    unfold addK
    rw [if_neg (by rw [← e]; exact hc.2.1)]
    simp
  have := addsK_len ms (addK K m)
  omega
/-- the frame in a pass; behind it -/
def PassI (n : Nat) (ss : List Sm) (M K0 : List Int) (d0 : PD) (ys : List Sm) (ρ : Dn) : Prop := ∃ (K : List Int) (g : Bool) (a b c d : Option Sl), KnI n ss M K ∧ K0.length ≤ K.length ∧ (g = true → K0.length < K.length) ∧ (g = false → ∀ s ∈ ys, OkAt s K) ∧ freeO a = true ∧ freeO b = true ∧ freeO c = true ∧ freeO d = true ∧
  ρ = [some (.imm (.list (ss.map dSum))), some (.imm d0), some (.own false (dKn K)), a, some (.imm (.bool g)), b, c, d]
def PassB (n : Nat) (ss : List Sm) (M : List Int) (o : Ou) : Prop := ∃ ρ' K, o = .rt (.val (.tuple [.str "bursts", dInts (K.mergeSort leI)])) ρ' ∧ KnI n ss M K ∧ ∀ C, Shut ss C → (∀ m ∈ M, C m = true) → False
def PassQ (n : Nat) (ss : List Sm) (M K0 : List Int) (d0 : PD) (o : Ou) : Prop := (∃ ρ', o = .nx ρ' ∧ PassI n ss M K0 d0 ss ρ') ∨ PassB n ss M o
def passB : SM := sSeq (sAsg (eCall [false, false] m_pushed_by (aCons (eVar 5) (aCons (eVar 2) aNil))) (gTupM (gsCons (gNm 6) (gsCons (gNm 7) gsNil))))
      (sSeq (sIf (tBool (eVar 7)) (sRet (eTup (aCons (eC (.str "bursts")) (aCons (eOpN gSorted (aCons (eVar 2) aNil)) aNil)))) sNil)
      (sFor (iSeqM (eVar 6)) (gNm 3) (sAsgG2 (eC (.bool true)) (sPutIx 2 (eVar 3)) (tgOf (gNm 4)))))
/-- the marks that are found join -/
theorem found_run {x0 x1 b c d : Option Sl} : ∀ (ms K : List Int) (g : Bool) (a : Option Sl), freeO a = true → K.length + ms.length ≤ 10000000 → ∃ a', freeO a' = true ∧
    forL (gNm 3) (sAsgG2 (eC (.bool true)) (sPutIx 2 (eVar 3)) (tgOf (gNm 4))) (ms.map .int) [x0, x1, some (.own false (dKn K)), a, some (.imm (.bool g)), b, c, d] = .nx [x0, x1, some (.own false (dKn (ms.foldl addK K))), a', some (.imm (.bool (g || !ms.isEmpty))), b, c, d]
  | [], K, g, a, ha, _ => ⟨a, ha, by simp [forL]⟩
  | m :: ms, K, g, a, ha, hl => by
    have hz : (addK K m).length + ms.length ≤ 10000000 := by
      have : (addK K m).length ≤ K.length + 1 := by unfold addK; split <;> simp
      simp only [List.length_cons] at hl
      omega
    have hK : K.length ≤ 10000000 := by simp only [List.length_cons] at hl; omega
    obtain ⟨a', ha', e⟩ := found_run (x0 := x0) (x1 := x1) (b := b) (c := c) (d := d) ms (addK K m) true (some (.imm (.int m))) rfl hz
    refine ⟨a', ha', ?_⟩
    rw [List.map_cons, forL]
    simp [ha, hK]
    rw [e]
    simp
/-- one pass over the sums -/
theorem pass_run {n : Nat} {ss : List Sm} {M K0 : List Int} {d0 : PD} {a b c d : Option Sl} (hn : n ≤ 12) (hs : ∀ s ∈ ss, SumOk n s) (hK : KnI n ss M K0) (ha : freeO a = true) (hb : freeO b = true) (hc : freeO c = true) (hd : freeO d = true) :
    PassQ n ss M K0 d0 (forL (gNm 5) passB (ss.map dSum) [some (.imm (.list (ss.map dSum))), some (.imm d0), some (.own false (dKn K0)), a, some (.imm (.bool false)), b, c, d]) := by
  refine forL_inv (enc := dSum) (xs := ss) (Q := PassQ n ss M K0 d0) (PassI n ss M K0 d0)
    ⟨K0, false, a, b, c, d, hK, Nat.le_refl _, fun z => Bool.noConfusion z, fun _ s hs => by (cases hs), ha, hb, hc, hd, rfl⟩ ?_ ?_
  · rintro ys s zs ρ he ⟨K, g, a, b, c, d, hK, hl, hg1, hg0, ha, hb, hc, hd, rfl⟩
    have hss : s ∈ ss := by rw [he]; simp
    have hso := hs s hss
    have hKl : K.length < 64 := by have := okM_len hK.nd hK.ok; omega
    have e1 := pushed_by_run s K (by have := hso.len; omega)
    refine ⟨_, by simp [hb]; rfl, ?_⟩
    unfold passB
    by_cases hr : roomL s K < 0
    · simp [e1, hr, hc, hd, gSorted_kn hKl]
      refine .inr ⟨_, K, rfl, hK, fun C S hM => ?_⟩
      have := room_le hso (hK.cl C S hM)
      have := S.room s hss
      omega
    · have hfl : (foundL s K).length ≤ 12 := by
        have := hso.len
        unfold foundL
        rw [List.length_map]
        exact Nat.le_trans (List.length_filter_le _ _) (by omega)
      obtain ⟨a', ha', e2⟩ := found_run (x0 := some (.imm (.list (ss.map dSum)))) (x1 := some (.imm d0)) (b := some (.imm (dSum s))) (c := some (.imm (dInts (foundL s K)))) (d := some (.imm (.bool false))) (foundL s K) K g a ha (by omega)
      simp [e1, hr, hc, hd]
      rw [e2]
      simp
      refine ⟨_, _, a', _, _, _, hK.adds hso hss, Nat.le_trans hl (addsK_len _ _), fun hg => ?_, fun hg => ?_, ha', rfl, rfl, rfl, rfl⟩
      · cases ef : foundL s K with
        | nil =>
          rw [ef] at hg
          simp at hg
          simpa using hg1 hg
        | cons m ms =>
          have := found_new ef
          rw [ef] at this
          omega
      · have hfe : foundL s K = [] := by
          cases ef : foundL s K with
          | nil => rfl
          | cons m ms => rw [ef] at hg; simp at hg
        rw [hfe]
        have hgf : g = false := by cases g with
          | false => rfl
          | true => simp at hg
        intro s' hs'
        rw [List.mem_append, List.mem_singleton] at hs'
        rcases hs' with h | rfl
        · exact hg0 hgf s' h
        · show OkAt s' K
          exact ⟨by omega, hfe⟩
  · rintro ρ h
    exact .inl ⟨ρ, rfl, h⟩
def TurnQ (n : Nat) (ss : List Sm) (M : List Int) (d0 : PD) (o : Ou) : Prop := (∃ (K : List Int) (a b c d : Option Sl), o = .nx [some (.imm (.list (ss.map dSum))), some (.imm d0), some (.own false (dKn K)), a, some (.imm (.bool false)), b, c, d] ∧ KnI n ss M K ∧ ∀ s ∈ ss, OkAt s K) ∨ PassB n ss M o
/-- the turns -/
theorem turns_run {n : Nat} {ss : List Sm} {M : List Int} {d0 : PD} (hn : n ≤ 12) (hs : ∀ s ∈ ss, SumOk n s) : ∀ (fuel : Nat) (K : List Int) (g : Bool) (a b c d : Option Sl), KnI n ss M K → (g = true → 2 * n + 2 ≤ fuel + K.length) → (g = false → 1 ≤ fuel ∧ ∀ s ∈ ss, OkAt s K) → freeO a = true → freeO b = true → freeO c = true → freeO d = true →
    TurnQ n ss M d0 (whL (tBool (eVar 4)) (sSeq (sSet 4 (eC (.bool false))) (sFor (iSeqM (eVar 0)) (gNm 5) passB)) fuel [some (.imm (.list (ss.map dSum))), some (.imm d0), some (.own false (dKn K)), a, some (.imm (.bool g)), b, c, d])
  | 0, K, g, a, b, c, d, hK, h1, h0, ha, hb, hc, hd => by
    cases g with
    | false => have := (h0 rfl).1; omega
    | true =>
      have := h1 rfl
      have := okM_len hK.nd hK.ok
      omega
  | fuel + 1, K, false, a, b, c, d, hK, h1, h0, ha, hb, hc, hd => by
    refine .inl ⟨K, a, b, c, d, ?_, hK, (h0 rfl).2⟩
    rw [whL]
    simp
  | fuel + 1, K, true, a, b, c, d, hK, h1, h0, ha, hb, hc, hd => by
    have hp := pass_run (d0 := d0) hn hs hK ha hb hc hd
    have hk := okM_len hK.nd hK.ok
    have hf := h1 rfl
    rcases hp with ⟨ρ', e, K', g', a', b', c', d', hK', hl, hg1, hg0, ha', hb', hc', hd', rfl⟩ | ⟨ρ', K', e, h⟩
    · have ih := turns_run (d0 := d0) hn hs fuel K' g' a' b' c' d' hK' (fun z => by have := hg1 z; omega) (fun z => ⟨by omega, hg0 z⟩) ha' hb' hc' hd'
      have e2 : whL (tBool (eVar 4)) (sSeq (sSet 4 (eC (.bool false))) (sFor (iSeqM (eVar 0)) (gNm 5) passB)) (fuel + 1) [some (.imm (.list (ss.map dSum))), some (.imm d0), some (.own false (dKn K)), a, some (.imm (.bool true)), b, c, d] =
        whL (tBool (eVar 4)) (sSeq (sSet 4 (eC (.bool false))) (sFor (iSeqM (eVar 0)) (gNm 5) passB)) fuel [some (.imm (.list (ss.map dSum))), some (.imm d0), some (.own false (dKn K')), a', some (.imm (.bool g')), b', c', d'] := by
        rw [whL]
        simp
        rw [e]
      rw [e2]
      exact ih
    · refine .inr ⟨ρ', K', ?_, h⟩
      rw [whL]
      simp
      rw [e]
/-- THE PROMISE of pushed -/
structure PushOk (n : Nat) (ss : List Sm) (M : List Int) (x : Str) (ks : List Int) : Prop where
  w : x = ("bursts" : Str) ∨ x = ("rests" : Str)
  rise : Rise ks
  ok : ∀ k ∈ ks, okM n k
  sub : ∀ m ∈ M, m ∈ ks
  cl : ∀ C, Shut ss C → (∀ m ∈ M, C m = true) → x = ("rests" : Str) ∧ ∀ k ∈ ks, C k = true
  shut : x = ("rests" : Str) → Shut ss (fun m => decide (m ∈ ks))
theorem pushed_run {n : Nat} {ss : List Sm} {M : List Int} (hn : n ≤ 12) (hs : ∀ s ∈ ss, SumOk n s) (hM : ∀ m ∈ M, okM n m) (hl : M.length ≤ 1000) :
    ∃ (w : Str) (ks : List Int), m_pushed [.list (ss.map dSum), dInts M] = .ok (.val (.tuple [.str w, dInts ks])) [] ∧ PushOk n ss M w ks := by
  have hK : KnI n ss M (M.foldl addK []) := ⟨nodup_addsK (by simp), fun k hk => hM k (by simpa using mem_addsK.mp hk), fun m hm => mem_addsK.mpr (.inr hm), fun C S h k hk => h k (by simpa using mem_addsK.mp hk)⟩
  have ht := turns_run (d0 := dInts M) hn hs fu_pushed_1 (M.foldl addK []) true none none none none hK (fun _ => by show 2 * n + 2 ≤ 1000 + _; omega) (fun z => Bool.noConfusion z) rfl rfl rfl rfl
  have hd : eDComp (iSeqM (eVar 1)) (gNm 3) [3] (retM true) (eVar 3) (eC (.bool true)) [some (.imm (.list (ss.map dSum))), some (.imm (dInts M)), none, none, none, none, none, none] = .ok (.fresh (dKn (M.foldl addK []))) [some (.imm (.list (ss.map dSum))), some (.imm (dInts M)), none, none, none, none, none, none] :=
    eDComp_kn (by simp) (by simp) rfl (by omega)
  have mem : ∀ {K : List Int} {k : Int}, k ∈ K.mergeSort leI ↔ k ∈ K := fun {K k} => (List.mergeSort_perm K leI).mem_iff
  rcases ht with ⟨K', a, b, c, d, e, hK', hok⟩ | ⟨ρ', K', e, hK', hno⟩
  · have hKl : K'.length < 64 := by have := okM_len hK'.nd hK'.ok; omega
    refine ⟨"rests", K'.mergeSort leI, ?_, .inr rfl, rise_sort hK'.nd, fun k hk => hK'.ok k (mem.mp hk), fun m hm => mem.mpr (hK'.sub m hm), fun C S h => ⟨rfl, fun k hk => hK'.cl C S h k (mem.mp hk)⟩, fun _ => ?_⟩
    · rw [me_pushed, b_pushed]
      unfold passB at e
      simp [hd]
      rw [e]
      simp [gSorted_kn hKl]
    · have := shut_of hok
      have e2 : (fun m => decide (m ∈ K'.mergeSort leI)) = fun m => decide (m ∈ K') := by
        funext m
        simp only [mem]
      rw [e2]
      exact this
  · have hne : ("bursts" : Str) ≠ "rests" := by decide
    refine ⟨"bursts", K'.mergeSort leI, ?_, .inl rfl, rise_sort hK'.nd, fun k hk => hK'.ok k (mem.mp hk), fun m hm => mem.mpr (hK'.sub m hm), fun C S h => (hno C S h).elim, fun h => absurd h hne⟩
    rw [me_pushed, b_pushed]
    unfold passB at e
    simp [hd]
    rw [e]
    simp
theorem seq_nx_of {o : Ou} {k : Dn → Ou} {P : Ou → Prop} (Q : Dn → Prop) (h : ∃ ρ, o = .nx ρ ∧ Q ρ) (hk : ∀ ρ, Q ρ → P (k ρ)) : P (o.seq k) := by
  obtain ⟨ρ, rfl, hq⟩ := h
  exact hk ρ hq
theorem e_bb (neg : Bool) : gEq neg (.str ("bursts" : Str)) (.str ("bursts" : Str)) = some (.val (.bool (!neg))) := by
  rw [gEq_str (by decide +kernel) (by decide +kernel), show (("bursts" : Str) == ("bursts" : Str)) = true from by decide +kernel]
  cases neg <;> rfl
theorem e_rr (neg : Bool) : gEq neg (.str ("rests" : Str)) (.str ("rests" : Str)) = some (.val (.bool (!neg))) := by
  rw [gEq_str (by decide +kernel) (by decide +kernel), show (("rests" : Str) == ("rests" : Str)) = true from by decide +kernel]
  cases neg <;> rfl
theorem e_br (neg : Bool) : gEq neg (.str ("bursts" : Str)) (.str ("rests" : Str)) = some (.val (.bool neg)) := by
  rw [gEq_str (by decide +kernel) (by decide +kernel), show (("bursts" : Str) == ("rests" : Str)) = false from by decide +kernel]
  cases neg <;> rfl
theorem e_rb (neg : Bool) : gEq neg (.str ("rests" : Str)) (.str ("bursts" : Str)) = some (.val (.bool neg)) := by
  rw [gEq_str (by decide +kernel) (by decide +kernel), show (("rests" : Str) == ("bursts" : Str)) = false from by decide +kernel]
  cases neg <;> rfl
theorem e_nn (neg : Bool) : gEq neg (.list []) (.list []) = some (.val (.bool (!neg))) := by
  rw [gEq_nil (shNil 0)]
  cases neg <;> rfl
/-- a filling's marks -/
theorem shut_fill {n : Nat} {ss : List Sm} {f : List Bool} (hs : ∀ s ∈ ss, SumOk n s) (hf : f.length = n) (hh : (ss.all fun s => heldL s f) = true) : Shut ss (fun m => isSo m f) := by
  have e : ∀ s ∈ ss, (s.1.filter fun t => !isSo (-t.2) f) = s.1.filter fun t => isSo t.2 f := fun s h => List.filter_congr fun t ht => by
    rw [isSo_neg ((hs s h).ok t ht) hf, Bool.not_not]
  refine ⟨fun s h => ?_, fun s h t ht _ => ?_⟩
  · have := List.all_eq_true.mp hh s h
    simp only [heldL, decide_eq_true_eq] at this
    have e' : roomP s (fun m => isSo m f) = weightL s f - s.2 := by
      unfold roomP weightL
      rw [← e s h]
    omega
  · rw [isSo_neg ((hs s h).ok t ht) hf]
    cases isSo t.2 f <;> simp
theorem Shut.sub {ss ts : List Sm} {C : Int → Bool} (h : Shut ts C) (hs : ∀ s ∈ ss, s ∈ ts) : Shut ss C := ⟨fun s z => h.room s (hs s z), fun s z => h.push s (hs s z)⟩
def LawI (ns : List Int) (ρ : Dn) : Prop := ∃ a1 a2 a3 a4 a5 a6 a7 a8 a9 : Option Sl, freeO a1 = true ∧ freeO a2 = true ∧ freeO a3 = true ∧ freeO a4 = true ∧ freeO a5 = true ∧ freeO a6 = true ∧ freeO a7 = true ∧ freeO a8 = true ∧ freeO a9 = true ∧ ρ = [some (.scr ns), a1, a2, a3, a4, a5, a6, a7, a8, a9, none, none, none]
theorem law_run (ns : List Int) (hn : ns.length ≤ 63) : ∃ ρ', b_law (some (.scr ns) :: List.replicate (N_law.length - 1) none) = .rt (.val (.bool true)) ρ' := by
  rw [b_law]
  simp
  generalize hr : max (1 : Int) (min (ns.length : Int) 16) = r
  have hr1 : 0 ≤ r ∧ r ≤ 16 := by omega
  have hi : in62 r = true := in62_of hr1.1 (by omega)
  simp [hi, rngL]
  refine seq_nx_of (P := fun o => ∃ ρ', o = .rt (.val (.bool true)) ρ') (LawI ns) ?_ ?_
  · refine forL_inv (enc := fun i : Nat => PyData.int (i : Int)) (Q := fun o => ∃ ρ, o = .nx ρ ∧ LawI ns ρ) (fun _ => LawI ns) ⟨none, none, none, none, none, none, none, none, none, rfl, rfl, rfl, rfl, rfl, rfl, rfl, rfl, rfl, rfl⟩ ?_ ?_
    · rintro ys k zs ρ he ⟨a1, a2, a3, a4, a5, a6, a7, a8, a9, h1, h2, h3, h4, h5, h6, h7, h8, h9, rfl⟩
      have hk : k < 16 := by
        have : k ∈ List.range r.toNat := by rw [he]; simp
        rw [List.mem_range] at this
        omega
      refine ⟨_, by simp [h1]; rfl, ?_⟩
      have hk2 : (0 : Int) ≤ (k : Int) ∧ (k : Int) < 64 := by omega
      obtain ⟨r1, p1, e1, hp1, hr10, hr11⟩ := take_run (poolOk_of (ns := ns) (k := (k : Int))) 5 (by decide) (by decide)
      obtain ⟨n, hnr⟩ : ∃ n : Nat, 1 + r1 = (n : Int) := ⟨(1 + r1).toNat, by omega⟩
      have hn1 : 1 ≤ n ∧ n ≤ 5 := by omega
      obtain ⟨r2, p2, e2, hp2, hr20, hr21⟩ := take_run hp1 6 (by decide) (by decide)
      have hi2 : in62 r2 = true := in62_of hr20 (by omega)
      simp [hn, hk2, h2, e1, h3, hnr]
      refine eComp_invP (P := fun x => ((x.thnS _).seq _).steps _ _) (xs := List.range r2.toNat) (enc := fun i : Nat => PyData.int (i : Int)) (e2 := dSum) (ρ1 := [some (.scr ns), some (.imm (.int (k : Int))), some (.own false p2), some (.imm (.int n)), a4, a5, a6, a7, a8, a9, none, none, none])
        (fun ρ => ∃ p, PoolOk p ∧ ρ = [some (.scr ns), some (.imm (.int (k : Int))), some (.own false p), some (.imm (.int n)), a4, a5, a6, a7, a8, a9, none, none, none]) (SumOk n) ?_ rfl ?_ ⟨p2, hp2, rfl⟩ ?_ ?_
      · simp [e2, hi2, rngL]
      · simp; omega
      · rintro x ρ' _ ⟨p, hp, rfl⟩
        obtain ⟨s, p', e, hp', hs⟩ := sum_run (n := n) hp (by omega)
        refine ⟨_, _, _, s, by simp; rfl, by simp; rfl, by simp [e]; rfl, hs, p', hp', by simp⟩
      rintro ss ρ' ⟨p3, hp3, rfl⟩ hss hl
      have hsl : ss.length ≤ 5 := by rw [hl, List.length_range]; omega
      obtain ⟨ms, p4, e4, hp4, hms, hml⟩ := known_run (n := n) hp3 (by omega)
      obtain ⟨w, told, e5, PO⟩ := pushed_run (n := n) (by omega) hss hms (by omega)
      obtain ⟨fs, e6, hfs, hfl⟩ := holding_run (n := n) hn1.1 (by omega) hss (by omega) hms (by omega)
      obtain ⟨s', p7, e7, hp7, hs7⟩ := sum_run (n := n) hp4 (by omega)
      have hss' : ∀ s ∈ ss ++ [s'], SumOk n s := fun s hs => by
        rw [List.mem_append, List.mem_singleton] at hs
        exact hs.elim (hss s) fun e => e ▸ hs7
      obtain ⟨w', ks', e8, PO'⟩ := pushed_run (n := n) (M := ms) (by omega) hss' hms (by omega)
      have htl : told.length ≤ 2 * n := okM_len (PO.rise.imp fun h => Int.ne_of_lt h) PO.ok
      obtain ⟨w2, ks2, e9, PO2⟩ := pushed_run (n := n) (M := told) (by omega) hss PO.ok (by omega)
      rw [List.map_append] at e8
      simp only [List.map_cons, List.map_nil] at e8
      have F2 : ∀ f ∈ fs, w = ("rests" : Str) ∧ ∀ m ∈ told, isSo m f = true := fun f hf => by
        obtain ⟨h1, h2, h3⟩ := (hfs f).mp hf
        exact PO.cl _ (shut_fill hss h1 h3) (List.all_eq_true.mp h2)
      simp [h4, e4, h5, e5, h8, h9, e6, h6]
      have hz : ss.length ≤ 9999999 := by omega
      have hnb : ("bursts" : Str) ≠ ("rests" : Str) := by decide +kernel
      have F3 : w' = ("rests" : Str) → w = ("rests" : Str) ∧ ∀ m ∈ told, m ∈ ks' := fun h => by
        have := PO.cl _ ((PO'.shut h).sub fun s hs => List.mem_append.mpr (.inl hs)) (fun m hm => by simpa using PO'.sub m hm)
        exact ⟨this.1, fun m hm => by simpa using this.2 m hm⟩
      have hcase : w' = ("rests" : Str) ∨ w' = ("bursts" : Str) := PO'.w.symm
      rcases PO.w with rfl | rfl
      · have hf0 : fs = [] := List.eq_nil_iff_forall_not_mem.mpr fun f hf => hnb (F2 f hf).1
        subst hf0
        simp [e_bb, e_nn]
        rw [eComp_run (xs := ([] : List (List Bool))) (enc := dFill) (fun _ => true) dFill ?a ?w ?z ?b]
        case a => simp; rfl
        case w => rfl
        case z => simp
        case b => intro f hf; cases hf
        have hw' : w' = ("bursts" : Str) := PO'.w.elim id fun h => absurd (F3 h).1 hnb
        subst hw'
        simp [e_nn, e7, e8, hz, h7, e_bb, e_br]
        exact ⟨_, _, _, _, _, _, _, _, _, rfl, rfl, rfl, rfl, rfl, rfl, rfl, rfl, rfl, rfl⟩
      · simp [e_rb]
        rw [eComp_run (xs := fs) (enc := dFill) (fun f => !(told.all fun m => isSo m f)) dFill ?a ?w ?z ?b]
        case a => simp; rfl
        case w => rfl
        case z => omega
        case b =>
          intro f hf
          have e := all_so_run (n := n) PO.ok (by omega) ((hfs f).mp hf).1
          simp [e]
        have hF : (fs.filter fun f => !(told.all fun m => isSo m f)) = [] := List.filter_eq_nil_iff.mpr fun f hf => by
          have := (F2 f hf).2
          simpa using this
        rw [hF]
        have hw2 := PO2.cl _ (PO.shut rfl) (fun m hm => by simpa using hm)
        have hk2 : ks2 = told := rise_ext PO2.rise PO.rise fun x => ⟨fun h => by simpa using hw2.2 x h, PO2.sub x⟩
        have hw3 := hw2.1
        subst hk2 hw3
        have e10 : gEq true (.tuple [.str ("rests" : Str), dInts ks2]) (.tuple [.str ("rests" : Str), dInts ks2]) = some (.val (.bool false)) := by
          have h := shTup2 (n := 1) (shStr 1 (show PyData.strOk ("rests" : Str) = true from by decide +kernel)) (sh_ints ks2)
          rw [gEq_of h h]
          have he : PyData.eqv (.tuple [.str ("rests" : Str), dInts ks2]) (.tuple [.str ("rests" : Str), dInts ks2]) = true := by
            simp only [PyData.eqv, PyData.eqvAll, eqv_ints]
            decide +kernel
          rw [he]
          rfl
        cases hcase with
        | inl hw' =>
          have F4 := (F3 hw').2
          subst hw'
          simp [e_nn, e7, e8, hz, h7, e_rb, e_rr, e9, e10]
          rw [eComp_run (xs := ks2) (enc := PyData.int) (fun m => !decide (m ∈ ks')) PyData.int ?a ?w ?z ?b]
          case a => simp; rfl
          case w => rfl
          case z => omega
          case b =>
            intro m hm
            simp
          have hF4 : (ks2.filter fun m => !decide (m ∈ ks')) = [] := List.filter_eq_nil_iff.mpr fun m hm => by simp [F4 m hm]
          rw [hF4]
          simp [e_nn, e_rr, e9, e10]
          exact ⟨_, _, _, _, _, _, _, _, _, rfl, rfl, rfl, rfl, rfl, rfl, rfl, rfl, rfl, rfl⟩
        | inr hw' =>
          subst hw'
          simp [e_nn, e7, e8, hz, h7, e_rb, e_br, e_rr, e9, e10]
          exact ⟨_, _, _, _, _, _, _, _, _, rfl, rfl, rfl, rfl, rfl, rfl, rfl, rfl, rfl, rfl⟩
    · exact fun ρ h => ⟨ρ, rfl, h⟩
  · rintro ρ ⟨a1, a2, a3, a4, a5, a6, a7, a8, a9, h1, h2, h3, h4, h5, h6, h7, h8, h9, rfl⟩
    simp
end LW
open PySem PySem.W PySem.Calls PyProof.Rows
theorem LW.holds (hp : ∀ (ns : List Int) (k : Int), ns.length ≤ 63 → 0 ≤ k → k < 64 → ∃ ρ', LW.b__law_pool (some (.scr ns) :: some (.imm (.int k)) :: List.replicate (LW.N__law_pool.length - 2) none) = .rt (.fresh (DP.poolD ns k)) ρ') (hl : ∀ ns : List Int, ns.length ≤ 63 → ∃ ρ', LW.b_law (some (.scr ns) :: List.replicate (LW.N_law.length - 1) none) = .rt (.val (.bool true)) ρ') : PySem.Challenge.rw_leastbroken_k14_whole_what_is_pushed_is.Holds := by
  w_on; o_law
  refine HandSHeadRun.head_any (r := OpenLaw.row PySem.Challenge.rw_leastbroken_k14_whole_what_is_pushed_is) (q := view (OpenLaw.row PySem.Challenge.rw_leastbroken_k14_whole_what_is_pushed_is).prog [17]) (H := LW.hk) (ob := LW.ob) (M := 4000) (loose := LW.loose) (d := HandSHeadRun.topDef (OpenLaw.row PySem.Challenge.rw_leastbroken_k14_whole_what_is_pushed_is).prog 17) (kwd := []) LW.ob_eq
    (by kernel_rfl) (fun s => by kernel_rfl) LW.run (by kernel_rfl) (by kernel_rfl) (by kernel_rfl) (by rfl) (by first | assumption | decide +kernel) (by decide +kernel) ⟨rfl, rfl, rfl, rfl, rfl, by decide +kernel⟩ ?hw ?hc
  case hw => w_witness2
  case hc =>
    refine L2.walk_ofE (l := PySem.Challenge.rw_leastbroken_k14_whole_what_is_pushed_is) (n := 63) (k := 5) (x := "_law_script") (CX := L2.CX0) rfl (by decide) (by kernel_rfl) ⟨rfl, by decide, by decide⟩ ?F (fun _ _ _ _ z => z)
    intro w mg fa h Y G hmg0
    obtain ⟨K, KX, c⟩ := Y
    have hmg : mg ("law" : PySem.Str) = some (.ref fa) := by
      have e : (HandSHeadRun.topDef (OpenLaw.row PySem.Challenge.rw_leastbroken_k14_whole_what_is_pushed_is).prog 17).name = ("law" : PySem.Str) := by kernel_rfl
      rw [← e]
      exact hmg0
    obtain ⟨fd, hb, hF⟩ := LW.facts (P := (PySem.Challenge.rw_leastbroken_k14_whole_what_is_pushed_is).prog) (w := w) KX G hmg c hp hl
    exact ⟨K, fd, DP.spLaw K, KX, hb, fun H a ns hl hO hS => ⟨a, ns, rfl, DP.Scr.of hO hS, hl, fun _ => rfl⟩, hF⟩
theorem PySem.Challenge.cw_leastbroken_k14_whole_what_is_pushed_is_holds : PySem.Challenge.rw_leastbroken_k14_whole_what_is_pushed_is.Holds :=
  LW.holds LW.pool_run LW.law_run
