import PyProof.Rows.All
import HandS.ForMost
import HandS.ForExc
import HandS.ExcOwn
import HandS.Wide
import HandS.IsInst
import HandS.TupAny
import HandS.Style
import HandS.Flow
import HandS.Evl
import HandS.Iter
import HandS.Comp
import HandS.Deep
import HandS.TupLe
import HandS.SortInts
import KE.SortData
import KE.DataCmp
import HandS.DictComp
import HandS.Defaults
import HandS.Head0
import HandS.Head1
import HandS.Head2
import HandS.HeadEnd
import HandS.HeadHook1
import HandS.HeadHook2
import HandS.Zip
import HandS.List
import PySem.Challenge.RW_leastbroken_k07_sums_or_none
import PyProof.ReprLen
set_option Elab.async false
set_option linter.all false
set_option maxRecDepth 100000
set_option maxHeartbeats 4000000
/-! DPA: plain data in the tracked heap; a def's slots as plain data; what a piece of syntax comes to as a plain function of them. -/
namespace DP
open PySem L2
abbrev PD := PyData
abbrev AS := Addr → Prop
def kD : Key → PD
  | .inl i => .int i
  | .inr x => .str x
mutual
/-- the value v stands for the data d; its lists and dicts lie in A -/
inductive Rp (A : AS) (H : Hp) : V → PD → Prop
  | non : Rp A H .non .none
  | bl (b : Bool) : Rp A H (.bl b) (.bool b)
  | int (i : Int) : Rp A H (.int i) (.int i)
  | str (x : Str) : Rp A H (.str x) (.str x)
  | lst {a : Addr} {xs : List V} {ds : List PD} : A a → H a = some (.lst xs) → RpAll A H xs ds → Rp A H (.ref a) (.list ds)
  | tup {a : Addr} {xs : List V} {ds : List PD} : H a = some (.tup xs) → RpAll A H xs ds → Rp A H (.ref a) (.tuple ds)
  | dic {a : Addr} {kvs : List (Key × V)} {ds : List (PD × PD)} : A a → H a = some (.dK kvs) → RpKV A H kvs ds → Rp A H (.ref a) (.dict ds)
inductive RpAll (A : AS) (H : Hp) : List V → List PD → Prop
  | nil : RpAll A H [] []
  | cons {v : V} {vs : List V} {d : PD} {ds : List PD} : Rp A H v d → RpAll A H vs ds → RpAll A H (v :: vs) (d :: ds)
inductive RpKV (A : AS) (H : Hp) : List (Key × V) → List (PD × PD) → Prop
  | nil : RpKV A H [] []
  | cons {k : Key} {v : V} {kvs : List (Key × V)} {d : PD} {ds : List (PD × PD)} : Rp A H v d → RpKV A H kvs ds → RpKV A H ((k, v) :: kvs) ((kD k, d) :: ds)
end
/-- what keeps data: A's objects, and tuples -/
structure Kp (A A' : AS) (H H' : Hp) : Prop where
  sub : ∀ a, A a → A' a
  obj : ∀ a o, A a → H a = some o → H' a = some o
  tup : ∀ a xs, H a = some (.tup xs) → H' a = some (.tup xs)
mutual
theorem Rp.kp {A A' : AS} {H H' : Hp} (k : Kp A A' H H') : ∀ {v : V} {d : PD}, Rp A H v d → Rp A' H' v d
  | _, _, .non => .non
  | _, _, .bl b => .bl b
  | _, _, .int i => .int i
  | _, _, .str x => .str x
  | _, _, .lst ha hr r => .lst (k.sub _ ha) (k.obj _ _ ha hr) (RpAll.kp k r)
  | _, _, .tup h r => .tup (k.tup _ _ h) (RpAll.kp k r)
  | _, _, .dic ha h r => .dic (k.sub _ ha) (k.obj _ _ ha h) (RpKV.kp k r)
theorem RpAll.kp {A A' : AS} {H H' : Hp} (k : Kp A A' H H') : ∀ {vs : List V} {ds : List PD}, RpAll A H vs ds → RpAll A' H' vs ds
  | _, _, .nil => .nil
  | _, _, .cons r rs => .cons (Rp.kp k r) (RpAll.kp k rs)
theorem RpKV.kp {A A' : AS} {H H' : Hp} (k : Kp A A' H H') : ∀ {vs : List (Key × V)} {ds : List (PD × PD)}, RpKV A H vs ds → RpKV A' H' vs ds
  | _, _, .nil => .nil
  | _, _, .cons r rs => .cons (Rp.kp k r) (RpKV.kp k rs)
end
end DP
/-! DPB: owned lists and dicts, the relation of slots, steps. -/
namespace DP
open PySem L2
/-- the object at p, owned, holds d: a list or a dict whose parts are data -/
def OwnObj (A : AS) (H : Hp) (p : Addr) (d : PD) : Prop :=
  match d with
  | .list ds => ∃ xs, H p = some (.lst xs) ∧ RpAll A H xs ds
  | .dict ds => ∃ kvs, H p = some (.dK kvs) ∧ RpKV A H kvs ds
  | _ => False
def isLD : Option HO → Prop
  | some (.lst _) => True
  | some (.dK _) => True
  | _ => False
theorem OwnObj.ld {A : AS} {H : Hp} {p : Addr} {d : PD} (h : OwnObj A H p d) : isLD (H p) := by
  cases d <;> simp only [OwnObj] at h
  · obtain ⟨xs, e, _⟩ := h; rw [e]; trivial
  · obtain ⟨xs, e, _⟩ := h; rw [e]; trivial
theorem OwnObj.kp {A A' : AS} {H H' : Hp} {p : Addr} {d : PD} (k : Kp A A' H H') (e : H' p = H p) (h : OwnObj A H p d) : OwnObj A' H' p d := by
  cases d <;> simp only [OwnObj] at h ⊢
  · obtain ⟨xs, e1, r⟩ := h; exact ⟨xs, by rw [e, e1], r.kp k⟩
  · obtain ⟨xs, e1, r⟩ := h; exact ⟨xs, by rw [e, e1], r.kp k⟩
/-- what a slot holds: data that stays; an owned list or dict (true: handed in to be changed) -/
inductive Sl where
  | imm (d : PD)
  | own (b : Bool) (d : PD)
  | scr (ns : List Int)
abbrev Dn := List (Option Sl)
/-- a value on the way: data that stays; a new list or dict that nobody else has; a slot's -/
inductive Rv where
  | val (d : PD)
  | fresh (d : PD)
  | slot (i : Nat)
def Ow (σ : L2.St) (ρ : Dn) (p : Addr) : Prop := ∃ (i : Nat) (b : Bool) (d : PD), ρ[i]? = some (some (.own b d)) ∧ σ[i]? = some (some (.ref p))
/-- a def's entry -/
structure Ent where
  A : AS
  H : Hp
  ins : List (Nat × Addr)
def Ent.S (F : Ent) (p : Addr) : Prop := ∃ q ∈ F.ins, q.2 = p
/-- the script: read, never written -/
def Scr (K : PySem.W.Frag) (H : Hp) (p : Addr) (xs : List V) : Prop := ∀ H' : Hp, (∀ o u, H p = some (.frz o u) → H' p = some (.frz o u)) → SqL K H' p xs
theorem Scr.kp {K : PySem.W.Frag} {H H' : Hp} {p : Addr} {xs : List V} (h : ∀ o u, H p = some (.frz o u) → H' p = some (.frz o u)) (s : Scr K H p xs) : Scr K H' p xs := fun H2 h2 => s H2 fun o u e => h2 o u (h o u e)
def SlR (K : PySem.W.Frag) (A : AS) (H : Hp) (v : V) : Sl → Prop
  | .imm d => Rp A H v d
  | .own _ d => ∃ p, v = .ref p ∧ ¬ A p ∧ OwnObj A H p d
  | .scr ns => ∃ p, v = .ref p ∧ Scr K H p (ns.map V.int)
structure ER (K : PySem.W.Frag) (F : Ent) (A : AS) (H : Hp) (σ : L2.St) (ρ : Dn) : Prop where
  len : σ.length = ρ.length
  slot : ∀ (i : Nat) (s : Sl), ρ[i]? = some (some s) → ∃ v, σ[i]? = some (some v) ∧ SlR K A H v s
  dist : ∀ (i j : Nat) (b b' : Bool) (d d' : PD) (p : Addr), ρ[i]? = some (some (.own b d)) → ρ[j]? = some (some (.own b' d')) → σ[i]? = some (some (.ref p)) → σ[j]? = some (some (.ref p)) → i = j
  dom : ∀ a, A a → H a ≠ none
  kp : ∀ b o, F.H b = some o → ¬ F.S b → H b = some o
  mono : ∀ a, F.A a → A a
  grow : ∀ a, A a → F.A a ∨ F.H a = none
  ownF : ∀ (i : Nat) (b : Bool) (d : PD) (p : Addr), ρ[i]? = some (some (.own b d)) → σ[i]? = some (some (.ref p)) → if b = true then F.S p else F.H p = none
  FS : ∀ p, F.S p → ¬ A p
  ins : ∀ q ∈ F.ins, σ[q.1]? = some (some (.ref q.2)) ∧ ∃ d, ρ[q.1]? = some (some (.own true d))
structure Step (A : AS) (H : Hp) (σ : L2.St) (ρ : Dn) (A' : AS) (H' : Hp) (ρ' : Dn) : Prop where
  kp : ∀ b o, H b = some o → ¬ Ow σ ρ b → H' b = some o
  mono : ∀ a, A a → A' a
  grow : ∀ a, A' a → A a ∨ H a = none ∨ Ow σ ρ a
  sub : ∀ p, Ow σ ρ' p → Ow σ ρ p
  def_ : ∀ (i : Nat) (s : Sl), ρ[i]? = some (some s) → ∃ s', ρ'[i]? = some (some s')
  live : ∀ b, H' b = none → H b = none
  len : ρ'.length = ρ.length
section
variable {K : PySem.W.Frag} {F : Ent} {A A' A'' : AS} {H H' H'' : Hp} {σ : L2.St} {ρ ρ' ρ'' : Dn}
theorem ER.ow (E : ER K F A H σ ρ) {p : Addr} (h : Ow σ ρ p) : ¬ A p ∧ isLD (H p) := by
  obtain ⟨i, b, d, e1, e2⟩ := h
  obtain ⟨v, e3, p', rfl, h1, h2⟩ := E.slot i _ e1
  rw [e2] at e3
  cases e3
  exact ⟨h1, h2.ld⟩
theorem ER.free (E : ER K F A H σ ρ) {p : Addr} (h : H p = none) : ¬ A p := fun z => E.dom p z h
theorem ER.notOw (E : ER K F A H σ ρ) {p : Addr} (h : A p) : ¬ Ow σ ρ p := fun z => (E.ow z).1 h
theorem Step.kpr (s : Step A H σ ρ A' H' ρ') (E : ER K F A H σ ρ) : Kp A A' H H' :=
  ⟨s.mono, fun a o ha e => s.kp a o e (E.notOw ha), fun a xs e => s.kp a _ e fun z => by
    have := (E.ow z).2
    rw [e] at this
    exact this⟩
theorem Step.refl : Step A H σ ρ A H ρ := ⟨fun _ _ h _ => h, fun _ h => h, fun _ h => .inl h, fun _ h => h, fun _ s h => ⟨s, h⟩, fun _ h => h, rfl⟩
theorem Step.trans (s : Step A H σ ρ A' H' ρ') (t : Step A' H' σ ρ' A'' H'' ρ'') : Step A H σ ρ A'' H'' ρ'' := by
  refine ⟨fun b o h n => t.kp b o (s.kp b o h n) fun z => n (s.sub b z), fun a h => t.mono a (s.mono a h), fun a h => ?_, fun p h => s.sub p (t.sub p h), fun i sl h => ?_, fun b h => s.live b (t.live b h), t.len.trans s.len⟩
  · rcases t.grow a h with h1 | h1 | h1
    · exact s.grow a h1
    · by_cases ho : Ow σ ρ a
      · exact .inr (.inr ho)
      · cases e : H a with
        | none => exact .inr (.inl rfl)
        | some o => rw [s.kp a o e ho] at h1; cases h1
    · exact .inr (.inr (s.sub a h1))
  · obtain ⟨s', h'⟩ := s.def_ i sl h
    exact t.def_ i s' h'
theorem keep_none (h : ∀ b o, H b = some o → H' b = some o) {b : Addr} (e : H' b = none) : H b = none := by
  cases q : H b with
  | none => rfl
  | some o => rw [h b o q] at e; cases e
/-- all that stood is kept, new things are there -/
theorem Step.ext (h : ∀ b o, H b = some o → H' b = some o) : Step A H σ ρ A H' ρ := ⟨fun b o e _ => h b o e, fun _ h => h, fun _ h => .inl h, fun _ h => h, fun _ s h => ⟨s, h⟩, fun b e => keep_none h e, rfl⟩
theorem Kp.ext (h : ∀ b o, H b = some o → H' b = some o) : Kp A A H H' := ⟨fun _ h => h, fun a o _ e => h a o e, fun a xs e => h a _ e⟩
theorem SlR.kp {v : V} {s : Sl} (k : Kp A A H H') (hx : ∀ b o, H b = some o → H' b = some o) (e : ∀ b d p, s = .own b d → v = .ref p → H' p = H p) (h : SlR K A H v s) : SlR K A H' v s := by
  cases s with
  | imm d => exact Rp.kp k h
  | own b d =>
    obtain ⟨p, rfl, n, o⟩ := h
    exact ⟨p, rfl, n, o.kp k (e b d p rfl rfl)⟩
  | scr ns =>
    obtain ⟨p, rfl, q⟩ := h
    exact ⟨p, rfl, q.kp fun o u e => hx p _ e⟩
theorem ER.ext (E : ER K F A H σ ρ) (h : ∀ b o, H b = some o → H' b = some o) : ER K F A H' σ ρ := by
  refine ⟨E.len, fun i s e => ?_, E.dist, fun a ha z => ?_, fun b o e n => h b o (E.kp b o e n), E.mono, E.grow, E.ownF, E.FS, E.ins⟩
  · obtain ⟨v, e1, r⟩ := E.slot i s e
    refine ⟨v, e1, r.kp (Kp.ext h) h fun b d p e2 e3 => ?_⟩
    subst e2 e3
    obtain ⟨p', e4, _, o⟩ := r
    cases e4
    have := o.ld
    cases e5 : H p with
    | none => rw [e5] at this; exact this.elim
    | some o => exact h p o e5
  · cases e : H a with
    | none => exact E.dom a ha e
    | some o => rw [h a o e] at z; cases z
end
/-- a value on the way, at its place -/
def RvR (F : Ent) (Z : Hp) (A : AS) (H : Hp) (σ : L2.St) (ρ : Dn) (v : V) : Rv → Prop
  | .val d => Rp A H v d
  | .fresh d => ∃ p, v = .ref p ∧ (¬ A p ∧ ¬ Ow σ ρ p ∧ F.H p = none ∧ Z p = none) ∧ OwnObj A H p d
  | .slot i => σ[i]? = some (some v) ∧ ∃ s, ρ[i]? = some (some s)
theorem RvR.step {K : PySem.W.Frag} {F : Ent} {Z : Hp} {A A' : AS} {H H' : Hp} {σ : L2.St} {ρ ρ' : Dn} {v : V} {r : Rv} (E : ER K F A H σ ρ) (s : Step A H σ ρ A' H' ρ') (h : RvR F Z A H σ ρ v r) : RvR F Z A' H' σ ρ' v r := by
  cases r with
  | val d => exact Rp.kp (s.kpr E) h
  | fresh d =>
    obtain ⟨p, rfl, ⟨h1, h2, h3, hz⟩, h4⟩ := h
    have hl := h4.ld
    refine ⟨p, rfl, ⟨fun z => ?_, fun z => h2 (s.sub p z), h3, hz⟩, h4.kp (s.kpr E) ?_⟩
    · rcases s.grow p z with q | q | q
      · exact h1 q
      · rw [q] at hl; exact hl
      · exact h2 q
    · cases e : H p with
      | none => rw [e] at hl; exact hl.elim
      | some o => exact s.kp p o e h2
  | slot i =>
    obtain ⟨e, sl, h⟩ := h
    exact ⟨e, s.def_ i sl h⟩
theorem RvR.back {F : Ent} {Z Z' : Hp} {A : AS} {H : Hp} {σ : L2.St} {ρ : Dn} {v : V} {r : Rv} (l : ∀ b, Z b = none → Z' b = none) (h : RvR F Z A H σ ρ v r) : RvR F Z' A H σ ρ v r := by
  cases r with
  | val d => exact h
  | fresh d => obtain ⟨p, rfl, ⟨h1, h2, h3, hz⟩, h4⟩ := h; exact ⟨p, rfl, ⟨h1, h2, h3, l p hz⟩, h4⟩
  | slot i => exact h
/-- what is read of a value on the way -/
def slD : Sl → Option PD
  | .imm d => some d
  | .own _ d => some d
  | .scr _ => none
def rd (r : Rv) (ρ : Dn) : Option PD :=
  match r with
  | .val d => some d
  | .fresh d => some d
  | .slot i => match ρ[i]? with
    | some (some s) => slD s
    | _ => none
/-- to be read: data that stays, or an owned thing -/
def Rt (A : AS) (H : Hp) (v : V) (d : PD) : Prop := Rp A H v d ∨ ∃ p, v = .ref p ∧ OwnObj A H p d
theorem RvR.rt {K : PySem.W.Frag} {F : Ent} {Z : Hp} {A : AS} {H : Hp} {σ : L2.St} {ρ : Dn} {v : V} {r : Rv} {d : PD} (E : ER K F A H σ ρ) (h : RvR F Z A H σ ρ v r) (e : rd r ρ = some d) : Rt A H v d := by
  cases r with
  | val d' => cases e; exact .inl h
  | fresh d' => cases e; obtain ⟨p, rfl, _, o⟩ := h; exact .inr ⟨p, rfl, o⟩
  | slot i =>
    obtain ⟨e1, s, e2⟩ := h
    obtain ⟨v', e3, r⟩ := E.slot i s e2
    rw [e1] at e3
    cases e3
    simp only [rd, e2] at e
    cases s with
    | imm d => cases e; exact .inl r
    | own b d => cases e; obtain ⟨p, rfl, _, o⟩ := r; exact .inr ⟨p, rfl, o⟩
    | scr ns => cases e
end DP
/-! DPC: what expressions come to. -/
namespace DP
open PySem L2
structure Exn where
  cls : Str
  fs : List (Str × PD)
inductive Rs (α : Type) where
  | ok (a : α) (ρ : Dn)
  | ex (e : Exn) (ρ : Dn)
  | no
abbrev M (α : Type) := Dn → Rs α
def bnd {α β : Type} (m : M α) (k : α → M β) : M β := fun ρ =>
  match m ρ with
  | .ok a ρ' => k a ρ'
  | .ex e ρ' => .ex e ρ'
  | .no => .no
def retM {α : Type} (a : α) : M α := fun ρ => .ok a ρ
def optM {α : Type} (o : Option α) : M α := fun ρ =>
  match o with
  | some a => .ok a ρ
  | none => .no
/-- an exception of a class of the module: its fields -/
def XR (mg : Str → Option Value) (A : AS) (H : Hp) (e : Exn) (cls : Value) (d : Option Addr) : Prop :=
  ∃ C, mg e.cls = some (.ref C) ∧ cls = .ref C ∧ ((e.fs = [] ∧ d = none) ∨ ∃ (da : Addr) (fs : List (Str × V)), d = some da ∧ H da = some (.xd fs) ∧ fs.map (·.1) = e.fs.map (·.1) ∧ RpAll A H (fs.map (·.2)) (e.fs.map (·.2)))
/-- what is wanted behind -/
def Pst {α β : Type} (K : PySem.W.Frag) (mg : Str → Option Value) (W : WX) (F : Ent) (A : AS) (H : Hp) (σ : L2.St) (ρ : Dn) (RR : AS → Hp → Dn → β → α → Prop) (Q : β → Hp → Prop) : Rs α → Prop
  | .ok a ρ' => ∀ A' H' b, ER K F A' H' σ ρ' → Step A H σ ρ A' H' ρ' → RR A' H' ρ' b a → Q b H'
  | .ex e ρ' => ∀ A' H' cls d, ER K F A' H' σ ρ' → Step A H σ ρ A' H' ρ' → XR mg A' H' e cls d → W cls d σ H'
  | .no => False
section
variable {α β γ δ : Type} {K : PySem.W.Frag} {mg : Str → Option Value} {W : WX} {F : Ent} {A A1 : AS} {H H1 : Hp} {σ : L2.St} {ρ ρ1 : Dn}
theorem Pst.after {RR : AS → Hp → Dn → β → α → Prop} {Q : β → Hp → Prop} {r : Rs α} (S : Step A H σ ρ A1 H1 ρ1) (h : Pst K mg W F A H σ ρ RR Q r) : Pst K mg W F A1 H1 σ ρ1 RR Q r := by
  cases r with
  | ok a ρ' => exact fun A' H' b E S' R => h A' H' b E (S.trans S') R
  | ex e ρ' => exact fun A' H' c d E S' R => h A' H' c d E (S.trans S') R
  | no => exact h
theorem Pst.split {RR : AS → Hp → Dn → β → α → Prop} {RR1 : AS → Hp → Dn → δ → γ → Prop} {Q : β → Hp → Prop} {Q1 : δ → Hp → Prop} {m : M γ} {k : γ → M α} (h : Pst K mg W F A H σ ρ RR Q (bnd m k ρ))
    (hk : ∀ a ρ1 A1 H1 b, ER K F A1 H1 σ ρ1 → Step A H σ ρ A1 H1 ρ1 → RR1 A1 H1 ρ1 b a → Pst K mg W F A H σ ρ RR Q (k a ρ1) → Q1 b H1) : Pst K mg W F A H σ ρ RR1 Q1 (m ρ) := by
  unfold bnd at h
  cases e : m ρ with
  | ok a ρ1 =>
    rw [e] at h
    exact fun A1 H1 b E S R => hk a ρ1 A1 H1 b E S R h
  | ex x ρ1 =>
    rw [e] at h
    exact h
  | no => rw [e] at h; exact h
end
/-- an expression comes to f -/
def RE (F : Ent) (Z : Hp) (σ : L2.St) : AS → Hp → Dn → V → Rv → Prop := fun A H ρ v r => RvR F Z A H σ ρ v r
def SimE (X : Cx) (W : WX) (e : Expr) (f : M Rv) : Prop := ∃ t : TE, PE X e t ∧ ∀ F A H σ ρ, ER X.K F A H σ ρ → ∀ Q : VK, Pst X.K X.mg W F A H σ ρ (RE F H σ) Q (f ρ) → t σ H Q
inductive RvRs (F : Ent) (Z : Hp) (A : AS) (H : Hp) (σ : L2.St) (ρ : Dn) : List V → List Rv → Prop
  | nil : RvRs F Z A H σ ρ [] []
  | cons {v : V} {vs : List V} {r : Rv} {rs : List Rv} : RvR F Z A H σ ρ v r → RvRs F Z A H σ ρ vs rs → RvRs F Z A H σ ρ (v :: vs) (r :: rs)
def RA (F : Ent) (Z : Hp) (σ : L2.St) : AS → Hp → Dn → List V → List Rv → Prop := fun A H ρ v r => RvRs F Z A H σ ρ v r
def SimA (X : Cx) (W : WX) (es : List Expr) (f : M (List Rv)) : Prop := ∃ t : TA, PA X es t ∧ ∀ F A H σ ρ, ER X.K F A H σ ρ → ∀ Q : List V → Hp → Prop, Pst X.K X.mg W F A H σ ρ (RA F H σ) Q (f ρ) → t σ H Q
def RT : AS → Hp → Dn → Bool → Bool → Prop := fun _ _ _ b c => b = c
def SimT (X : Cx) (W : WX) (e : Expr) (f : M Bool) : Prop := ∃ t : TT, PT X e t ∧ ∀ F A H σ ρ, ER X.K F A H σ ρ → ∀ Q : Bool → Hp → Prop, Pst X.K X.mg W F A H σ ρ RT Q (f ρ) → t σ H Q
def SimW (X : Cx) (W : WX) (e : Expr) (f : M Bool) : Prop := ∃ t : TT, PW X e t ∧ ∀ F A H σ ρ, ER X.K F A H σ ρ → ∀ Q : Bool → Hp → Prop, Pst X.K X.mg W F A H σ ρ RT Q (f ρ) → t σ H Q
/-- what an operation hands back: data, or a new list or dict -/
inductive Rc where
  | val (d : PD)
  | fresh (d : PD)
def Rc.rv : Rc → Rv
  | .val d => .val d
  | .fresh d => .fresh d
def NewR (A : AS) (H H' : Hp) (v : V) (c : Rc) : Prop := (∀ b o, H b = some o → H' b = some o) ∧
  match c with
  | .val d => Rp A H' v d
  | .fresh d => ∃ p, v = .ref p ∧ H p = none ∧ OwnObj A H' p d
section
variable {X : Cx} {K : PySem.W.Frag} {W : WX} {F : Ent} {Z : Hp} {A A' : AS} {H H' : Hp} {σ : L2.St} {ρ : Dn} {v : V} {c : Rc}
theorem ER.fnone (E : ER K F A H σ ρ) {p : Addr} (h : H p = none) : F.H p = none := by
  cases e : F.H p with
  | none => rfl
  | some o =>
    by_cases hs : F.S p
    · obtain ⟨q, hq, rfl⟩ := hs
      obtain ⟨e1, d, e2⟩ := E.ins q hq
      have := (E.ow ⟨q.1, true, d, e2, e1⟩).2
      rw [h] at this
      exact this.elim
    · rw [E.kp p o e hs] at h
      cases h
theorem ER.owne (E : ER K F A H σ ρ) {p : Addr} (h : H p = none) : ¬ Ow σ ρ p := fun z => by
  have := (E.ow z).2
  rw [h] at this
  exact this
theorem NewR.rv (l : ∀ b, H b = none → Z b = none) (E : ER K F A H σ ρ) (h : NewR A H H' v c) : ER K F A H' σ ρ ∧ Step A H σ ρ A H' ρ ∧ RvR F Z A H' σ ρ v c.rv := by
  obtain ⟨k, h⟩ := h
  refine ⟨E.ext k, Step.ext k, ?_⟩
  cases c with
  | val d => exact h
  | fresh d =>
    obtain ⟨p, rfl, hn, o⟩ := h
    exact ⟨p, rfl, ⟨E.free hn, E.owne hn, E.fnone hn, l p hn⟩, o⟩
/-- the values on the way, read -/
def rds (rs : List Rv) (ρ : Dn) : Option (List PD) :=
  match rs with
  | [] => some []
  | r :: rs => match rd r ρ with
    | some d => (rds rs ρ).map (d :: ·)
    | none => none
inductive Rts (A : AS) (H : Hp) : List V → List PD → Prop
  | nil : Rts A H [] []
  | cons {v : V} {vs : List V} {d : PD} {ds : List PD} : Rt A H v d → Rts A H vs ds → Rts A H (v :: vs) (d :: ds)
theorem RvRs.rts (E : ER K F A H σ ρ) : ∀ {vs : List V} {rs : List Rv} {ds : List PD}, RvRs F Z A H σ ρ vs rs → rds rs ρ = some ds → Rts A H vs ds
  | _, _, _, .nil, e => by cases e; exact .nil
  | _, _, ds, .cons (r := r) (rs := rs) h hs, e => by
    unfold rds at e
    cases e1 : rd r ρ with
    | none => rw [e1] at e; cases e
    | some d =>
      rw [e1] at e
      simp only at e
      cases e2 : rds rs ρ with
      | none => rw [e2] at e; cases e
      | some ds' =>
        rw [e2] at e
        cases e
        exact .cons (h.rt E e1) (RvRs.rts E hs e2)
theorem RvRs.back {Z' : Hp} (l : ∀ b, Z b = none → Z' b = none) : ∀ {vs : List V} {rs : List Rv}, RvRs F Z A H σ ρ vs rs → RvRs F Z' A H σ ρ vs rs
  | _, _, .nil => .nil
  | _, _, .cons h hs => .cons (h.back l) (RvRs.back l hs)
theorem RvRs.step {A' : AS} {H' : Hp} {ρ' : Dn} (E : ER K F A H σ ρ) (s : Step A H σ ρ A' H' ρ') : ∀ {vs : List V} {rs : List Rv}, RvRs F Z A H σ ρ vs rs → RvRs F Z A' H' σ ρ' vs rs
  | _, _, .nil => .nil
  | _, _, .cons h hs => .cons (h.step E s) (RvRs.step E s hs)
end
/-- an operation, by values, on data -/
structure Op2 (r : R2) (g : PD → PD → Option Rc) : Prop where
  run : ∀ A H x y d1 d2 c (Q : VK), (∀ a, A a → H a ≠ none) → Rt A H x d1 → Rt A H y d2 → g d1 d2 = some c → (∀ v H', NewR A H H' v c → Q v H') → r x y H Q
structure Op1 (r : V → Hp → VK → Prop) (g : PD → Option Rc) : Prop where
  run : ∀ A H x d1 c (Q : VK), (∀ a, A a → H a ≠ none) → Rt A H x d1 → g d1 = some c → (∀ v H', NewR A H H' v c → Q v H') → r x H Q
structure OpN (r : List V → Hp → VK → Prop) (g : List PD → Option Rc) : Prop where
  run : ∀ A H xs ds c (Q : VK), (∀ a, A a → H a ≠ none) → Rts A H xs ds → g ds = some c → (∀ v H', NewR A H H' v c → Q v H') → r xs H Q
/-- handing an operation's answer on -/
def fin (o : Option Rc) : M Rv := fun ρ =>
  match o with
  | some c => .ok c.rv ρ
  | none => .no
def rdM (r : Rv) : M PD := fun ρ =>
  match rd r ρ with
  | some d => .ok d ρ
  | none => .no
def rdsM (r : List Rv) : M (List PD) := fun ρ =>
  match rds r ρ with
  | some d => .ok d ρ
  | none => .no
def eOp2 (g : PD → PD → Option Rc) (a b : M Rv) : M Rv := bnd a fun x => bnd b fun y => bnd (rdM x) fun d1 => bnd (rdM y) fun d2 => fin (g d1 d2)
def eOp1 (g : PD → Option Rc) (a : M Rv) : M Rv := bnd a fun x => bnd (rdM x) fun d1 => fin (g d1)
def eOpN (g : List PD → Option Rc) (a : M (List Rv)) : M Rv := bnd a fun xs => bnd (rdsM xs) fun ds => fin (g ds)
section
variable {X : Cx} {W : WX} {F : Ent} {A : AS} {H : Hp} {σ : L2.St} {ρ : Dn} {v : V} {α : Type}
theorem Pst.rd {β : Type} {RR : AS → Hp → Dn → β → α → Prop} {Q : β → Hp → Prop} {r : Rv} {k : PD → M α} {ρ1 : Dn} (h : Pst X.K X.mg W F A H σ ρ RR Q (bnd (rdM r) k ρ1)) : ∃ d, rd r ρ1 = some d ∧ Pst X.K X.mg W F A H σ ρ RR Q (k d ρ1) := by
  unfold bnd rdM at h
  cases e : DP.rd r ρ1 with
  | none => rw [e] at h; exact h.elim
  | some d => rw [e] at h; exact ⟨d, rfl, h⟩
theorem Pst.rds {β : Type} {RR : AS → Hp → Dn → β → α → Prop} {Q : β → Hp → Prop} {r : List Rv} {k : List PD → M α} {ρ1 : Dn} (h : Pst X.K X.mg W F A H σ ρ RR Q (bnd (rdsM r) k ρ1)) : ∃ d, rds r ρ1 = some d ∧ Pst X.K X.mg W F A H σ ρ RR Q (k d ρ1) := by
  unfold bnd rdsM at h
  cases e : DP.rds r ρ1 with
  | none => rw [e] at h; exact h.elim
  | some d => rw [e] at h; exact ⟨d, rfl, h⟩
theorem Pst.fin {Q : VK} {o : Option Rc} {A1 : AS} {H1 : Hp} {ρ1 : Dn} (S : Step A H σ ρ A1 H1 ρ1) (E : ER X.K F A1 H1 σ ρ1) (h : Pst X.K X.mg W F A H σ ρ (RE F H σ) Q (fin o ρ1)) : ∃ c, o = some c ∧ ∀ v H', NewR A1 H1 H' v c → Q v H' := by
  unfold DP.fin at h
  cases o with
  | none => exact h.elim
  | some c => exact ⟨c, rfl, fun v H' n => let ⟨a, b, r⟩ := n.rv S.live E; h A1 H' v a (S.trans b) r⟩
theorem Pst.fin' {Q : VK} {o : Option Rc} {A0 A1 : AS} {H0 H1 : Hp} {ρ0 ρ1 : Dn} (S : Step A H σ ρ A1 H1 ρ1) (E : ER X.K F A1 H1 σ ρ1) (S0 : Step A0 H0 σ ρ0 A H ρ) (h : Pst X.K X.mg W F A H σ ρ (RE F H0 σ) Q (DP.fin o ρ1)) : ∃ c, o = some c ∧ ∀ v H', NewR A1 H1 H' v c → Q v H' := by
  unfold DP.fin at h
  cases o with
  | none => exact h.elim
  | some c => exact ⟨c, rfl, fun v H' n => let ⟨a, b, r⟩ := n.rv (S0.trans S).live E; h A1 H' v a (S.trans b) r⟩
variable {a b : Expr} {fa fb : M Rv} {es : List Expr} {fs : M (List Rv)} {r : R2} {g : PD → PD → Option Rc} {pos : Pos}
theorem op2_run {ta tb : TE} (hg : Op2 r g) (ha : ∀ F A H σ ρ, ER X.K F A H σ ρ → ∀ Q : VK, Pst X.K X.mg W F A H σ ρ (RE F H σ) Q (fa ρ) → ta σ H Q) (hb : ∀ F A H σ ρ, ER X.K F A H σ ρ → ∀ Q : VK, Pst X.K X.mg W F A H σ ρ (RE F H σ) Q (fb ρ) → tb σ H Q) :
    ∀ F A H σ ρ, ER X.K F A H σ ρ → ∀ Q : VK, Pst X.K X.mg W F A H σ ρ (RE F H σ) Q (eOp2 g fa fb ρ) → tOp r ta tb σ H Q := by
  intro F A H σ ρ E Q h
  refine ha F A H σ ρ E _ (h.split fun x ρ1 A1 H1 v1 E1 S1 R1 h1 => ?_)
  refine hb F A1 H1 σ ρ1 E1 _ ((h1.after S1).split fun y ρ2 A2 H2 v2 E2 S2 R2 h2 => ?_)
  obtain ⟨d1, e1, h3⟩ := h2.rd
  obtain ⟨d2, e2, h4⟩ := h3.rd
  obtain ⟨c, e3, h5⟩ := h4.fin' S2 E2 S1
  have R1' : RvR F H A2 H2 σ ρ2 v1 x := RvR.step E1 S2 R1
  exact hg.run A2 H2 v1 v2 d1 d2 c Q E2.dom (R1'.rt E2 e1) (RvR.rt E2 R2 e2) e3 h5
theorem sim_op {op : Operator} (ho : OpR X (binaryOp op) r) (hg : Op2 r g) (ha : SimE X W a fa) (hb : SimE X W b fb) : SimE X W (.BinOp a op b pos) (eOp2 g fa fb) := by
  obtain ⟨ta, pa, ha⟩ := ha
  obtain ⟨tb, pb, hb⟩ := hb
  exact ⟨_, pe_op ho pa pb, op2_run hg ha hb⟩
theorem sim_cmp {op : CmpOp} (ho : OpR X (compareOp op) r) (hg : Op2 r g) (ha : SimE X W a fa) (hb : SimE X W b fb) (hm : behindInMarks op b = false) : SimE X W (.Compare a [op] [b] pos) (eOp2 g fa fb) := by
  obtain ⟨ta, pa, ha⟩ := ha
  obtain ⟨tb, pb, hb⟩ := hb
  exact ⟨_, pe_cmpR ho pa pb hm, op2_run hg ha hb⟩
theorem sim_ix (ho : IxR X r) (hg : Op2 r g) (ha : SimE X W a fa) (hb : SimE X W b fb) (hs : PlainIx b) : SimE X W (.Subscript a b pos) (eOp2 g fa fb) := by
  obtain ⟨ta, pa, ha⟩ := ha
  obtain ⟨tb, pb, hb⟩ := hb
  exact ⟨_, pe_ix ho pa pb hs, op2_run hg ha hb⟩
theorem sim_un {op : UnaryOp} {r : V → Hp → VK → Prop} {g : PD → Option Rc} (ho : UnR X (unaryOp op) r) (hg : Op1 r g) (ha : SimE X W a fa) : SimE X W (.UnaryOp op a pos) (eOp1 g fa) := by
  obtain ⟨ta, pa, ha⟩ := ha
  refine ⟨_, pe_un ho pa, fun F A H σ ρ E Q h => ?_⟩
  refine ha F A H σ ρ E _ (h.split fun x ρ1 A1 H1 v1 E1 S1 R1 h1 => ?_)
  obtain ⟨d1, e1, h3⟩ := h1.rd
  obtain ⟨c, e3, h5⟩ := h3.fin S1 E1
  exact hg.run A1 H1 v1 d1 c Q E1.dom (RvR.rt E1 R1 e1) e3 h5
/-! names, constants -/
def eVar (i : Nat) : M Rv := fun ρ =>
  match ρ[i]? with
  | some (some (.imm d)) => .ok (.val d) ρ
  | some (some (.own _ _)) => .ok (.slot i) ρ
  | _ => .no
def eC (d : PD) : M Rv := fun ρ => .ok (.val d) ρ
theorem sim_var {i : Nat} {x : Str} {pos : Pos} (h : PE X (.Name x pos) (tVar i)) : SimE X W (.Name x pos) (eVar i) := by
  refine ⟨_, h, fun F A H σ ρ E Q h => ?_⟩
  unfold eVar at h
  cases e : ρ[i]? with
  | none => rw [e] at h; exact h.elim
  | some o =>
    rw [e] at h
    cases o with
    | none => exact h.elim
    | some s =>
      obtain ⟨v, e1, r⟩ := E.slot i s e
      refine ⟨v, e1, ?_⟩
      cases s with
      | imm d => exact h A H v E Step.refl r
      | own b d => exact h A H v E Step.refl ⟨e1, _, e⟩
      | scr ns => exact h.elim
theorem sim_c {e : Expr} {v : V} {d : PD} (h : PE X e (tC v)) (hr : ∀ A H, Rp A H v d) : SimE X W e (eC d) :=
  ⟨_, h, fun F A H σ ρ E Q h => h A H v E Step.refl (hr A H)⟩
theorem sim_int {i : Int} {j : Nat} {pos : Pos} : SimE X W (.Constant (.int i) j pos) (eC (.int i)) := sim_c pe_int fun _ _ => .int i
theorem sim_bl {i : Bool} {j : Nat} {pos : Pos} : SimE X W (.Constant (.bool i) j pos) (eC (.bool i)) := sim_c pe_bl fun _ _ => .bl i
theorem sim_non {j : Nat} {pos : Pos} : SimE X W (.Constant .none j pos) (eC .none) := sim_c pe_non fun _ _ => .non
theorem sim_str {i : Str} {j : Nat} {pos : Pos} : SimE X W (.Constant (.str i) j pos) (eC (.str i)) := sim_c pe_str fun _ _ => .str i
/-! argument lists -/
def aNil : M (List Rv) := fun ρ => .ok [] ρ
def aCons (a : M Rv) (b : M (List Rv)) : M (List Rv) := bnd a fun x => bnd b fun xs => retM (x :: xs)
theorem sim_anil : SimA X W [] aNil := ⟨_, pa_nil, fun F A H σ ρ E Q h => h A H [] E Step.refl .nil⟩
theorem sim_acons (ha : SimE X W a fa) (hb : SimA X W es fs) (hs : starEach (a :: es) X.env = (false, eval a X.env) :: starEach es X.env := by rfl) : SimA X W (a :: es) (aCons fa fs) := by
  obtain ⟨ta, pa, ha⟩ := ha
  obtain ⟨tb, pb, hb⟩ := hb
  refine ⟨_, pa_cons pa pb hs, fun F A H σ ρ E Q h => ?_⟩
  refine ha F A H σ ρ E _ (h.split fun x ρ1 A1 H1 v1 E1 S1 R1 h1 => ?_)
  refine hb F A1 H1 σ ρ1 E1 _ ((h1.after S1).split fun xs ρ2 A2 H2 vs E2 S2 R2 h2 => ?_)
  exact h2 A2 H2 (v1 :: vs) E2 S2 (.cons (RvR.step E1 S2 R1) (R2.back S1.live))
/-- a call of a built-in by its name -/
theorem sim_callB {r : List V → Hp → VK → Prop} {g : List PD → Option Rc} {id : String} {x : Str} {p : Pos} (hc : CallR X (.builtin id) r) (hg : OpN r g) (hgl : Gl X x) (hm : X.mg x = none) (hv : bootBuiltins x = some (.builtin id)) (ha : SimA X W (a :: es) fs) (hn : x ≠ "__name__" := by decide) (hdb : (x == ("__debug__" : Str)) = false := by decide)
    (he : starEach (a :: es) X.env = (false, eval a X.env) :: starEach es X.env := by rfl) (hpl : (backTo pos (starEach es X.env)).any (·.1) = false := by rfl) : SimE X W (.Call (.Name x p) (a :: es) [] pos) (eOpN g fs) := by
  obtain ⟨ta, pa, ha⟩ := ha
  refine ⟨_, pe_callB hc hgl hm hv pa hn hdb he hpl, fun F A H σ ρ E Q h => ?_⟩
  refine ha F A H σ ρ E _ (h.split fun xs ρ1 A1 H1 vs E1 S1 R1 h1 => ?_)
  obtain ⟨ds, e1, h3⟩ := h1.rds
  obtain ⟨c, e3, h5⟩ := h3.fin S1 E1
  exact hg.run A1 H1 vs ds c Q E1.dom (RvRs.rts E1 R1 e1) e3 h5
theorem sim_callTy {r : List V → Hp → VK → Prop} {g : List PD → Option Rc} {T : String} {x : Str} {p : Pos} (hc : CallR X (.type T) r) (hg : OpN r g) (hgl : Gl X x) (hm : X.mg x = none) (hv : bootBuiltins x = some (.type T)) (ha : SimA X W (a :: es) fs) (hn : x ≠ "__name__" := by decide) (hdb : (x == ("__debug__" : Str)) = false := by decide)
    (he : starEach (a :: es) X.env = (false, eval a X.env) :: starEach es X.env := by rfl) (hpl : (backTo pos (starEach es X.env)).any (·.1) = false := by rfl) : SimE X W (.Call (.Name x p) (a :: es) [] pos) (eOpN g fs) := by
  obtain ⟨ta, pa, ha⟩ := ha
  refine ⟨_, pe_callTy hc hgl hm hv pa hn hdb he hpl, fun F A H σ ρ E Q h => ?_⟩
  refine ha F A H σ ρ E _ (h.split fun xs ρ1 A1 H1 vs E1 S1 R1 h1 => ?_)
  obtain ⟨ds, e1, h3⟩ := h1.rds
  obtain ⟨c, e3, h5⟩ := h3.fin S1 E1
  exact hg.run A1 H1 vs ds c Q E1.dom (RvRs.rts E1 R1 e1) e3 h5
end
end DP
/-! DPD: slots set and frozen; tests; targets; statements; loops; comprehensions. -/
namespace DP
open PySem L2
section
variable {K : PySem.W.Frag} {F : Ent} {A : AS} {H : Hp} {σ : L2.St} {ρ : Dn} {v : V} {d : PD} {i : Nat} {p : Addr}
/-- slot i may be stored to -/
def freeSl (ρ : Dn) (i : Nat) : Bool :=
  match ρ[i]? with
  | some (some (.own true _)) => false
  | some _ => true
  | none => false
theorem freeSl_lt (h : freeSl ρ i = true) : i < ρ.length := by
  unfold freeSl at h
  cases e : ρ[i]? with
  | none => rw [e] at h; cases h
  | some o => exact (List.getElem?_eq_some_iff.mp e).1
theorem freeSl_no (h : freeSl ρ i = true) : ρ[i]? ≠ some (some (.own true d)) := by
  intro e
  unfold freeSl at h
  rw [e] at h
  cases h
theorem get_set_self {α : Type} {l : List α} {i : Nat} {a : α} (h : i < l.length) : (l.set i a)[i]? = some a := List.getElem?_set_self h
theorem get_set_ne {α : Type} {l : List α} {i j : Nat} {a : α} (h : i ≠ j) : (l.set i a)[j]? = l[j]? := List.getElem?_set_ne h
/-- a store to a slot: data that stays, or a thing of its own -/
theorem ER.store (E : ER K F A H σ ρ) (hf : freeSl ρ i = true) {s : Sl} (hs : SlR K A H v s) (ho : ∀ b d p, s = .own b d → v = .ref p → b = false ∧ (∀ j, j ≠ i → ∀ b' d', ρ[j]? = some (some (.own b' d')) → σ[j]? ≠ some (some (.ref p))) ∧ F.H p = none) :
    ER K F A H (σ.set i (some v)) (ρ.set i (some s)) := by
  have hi := freeSl_lt hf
  have hiσ : i < σ.length := by rw [E.len]; exact hi
  refine ⟨by simp [E.len], fun j t e => ?_, fun j k b b' d d' q e1 e2 e3 e4 => ?_, E.dom, E.kp, E.mono, E.grow, fun j b d q e1 e2 => ?_, E.FS, fun q hq => ?_⟩
  · by_cases hj : i = j
    · subst hj
      rw [get_set_self hi] at e
      cases e
      exact ⟨v, get_set_self hiσ, hs⟩
    · rw [get_set_ne hj] at e
      rw [get_set_ne hj]
      exact E.slot j t e
  · by_cases hj : i = j
    · by_cases hk : i = k
      · exact hj.symm.trans hk
      · subst hj
        rw [get_set_self hi] at e1
        rw [get_set_self hiσ] at e3
        rw [get_set_ne hk] at e2 e4
        cases e1
        cases e3
        exact absurd e4 ((ho _ _ q rfl rfl).2.1 k (Ne.symm hk) _ _ e2)
    · by_cases hk : i = k
      · subst hk
        rw [get_set_self hi] at e2
        rw [get_set_self hiσ] at e4
        rw [get_set_ne hj] at e1 e3
        cases e2
        cases e4
        exact absurd e3 ((ho _ _ q rfl rfl).2.1 j (Ne.symm hj) _ _ e1)
      · rw [get_set_ne hj] at e1 e3
        rw [get_set_ne hk] at e2 e4
        exact E.dist j k b b' d d' q e1 e2 e3 e4
  · by_cases hj : i = j
    · subst hj
      rw [get_set_self hi] at e1
      rw [get_set_self hiσ] at e2
      cases e1
      cases e2
      obtain ⟨rfl, _, z⟩ := ho _ _ q rfl rfl
      exact z
    · rw [get_set_ne hj] at e1 e2
      exact E.ownF j b d q e1 e2
  · obtain ⟨e1, d, e2⟩ := E.ins q hq
    have hne : i ≠ q.1 := fun z => by subst z; exact freeSl_no hf e2
    exact ⟨by rw [get_set_ne hne]; exact e1, d, by rw [get_set_ne hne]; exact e2⟩
theorem ER.setImm (E : ER K F A H σ ρ) (hf : freeSl ρ i = true) (h : Rp A H v d) : ER K F A H (σ.set i (some v)) (ρ.set i (some (.imm d))) :=
  E.store hf (s := .imm d) h fun _ _ _ e => nomatch e
theorem ER.setOwn (E : ER K F A H σ ρ) (hf : freeSl ρ i = true) (h1 : ¬ A p) (h2 : ¬ Ow σ ρ p) (h3 : F.H p = none) (h4 : OwnObj A H p d) : ER K F A H (σ.set i (some (.ref p))) (ρ.set i (some (.own false d))) :=
  E.store hf (s := .own false d) ⟨p, rfl, h1, h4⟩ fun b d' q e1 e2 => by
    cases e1
    cases e2
    exact ⟨rfl, fun j _ b' d' e3 e4 => h2 ⟨j, b', d', e3, e4⟩, h3⟩
/-- A and p -/
def plus (A : AS) (p : Addr) : AS := fun a => A a ∨ a = p
theorem Kp.plus : Kp A (plus A p) H H := ⟨fun _ h => .inl h, fun _ _ _ e => e, fun _ _ e => e⟩
theorem OwnObj.rp (h : OwnObj A H p d) : Rp (plus A p) H (.ref p) d := by
  cases d <;> simp only [OwnObj] at h
  · obtain ⟨xs, e, r⟩ := h; exact .lst (.inr rfl) e (r.kp Kp.plus)
  · obtain ⟨xs, e, r⟩ := h; exact .dic (.inr rfl) e (r.kp Kp.plus)
theorem OwnObj.ne (h : OwnObj A H p d) : H p ≠ none := fun z => by
  have := h.ld
  rw [z] at this
  exact this
/-- a new thing that nobody else has is frozen -/
theorem ER.freeze (E : ER K F A H σ ρ) (h1 : ¬ A p) (h2 : ¬ Ow σ ρ p) (h3 : F.H p = none) (h4 : H p ≠ none) : ER K F (plus A p) H σ ρ := by
  refine ⟨E.len, fun i s e => ?_, E.dist, fun a ha => ?_, E.kp, fun a ha => .inl (E.mono a ha), fun a ha => ?_, E.ownF, fun q hq z => ?_, E.ins⟩
  · obtain ⟨v, e1, r⟩ := E.slot i s e
    refine ⟨v, e1, ?_⟩
    cases s with
    | imm d => exact Rp.kp Kp.plus r
    | own b d =>
      obtain ⟨q, rfl, n, o⟩ := r
      refine ⟨q, rfl, fun z => z.elim n fun z => ?_, o.kp Kp.plus rfl⟩
      subst z
      exact h2 ⟨i, b, d, e, e1⟩
    | scr ns => exact r
  · rcases ha with ha | rfl
    · exact E.dom a ha
    · exact h4
  · rcases ha with ha | rfl
    · exact E.grow a ha
    · exact .inr h3
  · rcases z with z | rfl
    · exact E.FS q hq z
    · obtain ⟨q', hq', rfl⟩ := hq
      obtain ⟨e1, d, e2⟩ := E.ins q' hq'
      exact h2 ⟨q'.1, true, d, e2, e1⟩
/-- a slot's own thing is frozen -/
theorem ER.freezeSlot (E : ER K F A H σ ρ) (e1 : ρ[i]? = some (some (.own false d))) (e2 : σ[i]? = some (some (.ref p))) : ER K F (plus A p) H σ (ρ.set i (some (.imm d))) ∧ Step A H σ ρ (plus A p) H (ρ.set i (some (.imm d))) ∧ Rp (plus A p) H (.ref p) d := by
  have hi : i < ρ.length := (List.getElem?_eq_some_iff.mp e1).1
  obtain ⟨v, e3, p', rfl, hn, ho⟩ := E.slot i _ e1
  rw [e2] at e3
  cases e3
  have hr : Rp (plus A p) H (.ref p) d := ho.rp
  have sub : ∀ q, Ow σ (ρ.set i (some (.imm d))) q → Ow σ ρ q ∧ q ≠ p := fun q ⟨j, b, d', f1, f2⟩ => by
    by_cases hj : i = j
    · subst hj
      rw [get_set_self hi] at f1
      cases f1
    · rw [get_set_ne hj] at f1
      refine ⟨⟨j, b, d', f1, f2⟩, fun z => ?_⟩
      subst z
      exact hj (E.dist i j _ _ _ _ q e1 f1 e2 f2)
  refine ⟨⟨by simp [E.len], fun j s e => ?_, fun j k b b' d1 d2 q f1 f2 f3 f4 => ?_, fun a ha => ?_, E.kp, fun a ha => .inl (E.mono a ha), fun a ha => ?_, fun j b d1 q f1 f2 => ?_, fun q hq z => ?_, fun q hq => ?_⟩, ⟨fun b o e _ => e, fun _ h => .inl h, fun a ha => ?_, fun q h => (sub q h).1, fun j s e => ?_, fun _ h => h, by simp⟩, hr⟩
  · by_cases hj : i = j
    · subst hj
      rw [get_set_self hi] at e
      cases e
      exact ⟨_, e2, hr⟩
    · rw [get_set_ne hj] at e
      obtain ⟨v, e1', r⟩ := E.slot j s e
      refine ⟨v, e1', ?_⟩
      cases s with
      | imm d => exact Rp.kp Kp.plus r
      | own b d1 =>
        obtain ⟨q, rfl, n, o⟩ := r
        refine ⟨q, rfl, fun z => z.elim n fun z => ?_, o.kp Kp.plus rfl⟩
        subst z
        exact hj (E.dist i j _ _ _ _ q e1 e e2 e1')
      | scr ns => exact r
  · by_cases hj : i = j
    · subst hj; rw [get_set_self hi] at f1; cases f1
    · by_cases hk : i = k
      · subst hk; rw [get_set_self hi] at f2; cases f2
      · rw [get_set_ne hj] at f1
        rw [get_set_ne hk] at f2
        exact E.dist j k _ _ _ _ q f1 f2 f3 f4
  · rcases ha with ha | rfl
    · exact E.dom a ha
    · exact ho.ne
  · rcases ha with ha | rfl
    · exact E.grow a ha
    · have := E.ownF i false d a e1 e2
      exact .inr (by simpa using this)
  · by_cases hj : i = j
    · subst hj; rw [get_set_self hi] at f1; cases f1
    · rw [get_set_ne hj] at f1
      exact E.ownF j b d1 q f1 f2
  · rcases z with z | rfl
    · exact E.FS q hq z
    · obtain ⟨q', hq', hqe⟩ := hq
      obtain ⟨g1, d', g2⟩ := E.ins q' hq'
      subst hqe
      have hj := E.dist i q'.1 _ _ _ _ q'.2 e1 g2 e2 g1
      rw [← hj, e1] at g2
      cases g2
  · obtain ⟨g1, d', g2⟩ := E.ins q hq
    have hne : i ≠ q.1 := fun z => by rw [← z, e1] at g2; cases g2
    exact ⟨g1, d', by rw [get_set_ne hne]; exact g2⟩
  · rcases ha with ha | rfl
    · exact .inl ha
    · exact .inr (.inr ⟨i, false, d, e1, e2⟩)
  · by_cases hj : i = j
    · subst hj; exact ⟨_, get_set_self hi⟩
    · exact ⟨s, by rw [get_set_ne hj]; exact e⟩
end
/-- a value on the way becomes data that stays -/
def frz (r : Rv) : M PD := fun ρ =>
  match r with
  | .val d => .ok d ρ
  | .fresh d => .ok d ρ
  | .slot i => match ρ[i]? with
    | some (some (.imm d)) => .ok d ρ
    | some (some (.own false d)) => .ok d (ρ.set i (some (.imm d)))
    | _ => .no
/-- several, one after another -/
def frzs : List Rv → M (List PD)
  | [] => fun ρ => .ok [] ρ
  | r :: rs => bnd (frz r) fun d => bnd (frzs rs) fun ds => retM (d :: ds)
/-- a value waiting to be frozen -/
def RvQ (F : Ent) (Z : Hp) (A : AS) (H : Hp) (σ : L2.St) (ρ : Dn) (v : V) : Rv → Prop
  | .val d => Rp A H v d
  | .fresh d => ∃ p, v = .ref p ∧ (¬ Ow σ ρ p ∧ F.H p = none ∧ Z p = none) ∧ OwnObj A H p d
  | .slot i => σ[i]? = some (some v) ∧ ∃ s, ρ[i]? = some (some s)
theorem RvR.q {F : Ent} {Z : Hp} {A : AS} {H : Hp} {σ : L2.St} {ρ : Dn} {v : V} {r : Rv} (h : RvR F Z A H σ ρ v r) : RvQ F Z A H σ ρ v r := by
  cases r with
  | val d => exact h
  | fresh d => obtain ⟨p, e, ⟨_, h2, h3, h4⟩, h5⟩ := h; exact ⟨p, e, ⟨h2, h3, h4⟩, h5⟩
  | slot i => exact h
inductive RvQs (F : Ent) (Z : Hp) (A : AS) (H : Hp) (σ : L2.St) (ρ : Dn) : List V → List Rv → Prop
  | nil : RvQs F Z A H σ ρ [] []
  | cons {v : V} {vs : List V} {r : Rv} {rs : List Rv} : RvQ F Z A H σ ρ v r → RvQs F Z A H σ ρ vs rs → RvQs F Z A H σ ρ (v :: vs) (r :: rs)
theorem RvRs.q {F : Ent} {Z : Hp} {A : AS} {H : Hp} {σ : L2.St} {ρ : Dn} : ∀ {vs : List V} {rs : List Rv}, RvRs F Z A H σ ρ vs rs → RvQs F Z A H σ ρ vs rs
  | _, _, .nil => .nil
  | _, _, .cons h hs => .cons h.q (RvRs.q hs)
section
variable {X : Cx} {K : PySem.W.Frag} {mg : Str → Option Value} {W : WX} {F : Ent} {A0 A : AS} {H0 H : Hp} {σ : L2.St} {ρ0 ρ : Dn} {v : V} {r : Rv} {α β : Type}
/-- A' more than A, the heap as it is -/
theorem RvQ.more {A' : AS} {ρ' : Dn} (k : Kp A A' H H) (hs : ∀ p, Ow σ ρ' p → Ow σ ρ p) (hd : ∀ (i : Nat) (s : Sl), ρ[i]? = some (some s) → ∃ s', ρ'[i]? = some (some s')) (h : RvQ F H0 A H σ ρ v r) : RvQ F H0 A' H σ ρ' v r := by
  cases r with
  | val d => exact Rp.kp k h
  | fresh d => obtain ⟨p, e, ⟨h2, h3, h4⟩, h5⟩ := h; exact ⟨p, e, ⟨fun z => h2 (hs p z), h3, h4⟩, h5.kp k rfl⟩
  | slot i => obtain ⟨e, s, h⟩ := h; exact ⟨e, hd i s h⟩
theorem RvQs.more {A' : AS} {ρ' : Dn} (k : Kp A A' H H) (hs : ∀ p, Ow σ ρ' p → Ow σ ρ p) (hd : ∀ (i : Nat) (s : Sl), ρ[i]? = some (some s) → ∃ s', ρ'[i]? = some (some s')) : ∀ {vs : List V} {rs : List Rv}, RvQs F H0 A H σ ρ vs rs → RvQs F H0 A' H σ ρ' vs rs
  | _, _, .nil => .nil
  | _, _, .cons h h' => .cons (h.more k hs hd) (RvQs.more k hs hd h')
theorem frz_run (E : ER K F A H σ ρ) (S : Step A0 H0 σ ρ0 A H ρ) (R : RvQ F H0 A H σ ρ v r) {d : PD} {ρ' : Dn} (h : frz r ρ = .ok d ρ') :
    ∃ A', ER K F A' H σ ρ' ∧ Step A0 H0 σ ρ0 A' H ρ' ∧ Rp A' H v d ∧ Kp A A' H H ∧ (∀ p, Ow σ ρ' p → Ow σ ρ p) ∧ (∀ (i : Nat) (s : Sl), ρ[i]? = some (some s) → ∃ s', ρ'[i]? = some (some s')) := by
  cases r with
  | val d' => cases h; exact ⟨A, E, S, R, ⟨fun _ h => h, fun _ _ _ e => e, fun _ _ e => e⟩, fun _ h => h, fun _ s h => ⟨s, h⟩⟩
  | fresh d' =>
    cases h
    obtain ⟨p, rfl, ⟨h2, h3, hz⟩, h4⟩ := R
    by_cases ha : A p
    · refine ⟨A, E, S, ?_, ⟨fun _ h => h, fun _ _ _ e => e, fun _ _ e => e⟩, fun _ h => h, fun _ s h => ⟨s, h⟩⟩
      have := h4.rp
      exact Rp.kp ⟨fun a z => z.elim id fun z => by subst z; exact ha, fun _ _ _ e => e, fun _ _ e => e⟩ this
    · refine ⟨plus A p, E.freeze ha h2 h3 h4.ne, ⟨S.kp, fun a h => .inl (S.mono a h), fun a z => ?_, S.sub, S.def_, S.live, S.len⟩, h4.rp, Kp.plus, fun _ h => h, fun _ s h => ⟨s, h⟩⟩
      rcases z with z | rfl
      · exact S.grow a z
      · exact .inr (.inl hz)
  | slot i =>
    obtain ⟨e1, s, e2⟩ := R
    simp only [frz, e2] at h
    cases s with
    | imm d' =>
      cases h
      obtain ⟨v', e3, r⟩ := E.slot i _ e2
      rw [e1] at e3
      cases e3
      exact ⟨A, E, S, r, ⟨fun _ h => h, fun _ _ _ e => e, fun _ _ e => e⟩, fun _ h => h, fun _ s h => ⟨s, h⟩⟩
    | own b d' =>
      cases b with
      | true => cases h
      | false =>
        cases h
        obtain ⟨v', e3, p, rfl, _⟩ := E.slot i _ e2
        rw [e1] at e3
        cases e3
        obtain ⟨x, y, z⟩ := E.freezeSlot e2 e1
        exact ⟨_, x, S.trans y, z, Kp.plus, y.sub, y.def_⟩
    | scr ns => cases h
theorem frzs_run : ∀ {rs : List Rv} {vs : List V} {A : AS} {ρ : Dn} {ds : List PD} {ρ' : Dn}, ER K F A H σ ρ → Step A0 H0 σ ρ0 A H ρ → RvQs F H0 A H σ ρ vs rs → frzs rs ρ = .ok ds ρ' →
    ∃ A', ER K F A' H σ ρ' ∧ Step A0 H0 σ ρ0 A' H ρ' ∧ RpAll A' H vs ds ∧ Kp A A' H H
  | [], _, A, ρ, ds, ρ', E, S, R, h => by
    cases R
    cases h
    exact ⟨A, E, S, .nil, fun _ h => h, fun _ _ _ e => e, fun _ _ e => e⟩
  | r :: rs, _, A, ρ, ds, ρ', E, S, .cons R Rs, h => by
    simp only [frzs, bnd] at h
    cases e1 : frz r ρ with
    | no => rw [e1] at h; cases h
    | ex e ρ1 => rw [e1] at h; cases h
    | ok d ρ1 =>
      rw [e1] at h
      simp only at h
      obtain ⟨A1, E1, S1, R1, k1, hs, hd⟩ := frz_run E S R e1
      cases e2 : frzs rs ρ1 with
      | no => rw [e2] at h; cases h
      | ex e ρ1 => rw [e2] at h; cases h
      | ok ds' ρ2 =>
        rw [e2] at h
        obtain ⟨A2, E2, S2, R2, k2⟩ := frzs_run E1 S1 (Rs.more k1 hs hd) e2
        cases h
        exact ⟨A2, E2, S2, .cons (Rp.kp k2 R1) R2, ⟨fun a h => k2.sub a (k1.sub a h), fun _ _ _ e => e, fun _ _ e => e⟩⟩
theorem frz_ok {ρ : Dn} {d : Rs PD} (h : frz r ρ = d) : d = .no ∨ ∃ x ρ', d = .ok x ρ' := by
  subst h
  cases r with
  | val d => exact .inr ⟨_, _, rfl⟩
  | fresh d => exact .inr ⟨_, _, rfl⟩
  | slot i =>
    unfold frz
    dsimp only
    cases ρ[i]? with
    | none => exact .inl rfl
    | some o =>
      cases o with
      | none => exact .inl rfl
      | some s =>
        cases s with
        | imm d => exact .inr ⟨_, _, rfl⟩
        | own b d => cases b with
          | true => exact .inl rfl
          | false => exact .inr ⟨_, _, rfl⟩
        | scr ns => exact .inl rfl
theorem frzs_ok : ∀ {rs : List Rv} {ρ : Dn}, frzs rs ρ = .no ∨ ∃ x ρ', frzs rs ρ = .ok x ρ'
  | [], ρ => .inr ⟨_, _, rfl⟩
  | r :: rs, ρ => by
    rcases frz_ok (r := r) (ρ := ρ) rfl with h | ⟨x, ρ1, h⟩
    · left; simp only [frzs, bnd, h]
    · rcases frzs_ok (rs := rs) (ρ := ρ1) with h2 | ⟨y, ρ2, h2⟩
      · left; simp only [frzs, bnd, h, h2]
      · right; exact ⟨_, _, by simp only [frzs, bnd, h, h2, retM]; rfl⟩
end
section
variable {X : Cx} {W : WX} {F : Ent} {A A1 : AS} {H H1 : Hp} {σ : L2.St} {ρ ρ1 : Dn} {v : V} {r : Rv} {rs : List Rv} {vs : List V} {α β : Type}
theorem Pst.frz {RR : AS → Hp → Dn → β → α → Prop} {Q : β → Hp → Prop} {k : PD → M α} (E : ER X.K F A1 H1 σ ρ1) (S : Step A H σ ρ A1 H1 ρ1) (R : RvR F H A1 H1 σ ρ1 v r) (h : Pst X.K X.mg W F A H σ ρ RR Q (bnd (DP.frz r) k ρ1)) :
    ∃ d A2 ρ2, ER X.K F A2 H1 σ ρ2 ∧ Step A H σ ρ A2 H1 ρ2 ∧ Rp A2 H1 v d ∧ Pst X.K X.mg W F A H σ ρ RR Q (k d ρ2) := by
  unfold bnd at h
  rcases frz_ok (r := r) (ρ := ρ1) rfl with e | ⟨d, ρ2, e⟩
  · rw [e] at h; exact h.elim
  · rw [e] at h
    obtain ⟨A2, E2, S2, R2, _⟩ := frz_run E S R.q e
    exact ⟨d, A2, ρ2, E2, S2, R2, h⟩
theorem Pst.frzs {RR : AS → Hp → Dn → β → α → Prop} {Q : β → Hp → Prop} {k : List PD → M α} (E : ER X.K F A1 H1 σ ρ1) (S : Step A H σ ρ A1 H1 ρ1) (R : RvRs F H A1 H1 σ ρ1 vs rs) (h : Pst X.K X.mg W F A H σ ρ RR Q (bnd (DP.frzs rs) k ρ1)) :
    ∃ ds A2 ρ2, ER X.K F A2 H1 σ ρ2 ∧ Step A H σ ρ A2 H1 ρ2 ∧ RpAll A2 H1 vs ds ∧ Pst X.K X.mg W F A H σ ρ RR Q (k ds ρ2) := by
  unfold bnd at h
  rcases frzs_ok (rs := rs) (ρ := ρ1) with e | ⟨d, ρ2, e⟩
  · rw [e] at h; exact h.elim
  · rw [e] at h
    obtain ⟨A2, E2, S2, R2, _⟩ := frzs_run E S R.q e
    exact ⟨d, A2, ρ2, E2, S2, R2, h⟩
theorem RpAll.length {A : AS} {H : Hp} : ∀ {vs : List V} {ds : List PD}, RpAll A H vs ds → vs.length = ds.length
  | _, _, .nil => rfl
  | _, _, .cons _ h => by simp [RpAll.length h]
theorem RpAll.get {A : AS} {H : Hp} : ∀ {vs : List V} {ds : List PD} {i : Nat} {d : PD}, RpAll A H vs ds → ds[i]? = some d → ∃ v, vs[i]? = some v ∧ Rp A H v d
  | _, _, _, _, .nil, e => by simp at e
  | _, _, 0, _, .cons r _, e => by simp at e; subst e; exact ⟨_, rfl, r⟩
  | _, _, i + 1, _, .cons _ h, e => by
    obtain ⟨v, e1, r⟩ := RpAll.get (i := i) h (by simpa using e)
    exact ⟨v, by simpa using e1, r⟩
theorem RpAll.append {A : AS} {H : Hp} : ∀ {vs ws : List V} {ds es : List PD}, RpAll A H vs ds → RpAll A H ws es → RpAll A H (vs ++ ws) (ds ++ es)
  | _, _, _, _, .nil, h => h
  | _, _, _, _, .cons r h, h' => .cons r (RpAll.append h h')
theorem RpAll.snoc {A : AS} {H : Hp} {vs : List V} {ds : List PD} {v : V} {d : PD} (h : RpAll A H vs ds) (r : Rp A H v d) : RpAll A H (vs ++ [v]) (ds ++ [d]) := h.append (.cons r .nil)
/-! displays -/
def smallL (n : Nat) : Bool := decide (n ≤ 10000000)
theorem smallL_le {n : Nat} (h : smallL n = true) : n ≤ sizeLine := Nat.le_trans (of_decide_eq_true h) (by decide)
theorem smallL_lt {n : Nat} (h : smallL n = true) : n < sizeLine := Nat.lt_of_le_of_lt (of_decide_eq_true h) (by decide)
def chk (b : Bool) : M Unit := fun ρ => if b = true then .ok () ρ else .no
theorem Pst.chk {RR : AS → Hp → Dn → β → α → Prop} {Q : β → Hp → Prop} {b : Bool} {k : Unit → M α} (h : Pst X.K X.mg W F A H σ ρ RR Q (bnd (DP.chk b) k ρ1)) : b = true ∧ Pst X.K X.mg W F A H σ ρ RR Q (k () ρ1) := by
  unfold bnd DP.chk at h
  cases b with
  | false => exact h.elim
  | true => exact ⟨rfl, h⟩
def eTup (a : M (List Rv)) : M Rv := bnd a fun rs => bnd (frzs rs) fun ds => bnd (chk (smallL ds.length)) fun _ => retM (.val (.tuple ds))
def eLst (a : M (List Rv)) : M Rv := bnd a fun rs => bnd (frzs rs) fun ds => bnd (chk (smallL ds.length)) fun _ => retM (.fresh (.list ds))
variable {es : List Expr} {fs : M (List Rv)} {pos : Pos}
theorem sim_tup {x1} (ha : SimA X W es fs) : SimE X W (.Tuple es x1 pos) (eTup fs) := by
  obtain ⟨ta, pa, ha⟩ := ha
  refine ⟨_, pe_tup pa, fun F A H σ ρ E Q h => ?_⟩
  refine ha F A H σ ρ E _ (h.split fun rs ρ1 A1 H1 vs E1 S1 R1 h1 => ?_)
  obtain ⟨ds, A2, ρ2, E2, S2, R2, h2⟩ := h1.frzs E1 S1 R1
  obtain ⟨hz, h3⟩ := h2.chk
  refine ⟨by rw [R2.length]; exact smallL_le hz, fun p hp => ?_⟩
  have ext : ∀ b o, H1 b = some o → upd H1 p (.tup vs) b = some o := fun b o e => by rw [upd_ne (ne_of_none e hp)]; exact e
  exact h3 A2 _ _ (E2.ext ext) (S2.trans (Step.ext ext)) (.tup upd_same (R2.kp (Kp.ext ext)))
theorem sim_lst (ha : SimA X W es fs) : SimE X W (.List es pos) (eLst fs) := by
  obtain ⟨ta, pa, ha⟩ := ha
  refine ⟨_, pe_lst pa, fun F A H σ ρ E Q h => ?_⟩
  refine ha F A H σ ρ E _ (h.split fun rs ρ1 A1 H1 vs E1 S1 R1 h1 => ?_)
  obtain ⟨ds, A2, ρ2, E2, S2, R2, h2⟩ := h1.frzs E1 S1 R1
  obtain ⟨hz, h3⟩ := h2.chk
  refine ⟨by rw [R2.length]; exact smallL_le hz, fun p hp => ?_⟩
  have ext : ∀ b o, H1 b = some o → upd H1 p (.lst vs) b = some o := fun b o e => by rw [upd_ne (ne_of_none e hp)]; exact e
  exact h3 A2 _ _ (E2.ext ext) (S2.trans (Step.ext ext)) ⟨p, rfl, ⟨E2.free hp, E2.owne hp, E2.fnone hp, S2.live p hp⟩, vs, upd_same, R2.kp (Kp.ext ext)⟩
end
end DP
/-! DPE: tests, choices, targets, statements, loops, comprehensions. -/
namespace DP
open PySem L2
def noM {α : Type} : M α := fun _ => .no
def tBool (f : M Rv) : M Bool := bnd f fun r => bnd (rdM r) fun d =>
  match d with
  | .bool b => retM b
  | _ => noM
section
variable {A : AS} {H : Hp} {v : V} {b : Bool} {i : Int} {x : Str} {ds : List PD} {kvs : List (PD × PD)}
theorem Rt.bool (h : Rt A H v (.bool b)) : v = .bl b := by
  rcases h with h | ⟨p, _, h⟩
  · cases h; rfl
  · exact h.elim
theorem Rt.int (h : Rt A H v (.int i)) : v = .int i := by
  rcases h with h | ⟨p, _, h⟩
  · cases h; rfl
  · exact h.elim
theorem Rt.str (h : Rt A H v (.str x)) : v = .str x := by
  rcases h with h | ⟨p, _, h⟩
  · cases h; rfl
  · exact h.elim
theorem Rt.none (h : Rt A H v .none) : v = .non := by
  rcases h with h | ⟨p, _, h⟩
  · cases h; rfl
  · exact h.elim
theorem Rt.list (h : Rt A H v (.list ds)) : ∃ p xs, v = .ref p ∧ H p = some (.lst xs) ∧ RpAll A H xs ds := by
  rcases h with h | ⟨p, rfl, xs, e, r⟩
  · cases h with
    | lst a e r => exact ⟨_, _, rfl, e, r⟩
  · exact ⟨p, xs, rfl, e, r⟩
theorem Rt.tup (h : Rt A H v (.tuple ds)) : ∃ p xs, v = .ref p ∧ H p = some (.tup xs) ∧ RpAll A H xs ds := by
  rcases h with h | ⟨p, _, h⟩
  · cases h with
    | tup e r => exact ⟨_, _, rfl, e, r⟩
  · exact h.elim
theorem Rt.dic (h : Rt A H v (.dict kvs)) : ∃ p xs, v = .ref p ∧ H p = some (.dK xs) ∧ RpKV A H xs kvs := by
  rcases h with h | ⟨p, rfl, xs, e, r⟩
  · cases h with
    | dic a e r => exact ⟨_, _, rfl, e, r⟩
  · exact ⟨p, xs, rfl, e, r⟩
end
section
variable {X : Cx} {W : WX} {F : Ent} {A A1 : AS} {H H1 : Hp} {σ : L2.St} {ρ ρ1 : Dn} {v : V} {α β : Type} {a b c e : Expr} {fa fb fc : M Rv} {ga gb gc : M Bool} {pos : Pos}
theorem Pst.imp {K : PySem.W.Frag} {mg : Str → Option Value} {RR RR' : AS → Hp → Dn → β → α → Prop} {Q : β → Hp → Prop} {r : Rs α} (h : Pst K mg W F A H σ ρ RR Q r) (i : ∀ A' H' ρ' b a, RR' A' H' ρ' b a → RR A' H' ρ' b a) : Pst K mg W F A H σ ρ RR' Q r := by
  cases r with
  | ok a ρ' => exact fun A' H' b E S R => h A' H' b E S (i _ _ _ _ _ R)
  | ex e ρ' => exact h
  | no => exact h
theorem Pst.weak {K : PySem.W.Frag} {mg : Str → Option Value} {Z Z' : Hp} {Q : VK} {r : Rs Rv} (h : Pst K mg W F A H σ ρ (RE F Z σ) Q r) (l : ∀ b, Z' b = none → Z b = none) : Pst K mg W F A H σ ρ (RE F Z' σ) Q r :=
  h.imp fun A' H' ρ' b a R => RvR.back l R
theorem tBool_run {t : TE} (ha : ∀ F A H σ ρ, ER X.K F A H σ ρ → ∀ Q : VK, Pst X.K X.mg W F A H σ ρ (RE F H σ) Q (fa ρ) → t σ H Q) :
    ∀ F A H σ ρ, ER X.K F A H σ ρ → ∀ Q : Bool → Hp → Prop, Pst X.K X.mg W F A H σ ρ RT Q (tBool fa ρ) → t σ H (fun x H' => ∃ k, x = .bl k ∧ Q k H') := by
  intro F A H σ ρ E Q h
  refine ha F A H σ ρ E _ (h.split fun r ρ1 A1 H1 v1 E1 S1 R1 h1 => ?_)
  obtain ⟨d, e1, h2⟩ := h1.rd
  cases d with
  | bool k =>
    have := Rt.bool (RvR.rt E1 R1 e1)
    exact ⟨k, this, h2 A1 H1 k E1 S1 rfl⟩
  | none => exact h2.elim
  | int i => exact h2.elim
  | str i => exact h2.elim
  | list i => exact h2.elim
  | tuple i => exact h2.elim
  | dict i => exact h2.elim
theorem sim_tval (ha : SimE X W e fa) (he : ∀ whole, isTrue e X.env whole = (do let v ← whole; standAt e.pos; holding [v] (truthy v)) := by intro _; rfl) : SimT X W e (tBool fa) := by
  obtain ⟨t, pa, ha⟩ := ha
  exact ⟨_, pt_val pa he, tBool_run ha⟩
theorem sim_tcmp {op : CmpOp} {r : R2} {g : PD → PD → Option Rc} (ho : OpR X (compareOp op) r) (hg : Op2 r g) (ha : SimE X W a fa) (hb : SimE X W b fb) (hm : behindInMarks op b = false) : SimT X W (.Compare a [op] [b] pos) (tBool (eOp2 g fa fb)) := by
  obtain ⟨ta, pa, ha⟩ := ha
  obtain ⟨tb, pb, hb⟩ := hb
  exact ⟨_, pt_cmpR ho pa pb hm, tBool_run (op2_run hg ha hb)⟩
/-- a op b op' c -/
def eChain (g g' : PD → PD → Option Rc) (a b c : M Rv) : M Rv := bnd a fun x => bnd b fun y => bnd (rdM x) fun d1 => bnd (rdM y) fun d2 => bnd (fin (g d1 d2)) fun z => bnd (rdM z) fun dz =>
  match dz with
  | .bool true => bnd c fun w => bnd (rdM y) fun d2' => bnd (rdM w) fun d3 => fin (g' d2' d3)
  | .bool false => retM (.val (.bool false))
  | _ => noM
theorem chain_run {r r' : R2} {g g' : PD → PD → Option Rc} {ta tb tc : TE} (hg : Op2 r g) (hg' : Op2 r' g') (ha : ∀ F A H σ ρ, ER X.K F A H σ ρ → ∀ Q : VK, Pst X.K X.mg W F A H σ ρ (RE F H σ) Q (fa ρ) → ta σ H Q) (hb : ∀ F A H σ ρ, ER X.K F A H σ ρ → ∀ Q : VK, Pst X.K X.mg W F A H σ ρ (RE F H σ) Q (fb ρ) → tb σ H Q)
    (hc : ∀ F A H σ ρ, ER X.K F A H σ ρ → ∀ Q : VK, Pst X.K X.mg W F A H σ ρ (RE F H σ) Q (fc ρ) → tc σ H Q) :
    ∀ F A H σ ρ, ER X.K F A H σ ρ → ∀ Q : VK, Pst X.K X.mg W F A H σ ρ (RE F H σ) Q (eChain g g' fa fb fc ρ) → tChain r r' ta tb tc σ H Q := by
  intro F A H σ ρ E Q h
  refine ha F A H σ ρ E _ (h.split fun x ρ1 A1 H1 v1 E1 S1 R1 h1 => ?_)
  refine hb F A1 H1 σ ρ1 E1 _ ((h1.after S1).split fun y ρ2 A2 H2 v2 E2 S2 R2 h2 => ?_)
  obtain ⟨d1, e1, h3⟩ := h2.rd
  obtain ⟨d2, e2, h4⟩ := h3.rd
  have R1' : RvR F H A2 H2 σ ρ2 v1 x := RvR.step E1 S2 R1
  cases ec : g d1 d2 with
  | none => unfold bnd fin at h4; rw [ec] at h4; exact h4.elim
  | some cc =>
    refine hg.run A2 H2 v1 v2 d1 d2 cc _ E2.dom (R1'.rt E2 e1) (RvR.rt E2 R2 e2) ec fun z H3 nz => ?_
    obtain ⟨E3, S3, R3⟩ := nz.rv (S1.trans S2).live E2
    unfold bnd fin at h4
    rw [ec] at h4
    have h5 := Pst.rd (k := fun dz => match dz with
      | .bool true => bnd fc fun w => bnd (rdM y) fun d2' => bnd (rdM w) fun d3 => DP.fin (g' d2' d3)
      | .bool false => retM (.val (.bool false))
      | _ => noM) (show Pst X.K X.mg W F A1 H1 σ ρ1 (RE F H σ) Q (bnd (rdM cc.rv) _ ρ2) from h4)
    obtain ⟨dz, e5, h6⟩ := h5
    have hz := R3.rt E3 e5
    cases dz with
    | bool k =>
      refine ⟨k, hz.bool, ?_⟩
      cases k with
      | false => exact h6 A2 H3 (.bl false) E3 (S2.trans S3) (.bl false)
      | true =>
        refine hc F A2 H3 σ ρ2 E3 _ ((h6.after (S2.trans S3)).split fun w ρ4 A4 H4 v4 E4 S4 R4 h7 => ?_)
        obtain ⟨d2', e6, h8⟩ := h7.rd
        obtain ⟨d3, e7, h9⟩ := h8.rd
        obtain ⟨c4, e8, h10⟩ := h9.fin' S4 E4 (S1.trans (S2.trans S3))
        have R2' : RvR F H1 A4 H4 σ ρ4 v2 y := RvR.step E2 (S3.trans S4) R2
        exact hg'.run A4 H4 v2 v4 d2' d3 c4 Q E4.dom (R2'.rt E4 e6) (RvR.rt E4 R4 e7) e8 h10
    | none => exact h6.elim
    | int i => exact h6.elim
    | str i => exact h6.elim
    | list i => exact h6.elim
    | tuple i => exact h6.elim
    | dict i => exact h6.elim
theorem sim_chain {op op' : CmpOp} {r r' : R2} {g g' : PD → PD → Option Rc} (ho : OpR X (compareOp op) r) (ho' : OpR X (compareOp op') r') (hg : Op2 r g) (hg' : Op2 r' g') (ha : SimE X W a fa) (hb : SimE X W b fb) (hc : SimE X W c fc)
    (hm : lastMarks [op, op'] [b, c] = false := by with_unfolding_all rfl) : SimE X W (.Compare a [op, op'] [b, c] pos) (eChain g g' fa fb fc) := by
  obtain ⟨ta, pa, ha⟩ := ha
  obtain ⟨tb, pb, hb⟩ := hb
  obtain ⟨tc, pc, hc⟩ := hc
  exact ⟨_, pe_chain ho ho' pa pb pc hm, chain_run hg hg' ha hb hc⟩
theorem sim_tchain {op op' : CmpOp} {r r' : R2} {g g' : PD → PD → Option Rc} (ho : OpR X (compareOp op) r) (ho' : OpR X (compareOp op') r') (hg : Op2 r g) (hg' : Op2 r' g') (ha : SimE X W a fa) (hb : SimE X W b fb) (hc : SimE X W c fc)
    (hm : lastMarks [op, op'] [b, c] = false := by with_unfolding_all rfl) : SimT X W (.Compare a [op, op'] [b, c] pos) (tBool (eChain g g' fa fb fc)) := by
  obtain ⟨ta, pa, ha⟩ := ha
  obtain ⟨tb, pb, hb⟩ := hb
  obtain ⟨tc, pc, hc⟩ := hc
  exact ⟨_, pt_chain ho ho' pa pb pc hm, tBool_run (chain_run hg hg' ha hb hc)⟩
/-! and, or, not -/
def tAndM (a b : M Bool) : M Bool := bnd a fun k => if k = true then b else retM false
def tOrM (a b : M Bool) : M Bool := bnd a fun k => if k = true then retM true else b
def tNotM (a : M Bool) : M Bool := bnd a fun k => retM (!k)
theorem sim_tnot (ha : SimT X W a ga) : SimT X W (.UnaryOp .Not a pos) (tNotM ga) := by
  obtain ⟨ta, pa, ha⟩ := ha
  refine ⟨_, pt_not pa, fun F A H σ ρ E Q h => ?_⟩
  refine ha F A H σ ρ E _ (h.split (RR1 := RT) fun k ρ1 A1 H1 k' E1 S1 R1 h1 => ?_)
  cases R1
  exact h1 A1 H1 _ E1 S1 rfl
theorem sim_wand1 (ha : SimT X W a ga) : SimW X W (.BoolOp .And [a] pos) ga := by
  obtain ⟨ta, pa, ha⟩ := ha
  exact ⟨_, pw_and1 pa, ha⟩
theorem sim_wor1 (ha : SimT X W a ga) : SimW X W (.BoolOp .Or [a] pos) ga := by
  obtain ⟨ta, pa, ha⟩ := ha
  exact ⟨_, pw_or1 pa, ha⟩
theorem sim_wand {rest : List Expr} (ha : SimT X W a ga) (hb : SimW X W (.BoolOp .And (b :: rest) pos) gb) : SimW X W (.BoolOp .And (a :: b :: rest) pos) (tAndM ga gb) := by
  obtain ⟨ta, pa, ha⟩ := ha
  obtain ⟨tb, pb, hb⟩ := hb
  refine ⟨_, pw_and pa pb, fun F A H σ ρ E Q h => ?_⟩
  refine ha F A H σ ρ E _ (h.split (RR1 := RT) fun k ρ1 A1 H1 k' E1 S1 R1 h1 => ?_)
  cases R1
  cases k with
  | true => exact hb F A1 H1 σ ρ1 E1 Q (h1.after S1)
  | false => exact h1 A1 H1 _ E1 S1 rfl
theorem sim_wor {rest : List Expr} (ha : SimT X W a ga) (hb : SimW X W (.BoolOp .Or (b :: rest) pos) gb) : SimW X W (.BoolOp .Or (a :: b :: rest) pos) (tOrM ga gb) := by
  obtain ⟨ta, pa, ha⟩ := ha
  obtain ⟨tb, pb, hb⟩ := hb
  refine ⟨_, pw_or pa pb, fun F A H σ ρ E Q h => ?_⟩
  refine ha F A H σ ρ E _ (h.split (RR1 := RT) fun k ρ1 A1 H1 k' E1 S1 R1 h1 => ?_)
  cases R1
  cases k with
  | false => exact hb F A1 H1 σ ρ1 E1 Q (h1.after S1)
  | true => exact h1 A1 H1 _ E1 S1 rfl
theorem SimW.t (h : SimW X W e ga) : SimT X W e ga := by
  obtain ⟨t, p, h⟩ := h
  exact ⟨t, p.pt, h⟩
/-- .. as values: the first a truth -/
def eAndV (a b : M Rv) : M Rv := bnd a fun x => bnd (rdM x) fun d =>
  match d with
  | .bool true => b
  | .bool false => retM (.val (.bool false))
  | _ => noM
def eOrV (a b : M Rv) : M Rv := bnd a fun x => bnd (rdM x) fun d =>
  match d with
  | .bool false => b
  | .bool true => retM (.val (.bool true))
  | _ => noM
def eNotV (a : M Rv) : M Rv := bnd a fun x => bnd (rdM x) fun d =>
  match d with
  | .bool k => retM (.val (.bool (!k)))
  | _ => noM
theorem sim_vone {op} (ha : SimE X W a fa) : SimE X W (.BoolOp op [a] pos) fa := by
  obtain ⟨ta, pa, ha⟩ := ha
  exact ⟨_, pe_one pa, ha⟩
theorem sim_vand {rest : List Expr} (ha : SimE X W a fa) (hb : SimE X W (.BoolOp .And (b :: rest) pos) fb) : SimE X W (.BoolOp .And (a :: b :: rest) pos) (eAndV fa fb) := by
  obtain ⟨ta, pa, ha⟩ := ha
  obtain ⟨tb, pb, hb⟩ := hb
  refine ⟨_, pe_and pa pb, fun F A H σ ρ E Q h => ?_⟩
  refine ha F A H σ ρ E _ (h.split fun x ρ1 A1 H1 v1 E1 S1 R1 h1 => ?_)
  obtain ⟨d, e1, h2⟩ := h1.rd
  have hz := RvR.rt E1 R1 e1
  cases d with
  | bool k =>
    refine ⟨k, hz.bool, ?_⟩
    cases k with
    | true => exact hb F A1 H1 σ ρ1 E1 Q ((h2.after S1).weak S1.live)
    | false => exact h2 A1 H1 _ E1 S1 (.bl false)
  | none => exact h2.elim
  | int i => exact h2.elim
  | str i => exact h2.elim
  | list i => exact h2.elim
  | tuple i => exact h2.elim
  | dict i => exact h2.elim
theorem sim_vor {rest : List Expr} (ha : SimE X W a fa) (hb : SimE X W (.BoolOp .Or (b :: rest) pos) fb) : SimE X W (.BoolOp .Or (a :: b :: rest) pos) (eOrV fa fb) := by
  obtain ⟨ta, pa, ha⟩ := ha
  obtain ⟨tb, pb, hb⟩ := hb
  refine ⟨_, pe_or pa pb, fun F A H σ ρ E Q h => ?_⟩
  refine ha F A H σ ρ E _ (h.split fun x ρ1 A1 H1 v1 E1 S1 R1 h1 => ?_)
  obtain ⟨d, e1, h2⟩ := h1.rd
  have hz := RvR.rt E1 R1 e1
  cases d with
  | bool k =>
    refine ⟨k, hz.bool, ?_⟩
    cases k with
    | false => exact hb F A1 H1 σ ρ1 E1 Q ((h2.after S1).weak S1.live)
    | true => exact h2 A1 H1 _ E1 S1 (.bl true)
  | none => exact h2.elim
  | int i => exact h2.elim
  | str i => exact h2.elim
  | list i => exact h2.elim
  | tuple i => exact h2.elim
  | dict i => exact h2.elim
theorem sim_vnot (ha : SimE X W a fa) : SimE X W (.UnaryOp .Not a pos) (eNotV fa) := by
  obtain ⟨ta, pa, ha⟩ := ha
  refine ⟨_, pe_not pa, fun F A H σ ρ E Q h => ?_⟩
  refine ha F A H σ ρ E _ (h.split fun x ρ1 A1 H1 v1 E1 S1 R1 h1 => ?_)
  obtain ⟨d, e1, h2⟩ := h1.rd
  have hz := RvR.rt E1 R1 e1
  cases d with
  | bool k => exact ⟨k, hz.bool, h2 A1 H1 _ E1 S1 (.bl _)⟩
  | none => exact h2.elim
  | int i => exact h2.elim
  | str i => exact h2.elim
  | list i => exact h2.elim
  | tuple i => exact h2.elim
  | dict i => exact h2.elim
def eIf (c : M Bool) (a b : M Rv) : M Rv := bnd c fun k => if k = true then a else b
theorem sim_ifx (hc : SimT X W c gc) (ha : SimE X W a fa) (hb : SimE X W b fb) : SimE X W (.IfExp c a b pos) (eIf gc fa fb) := by
  obtain ⟨tc, pc, hc⟩ := hc
  obtain ⟨ta, pa, ha⟩ := ha
  obtain ⟨tb, pb, hb⟩ := hb
  refine ⟨_, pe_ifExp pc pa pb, fun F A H σ ρ E Q h => ?_⟩
  refine hc F A H σ ρ E _ (h.split (RR1 := RT) fun k ρ1 A1 H1 k' E1 S1 R1 h1 => ?_)
  cases R1
  cases k with
  | true => exact ha F A1 H1 σ ρ1 E1 Q ((h1.after S1).weak S1.live)
  | false => exact hb F A1 H1 σ ρ1 E1 Q ((h1.after S1).weak S1.live)
/-- is None -/
def isNone : PD → Bool
  | .none => true
  | _ => false
theorem Rt.isN {A : AS} {H : Hp} {v : V} {d : PD} (h : Rt A H v d) : decide (v = .non) = isNone d := by
  rcases h with h | ⟨p, rfl, h⟩
  · cases h <;> rfl
  · cases d <;> first | rfl | exact h.elim
def eIsN (a : M Rv) : M Rv := bnd a fun x => bnd (rdM x) fun d => retM (.val (.bool (isNone d)))
def eNotN (a : M Rv) : M Rv := bnd a fun x => bnd (rdM x) fun d => retM (.val (.bool (!isNone d)))
theorem sim_isN {j pos'} (ha : SimE X W a fa) : SimE X W (.Compare a [.Is] [.Constant .none j pos'] pos) (eIsN fa) := by
  obtain ⟨ta, pa, ha⟩ := ha
  refine ⟨_, pe_cmp (pc_isN pa) rfl, fun F A H σ ρ E Q h => ?_⟩
  refine ha F A H σ ρ E _ (h.split fun x ρ1 A1 H1 v1 E1 S1 R1 h1 => ?_)
  obtain ⟨d, e1, h2⟩ := h1.rd
  have hz := (RvR.rt E1 R1 e1).isN
  rw [hz]
  exact h2 A1 H1 _ E1 S1 (.bl _)
theorem sim_notN {j pos'} (ha : SimE X W a fa) : SimE X W (.Compare a [.IsNot] [.Constant .none j pos'] pos) (eNotN fa) := by
  obtain ⟨ta, pa, ha⟩ := ha
  refine ⟨_, pe_cmp (pc_notN pa) rfl, fun F A H σ ρ E Q h => ?_⟩
  refine ha F A H σ ρ E _ (h.split fun x ρ1 A1 H1 v1 E1 S1 R1 h1 => ?_)
  obtain ⟨d, e1, h2⟩ := h1.rd
  have hz := (RvR.rt E1 R1 e1).isN
  rw [hz]
  exact h2 A1 H1 _ E1 S1 (.bl _)
theorem sim_tcmpV {op : CmpOp} (ha : SimE X W (.Compare a [op] [b] pos) fa) (hp : ∀ t, PE X (.Compare a [op] [b] pos) t → ∃ u, PC X op a b u ∧ u = t) (h1 : behindInMarks op b = false) : SimT X W (.Compare a [op] [b] pos) (tBool fa) := by
  obtain ⟨ta, pa, ha⟩ := ha
  obtain ⟨u, pu, rfl⟩ := hp ta pa
  exact ⟨_, pt_cmp pu h1, tBool_run ha⟩
theorem sim_tisN {j pos'} (ha : SimE X W a fa) : SimT X W (.Compare a [.Is] [.Constant .none j pos'] pos) (tBool (eIsN fa)) := by
  obtain ⟨ta, pa, ha⟩ := ha
  refine ⟨_, pt_cmp (pc_isN pa) rfl, tBool_run fun F A H σ ρ E Q h => ?_⟩
  refine ha F A H σ ρ E _ (h.split fun x ρ1 A1 H1 v1 E1 S1 R1 h1 => ?_)
  obtain ⟨d, e1, h2⟩ := h1.rd
  have hz := (RvR.rt E1 R1 e1).isN
  rw [hz]
  exact h2 A1 H1 _ E1 S1 (.bl _)
theorem sim_tnotN {j pos'} (ha : SimE X W a fa) : SimT X W (.Compare a [.IsNot] [.Constant .none j pos'] pos) (tBool (eNotN fa)) := by
  obtain ⟨ta, pa, ha⟩ := ha
  refine ⟨_, pt_cmp (pc_notN pa) rfl, tBool_run fun F A H σ ρ E Q h => ?_⟩
  refine ha F A H σ ρ E _ (h.split fun x ρ1 A1 H1 v1 E1 S1 R1 h1 => ?_)
  obtain ⟨d, e1, h2⟩ := h1.rd
  have hz := (RvR.rt E1 R1 e1).isN
  rw [hz]
  exact h2 A1 H1 _ E1 S1 (.bl _)
/-! ### targets -/
def SimG (X : Cx) (tg : Expr) (g : PD → Dn → Option Dn) (is : List Nat) : Prop := ∃ t : TG, PG X tg t ∧ ∀ F A H σ ρ v d ρ' (Q : L2.St → Hp → Prop), ER X.K F A H σ ρ → Rp A H v d → g d ρ = some ρ' →
  (∀ σ', ER X.K F A H σ' ρ' → (∀ j, j ∉ is → σ'[j]? = σ[j]? ∧ ρ'[j]? = ρ[j]?) → (∀ j, j ∈ is → ∃ d, ρ'[j]? = some (some (.imm d))) → σ'.length = σ.length → Q σ' H) → t v σ H Q
def gNm (i : Nat) : PD → Dn → Option Dn := fun d ρ => if freeSl ρ i = true then some (ρ.set i (some (.imm d))) else none
theorem sim_gname {i : Nat} {x : Str} (hN : X.N.Nodup) (hi : X.N[i]? = some x) (hx : Loc X.env.scope x) (hf : X.fn x = true ∨ X.env.scope.names.lookup x = some .local := by first | exact .inl rfl | exact .inr rfl | assumption) : SimG X (.Name x pos) (gNm i) [i] := by
  refine ⟨_, pg_name hN hi hx hf, fun F A H σ ρ v d ρ' Q E R hg k => ?_⟩
  unfold gNm at hg
  split at hg
  · rename_i h
    cases hg
    exact k _ (E.setImm h R) (fun j hj => ⟨List.getElem?_set_ne (fun e => hj (by simp [e])), List.getElem?_set_ne (fun e => hj (by simp [e]))⟩) (fun j hj => by
      have e : j = i := by simpa using hj
      subst e
      exact ⟨d, get_set_self (freeSl_lt h)⟩) (by simp)
  · cases hg
def SimGs (X : Cx) (tgs : List Expr) (g : List PD → Dn → Option Dn) (is : List Nat) : Prop := ∃ t : TGs, PGs X tgs t ∧ ∀ F A H σ ρ vs ds ρ' (Q : L2.St → Hp → Prop), ER X.K F A H σ ρ → RpAll A H vs ds → g ds ρ = some ρ' →
  (∀ σ', ER X.K F A H σ' ρ' → (∀ j, j ∉ is → σ'[j]? = σ[j]? ∧ ρ'[j]? = ρ[j]?) → (∀ j, j ∈ is → ∃ d, ρ'[j]? = some (some (.imm d))) → σ'.length = σ.length → Q σ' H) → t vs σ H Q
def gsNil : List PD → Dn → Option Dn := fun ds ρ =>
  match ds with
  | [] => some ρ
  | _ => none
def gsCons (g : PD → Dn → Option Dn) (gs : List PD → Dn → Option Dn) : List PD → Dn → Option Dn := fun ds ρ =>
  match ds with
  | d :: ds => match g d ρ with
    | some ρ1 => gs ds ρ1
    | none => none
  | [] => none
theorem sim_gsnil : SimGs X [] gsNil [] := by
  refine ⟨_, pgs_nil, fun F A H σ ρ vs ds ρ' Q E R hg k => ?_⟩
  cases R with
  | nil => cases hg; exact ⟨rfl, k σ E (fun _ _ => ⟨rfl, rfl⟩) (fun _ h => nomatch h) rfl⟩
  | cons _ _ => cases hg
theorem sim_gscons {t : Expr} {ts : List Expr} {g : PD → Dn → Option Dn} {gs : List PD → Dn → Option Dn} {is js : List Nat} (h1 : SimG X t g is) (h2 : SimGs X ts gs js) (hs : (assignEach (t :: ts) X.env).map (·.2) = assign t X.env :: (assignEach ts X.env).map (·.2) := by rfl) : SimGs X (t :: ts) (gsCons g gs) (is ++ js) := by
  obtain ⟨tt, pt, h1⟩ := h1
  obtain ⟨tts, pts, h2⟩ := h2
  refine ⟨_, pgs_cons pt pts hs, fun F A H σ ρ vs ds ρ' Q E R hg k => ?_⟩
  cases R with
  | nil => cases hg
  | @cons v vs d ds r rs =>
    simp only [gsCons] at hg
    cases e1 : g d ρ with
    | none => rw [e1] at hg; cases hg
    | some ρ1 =>
      rw [e1] at hg
      refine ⟨v, vs, rfl, h1 F A H σ ρ v d ρ1 _ E r e1 fun σ1 E1 n1 m1 l1 => ?_⟩
      exact h2 F A H σ1 ρ1 vs ds ρ' Q E1 rs hg fun σ2 E2 n2 m2 l2 => k σ2 E2 (fun j hj => by
        simp only [List.mem_append, not_or] at hj
        rw [(n2 j hj.2).1, (n1 j hj.1).1, (n2 j hj.2).2, (n1 j hj.1).2]
        exact ⟨rfl, rfl⟩) (fun j hj => by
        by_cases hjs : j ∈ js
        · exact m2 j hjs
        · rw [(n2 j hjs).2]
          exact m1 j ((List.mem_append.mp hj).resolve_right hjs)) (l2.trans l1)
def gTupM (gs : List PD → Dn → Option Dn) : PD → Dn → Option Dn := fun d ρ =>
  match d with
  | .tuple ds => gs ds ρ
  | _ => none
theorem sim_gtup {es : List Expr} {k : Nat} {gs : List PD → Dn → Option Dn} {is : List Nat} (hc : X.calm = true) (h : SimGs X es gs is) {n : Nat} (hl : ∀ ds ρ ρ', gs ds ρ = some ρ' → ds.length = n) (hn : (assignEach es X.env).length = n := by rfl) (hst : (assignEach es X.env).findIdx? (·.1) = none := by rfl) :
    SimG X (.Tuple es k pos) (gTupM gs) is := by
  obtain ⟨t, p, h⟩ := h
  refine ⟨_, pg_tup hc p hn hst, fun F A H σ ρ v d ρ' Q E R hg k => ?_⟩
  cases R with
  | tup e r => exact ⟨_, _, rfl, SqT.of e, by rw [r.length]; exact hl _ _ _ hg, h F A H σ ρ _ _ ρ' Q E r hg k⟩
  | _ => cases hg
end
end DP
/-! DPS: statements, loops, comprehensions. -/
namespace DP
open PySem L2
inductive Ou where
  | nx (ρ : Dn)
  | rt (r : Rv) (ρ : Dn)
  | bk (ρ : Dn)
  | ct (ρ : Dn)
  | ex (e : Exn) (ρ : Dn)
  | no
abbrev SM := Dn → Ou
def bndS {α : Type} (m : M α) (k : α → SM) : SM := fun ρ =>
  match m ρ with
  | .ok a ρ' => k a ρ'
  | .ex e ρ' => .ex e ρ'
  | .no => .no
def PstS (K : PySem.W.Frag) (mg : Str → Option Value) (W : WX) (F : Ent) (A : AS) (H : Hp) (D : Ends) : Ou → Prop
  | .nx ρ' => ∀ A' H' σ', ER K F A' H' σ' ρ' → Kp A A' H H' → D.nx σ' H'
  | .rt r ρ' => ∀ A' H' σ' v, ER K F A' H' σ' ρ' → Kp A A' H H' → RvR F F.H A' H' σ' ρ' v r → D.rt v H'
  | .bk ρ' => ∀ A' H' σ', ER K F A' H' σ' ρ' → Kp A A' H H' → D.bk σ' H'
  | .ct ρ' => ∀ A' H' σ', ER K F A' H' σ' ρ' → Kp A A' H H' → D.ct σ' H'
  | .ex e ρ' => ∀ A' H' σ' cls d, ER K F A' H' σ' ρ' → Kp A A' H H' → XR mg A' H' e cls d → W cls d σ' H'
  | .no => False
section
variable {K : PySem.W.Frag} {mg : Str → Option Value} {W : WX} {F : Ent} {A : AS} {H : Hp} {σ : L2.St} {ρ : Dn} {D : Ends} {α β : Type}
theorem Kp.refl : Kp A A H H := ⟨fun _ h => h, fun _ _ _ e => e, fun _ _ e => e⟩
theorem Kp.trans {A1 A2 : AS} {H1 H2 : Hp} (k : Kp A A1 H H1) (l : Kp A1 A2 H1 H2) : Kp A A2 H H2 := ⟨fun a h => l.sub a (k.sub a h), fun a o h e => l.obj a o (k.sub a h) (k.obj a o h e), fun a xs e => l.tup a xs (k.tup a xs e)⟩
theorem PstS.after {A1 : AS} {H1 : Hp} {o : Ou} (k : Kp A A1 H H1) (h : PstS K mg W F A H D o) : PstS K mg W F A1 H1 D o := by
  cases o with
  | nx ρ' => exact fun A' H' σ' E l => h A' H' σ' E (k.trans l)
  | rt r ρ' => exact fun A' H' σ' v E l R => h A' H' σ' v E (k.trans l) R
  | bk ρ' => exact fun A' H' σ' E l => h A' H' σ' E (k.trans l)
  | ct ρ' => exact fun A' H' σ' E l => h A' H' σ' E (k.trans l)
  | ex e ρ' => exact fun A' H' σ' c d E l R => h A' H' σ' c d E (k.trans l) R
  | no => exact h
theorem PstS.split {RR : AS → Hp → Dn → β → α → Prop} {Q1 : β → Hp → Prop} {m : M α} {k : α → SM} (E : ER K F A H σ ρ) (h : PstS K mg W F A H D (bndS m k ρ))
    (hk : ∀ a ρ1 A1 H1 b, ER K F A1 H1 σ ρ1 → Step A H σ ρ A1 H1 ρ1 → RR A1 H1 ρ1 b a → PstS K mg W F A H D (k a ρ1) → Q1 b H1) : Pst K mg W F A H σ ρ RR Q1 (m ρ) := by
  unfold bndS at h
  cases e : m ρ with
  | ok a ρ1 =>
    rw [e] at h
    exact fun A1 H1 b E S R => hk a ρ1 A1 H1 b E S R h
  | ex x ρ1 =>
    rw [e] at h
    exact fun A1 H1 cls d E1 S1 X => h A1 H1 σ cls d E1 (S1.kpr E) X
  | no => rw [e] at h; exact h
theorem PstS.rd {r : Rv} {k : PD → SM} (h : PstS K mg W F A H D (bndS (rdM r) k ρ)) : ∃ d, rd r ρ = some d ∧ PstS K mg W F A H D (k d ρ) := by
  unfold bndS rdM at h
  cases e : DP.rd r ρ with
  | none => rw [e] at h; exact h.elim
  | some d => rw [e] at h; exact ⟨d, rfl, h⟩
theorem PstS.frz {A0 : AS} {H0 : Hp} {ρ0 : Dn} {r : Rv} {v : V} {k : PD → SM} (E : ER K F A H σ ρ) (S : Step A0 H0 σ ρ0 A H ρ) (R : RvR F H0 A H σ ρ v r) (h : PstS K mg W F A0 H0 D (bndS (DP.frz r) k ρ)) :
    ∃ d A2 ρ2, ER K F A2 H σ ρ2 ∧ Step A0 H0 σ ρ0 A2 H ρ2 ∧ Rp A2 H v d ∧ PstS K mg W F A0 H0 D (k d ρ2) := by
  unfold bndS at h
  rcases frz_ok (r := r) (ρ := ρ) rfl with e | ⟨d, ρ2, e⟩
  · rw [e] at h; exact h.elim
  · rw [e] at h
    obtain ⟨A2, E2, S2, R2, _⟩ := frz_run E S R.q e
    exact ⟨d, A2, ρ2, E2, S2, R2, h⟩
theorem PstS.chk {b : Bool} {k : Unit → SM} (h : PstS K mg W F A H D (bndS (DP.chk b) k ρ)) : b = true ∧ PstS K mg W F A H D (k () ρ) := by
  unfold bndS DP.chk at h
  cases b with
  | false => exact h.elim
  | true => exact ⟨rfl, h⟩
end
def SimS (X : Cx) (W : WX) (st : Stmt) (s : SM) : Prop := ∃ t : TS, PS X st t ∧ ∀ F A H σ ρ D, ER X.K F A H σ ρ → PstS X.K X.mg W F A H D (s ρ) → t D σ H
def SimB (X : Cx) (W : WX) (st : List Stmt) (s : SM) : Prop := ∃ t : TS, PSs X st t ∧ ∀ F A H σ ρ D, ER X.K F A H σ ρ → PstS X.K X.mg W F A H D (s ρ) → t D σ H
def sNil : SM := fun ρ => .nx ρ
def sSeq (a b : SM) : SM := fun ρ =>
  match a ρ with
  | .nx ρ' => b ρ'
  | o => o
section
variable {X : Cx} {W : WX} {st : Stmt} {rest : List Stmt} {a b : SM} {e : Expr} {fe : M Rv} {gc : M Bool} {pos : Pos}
theorem sim_nil : SimB X W [] sNil := ⟨_, pss_nil, fun F A H σ ρ D E h => h A H σ E Kp.refl⟩
theorem sim_one (h : SimS X W st a) : SimB X W [st] a := by
  obtain ⟨t, p, h⟩ := h
  exact ⟨_, pss_one p, h⟩
theorem sim_seq (h1 : SimS X W st a) (h2 : SimB X W rest b) : SimB X W (st :: rest) (sSeq a b) := by
  obtain ⟨t, p, h1⟩ := h1
  obtain ⟨u, q, h2⟩ := h2
  refine ⟨_, pss_cons p q, fun F A H σ ρ D E h => h1 F A H σ ρ _ E ?_⟩
  unfold sSeq at h
  cases e1 : a ρ with
  | nx ρ' => rw [e1] at h; exact fun A' H' σ' E' k => h2 F A' H' σ' ρ' D E' (h.after k)
  | rt r ρ' => rw [e1] at h; exact h
  | bk ρ' => rw [e1] at h; exact h
  | ct ρ' => rw [e1] at h; exact h
  | ex x ρ' => rw [e1] at h; exact h
  | no => rw [e1] at h; exact h
def sPass : SM := fun ρ => .nx ρ
def sBreak : SM := fun ρ => .bk ρ
def sCont : SM := fun ρ => .ct ρ
theorem sim_pass : SimS X W (.Pass pos) sPass := ⟨_, ps_pass, fun F A H σ ρ D E h => h A H σ E Kp.refl⟩
theorem sim_break : SimS X W (.Break pos) sBreak := ⟨_, ps_break, fun F A H σ ρ D E h => h A H σ E Kp.refl⟩
theorem sim_cont : SimS X W (.Continue pos) sCont := ⟨_, ps_continue, fun F A H σ ρ D E h => h A H σ E Kp.refl⟩
def sRet (f : M Rv) : SM := bndS f fun r ρ => .rt r ρ
theorem ER.lives {K : PySem.W.Frag} {F : Ent} {A : AS} {H : Hp} {σ : L2.St} {ρ : Dn} (E : ER K F A H σ ρ) : ∀ b, H b = none → F.H b = none := fun b e => E.fnone e
theorem sim_ret (h : SimE X W e fe) : SimS X W (.Return (some e) pos) (sRet fe) := by
  obtain ⟨t, p, h⟩ := h
  refine ⟨_, ps_ret p, fun F A H σ ρ D E hs => ?_⟩
  refine h F A H σ ρ E D.rt (PstS.split E hs fun r ρ1 A1 H1 v E1 S1 R1 h1 => ?_)
  exact h1 A1 H1 σ v E1 (S1.kpr E) (RvR.back E.lives R1)
def sRetN : SM := fun ρ => .rt (.val .none) ρ
theorem sim_retN : SimS X W (.Return none pos) sRetN := ⟨_, ps_retN, fun F A H σ ρ D E h => h A H σ .non E Kp.refl .non⟩
def sExpr (f : M Rv) : SM := bndS f fun _ ρ => .nx ρ
theorem sim_expr (h : SimE X W e fe) (hs : swapsWith e none pos.line X.env = pure false := by rfl) : SimS X W (.Expr e pos) (sExpr fe) := by
  obtain ⟨t, p, h⟩ := h
  refine ⟨_, ps_expr p hs, fun F A H σ ρ D E hs => ?_⟩
  exact h F A H σ ρ E _ (PstS.split E hs fun r ρ1 A1 H1 v E1 S1 R1 h1 => h1 A1 H1 σ E1 (S1.kpr E))
def sIf (c : M Bool) (a b : SM) : SM := bndS c fun k => if k = true then a else b
theorem sim_if {c : Expr} {sa sb : List Stmt} (hc : SimT X W c gc) (ha : SimB X W sa a) (hb : SimB X W sb b) : SimS X W (.If c sa sb pos) (sIf gc a b) := by
  obtain ⟨tc, pc, hc⟩ := hc
  obtain ⟨ta, pa, ha⟩ := ha
  obtain ⟨tb, pb, hb⟩ := hb
  refine ⟨_, ps_if pc pa pb, fun F A H σ ρ D E h => ?_⟩
  refine hc F A H σ ρ E _ (PstS.split (RR := RT) E h fun k ρ1 A1 H1 k' E1 S1 R1 h1 => ?_)
  cases R1
  cases k with
  | true => exact ha F A1 H1 σ ρ1 D E1 (h1.after (S1.kpr E))
  | false => exact hb F A1 H1 σ ρ1 D E1 (h1.after (S1.kpr E))
/-- a store of a value on the way to a slot -/
def putR (i : Nat) (r : Rv) : SM := fun ρ =>
  if freeSl ρ i = true then
    match r with
    | .val d => .nx (ρ.set i (some (.imm d)))
    | .fresh d => .nx (ρ.set i (some (.own false d)))
    | .slot j => match ρ[j]? with
      | some (some (.imm d)) => .nx (ρ.set i (some (.imm d)))
      | some (some (.own false d)) => .nx ((ρ.set j (some (.imm d))).set i (some (.imm d)))
      | _ => .no
  else .no
theorem putR_run {K : PySem.W.Frag} {mg : Str → Option Value} {F : Ent} {Z : Hp} {A : AS} {H : Hp} {σ : L2.St} {ρ : Dn} {v : V} {r : Rv} {i : Nat} {D : Ends} {A0 : AS} {H0 : Hp} (k : Kp A0 A H0 H) (E : ER K F A H σ ρ) (R : RvR F Z A H σ ρ v r) (h : PstS K mg W F A0 H0 D (putR i r ρ)) : D.nx (σ.set i (some v)) H := by
  unfold putR at h
  split at h
  · rename_i hf
    cases r with
    | val d => exact h A H _ (E.setImm hf R) k
    | fresh d =>
      obtain ⟨p, rfl, ⟨h1, h2, h3, _⟩, h4⟩ := R
      exact h A H _ (E.setOwn hf h1 h2 h3 h4) k
    | slot j =>
      obtain ⟨e1, s, e2⟩ := R
      simp only [e2] at h
      obtain ⟨v', e3, r⟩ := E.slot j s e2
      rw [e1] at e3
      cases e3
      cases s with
      | imm d => exact h A H _ (E.setImm hf r) k
      | own b d =>
        cases b with
        | true => exact h.elim
        | false =>
          obtain ⟨p, rfl, _⟩ := r
          obtain ⟨E2, S2, R2⟩ := E.freezeSlot e2 e1
          refine h (plus A p) H _ (E2.setImm ?_ R2) (k.trans Kp.plus)
          unfold freeSl at hf ⊢
          by_cases hj : j = i
          · subst hj
            rw [get_set_self (by exact (List.getElem?_eq_some_iff.mp e2).1)]
          · rw [get_set_ne hj]
            exact hf
      | scr ns => exact h.elim
  · exact h.elim
def sSet (i : Nat) (f : M Rv) : SM := bndS f fun r => putR i r
theorem sim_set {i : Nat} {x : Str} {pos' : Pos} (hN : X.N.Nodup) (hi : X.N[i]? = some x) (hx : Loc X.env.scope x) (h : SimE X W e fe) (hs : swapsWith e (some (.Name x pos')) pos.line X.env = pure false := by rfl) (hf : X.fn x = true ∨ X.env.scope.names.lookup x = some .local := by first | exact .inl rfl | exact .inr rfl | assumption) :
    SimS X W (.Assign [.Name x pos'] e pos) (sSet i fe) := by
  obtain ⟨t, p, h⟩ := h
  refine ⟨_, ps_set hN hi hx p hs hf, fun F A H σ ρ D E h1 => ?_⟩
  exact h F A H σ ρ E _ (PstS.split E h1 fun r ρ1 A1 H1 v E1 S1 R1 h2 => putR_run (S1.kpr E) E1 R1 h2)
/-- a target of another form -/
def sAsg (f : M Rv) (g : PD → Dn → Option Dn) : SM := bndS f fun r => bndS (frz r) fun d ρ =>
  match g d ρ with
  | some ρ' => .nx ρ'
  | none => .no
theorem sim_asg {tg : Expr} {g : PD → Dn → Option Dn} {is : List Nat} (he : SimE X W e fe) (hg : SimG X tg g is) (hs : swapsWithSole [tg] e pos.line X.env = pure false := by rfl) (hw : swappedStores [tg] e X.env = pure none := by rfl)
    (h1 : (assignEach [tg] X.env).map (·.2) = [assign tg X.env] := by rfl) : SimS X W (.Assign [tg] e pos) (sAsg fe g) := by
  obtain ⟨t, p, h⟩ := he
  obtain ⟨u, q, hg⟩ := hg
  refine ⟨_, ps_asg p q hs hw h1, fun F A H σ ρ D E h1 => ?_⟩
  refine h F A H σ ρ E _ (PstS.split E h1 fun r ρ1 A1 H1 v E1 S1 R1 h2 => ?_)
  obtain ⟨d, A2, ρ2, E2, S2, R2, h3⟩ := h2.frz E1 S1 R1
  cases eg : g d ρ2 with
  | none => rw [eg] at h3; exact h3.elim
  | some ρ3 =>
    rw [eg] at h3
    exact hg F A2 H1 σ ρ2 v d ρ3 _ E2 R2 eg fun σ' E' _ _ _ => h3 A2 H1 σ' E' (S2.kpr E)
/-! loops -/
def ItR (A : AS) (H : Hp) (J : It) (ds : List PD) : Prop := ∀ A' H', Kp A A' H H' → (∀ a, A' a → H' a ≠ none) → J.stop ds.length H' ∧ ∀ i d, ds[i]? = some d → J.go i H' ∧ ∀ x H'', J.yld i H' x H'' → (∀ b o, H' b = some o → H'' b = some o) ∧ Rp A' H'' x d
def SimI (X : Cx) (W : WX) (tg iter : Expr) (it : M (List PD)) : Prop := ∃ w : TI, PI X tg iter w ∧ ∀ F A H σ ρ, ER X.K F A H σ ρ → ∀ R : It → Hp → Prop, Pst X.K X.mg W F A H σ ρ (fun A' H' _ J ds => ItR A' H' J ds) R (it ρ) → w σ H R
def forL (g : PD → Dn → Option Dn) (body : SM) : List PD → SM
  | [] => fun ρ => .nx ρ
  | d :: ds => fun ρ =>
    match g d ρ with
    | none => .no
    | some ρ1 => match body ρ1 with
      | .nx ρ2 => forL g body ds ρ2
      | .ct ρ2 => forL g body ds ρ2
      | .bk ρ2 => .nx ρ2
      | .rt r ρ2 => .rt r ρ2
      | .ex x ρ2 => .ex x ρ2
      | .no => .no
def sFor (it : M (List PD)) (g : PD → Dn → Option Dn) (body : SM) : SM := bndS it fun ds => forL g body ds
end
end DP
/-! DPT: loops, iterators, comprehensions, stores into things. -/
namespace DP
open PySem L2
section
variable {X : Cx} {W : WX} {e tg iter : Expr} {body : List Stmt} {fe : M Rv} {gc : M Bool} {b : SM} {it : M (List PD)} {g : PD → Dn → Option Dn} {is : List Nat} {pos : Pos}
theorem ItR.kp {A A' : AS} {H H' : Hp} {J : It} {ds : List PD} (k : Kp A A' H H') (h : ItR A H J ds) : ItR A' H' J ds := fun A2 H2 k2 d => h A2 H2 (k.trans k2) d
theorem sim_for (hp : PassesOwn (model X.prog X.w) X.A X.env X.xe) (hc : X.calm = true) (hi : SimI X W tg iter it) (hg : SimG X tg g is) (hb : SimB X W body b) (hs : ∀ x, foldedSetIterable iter X.env x = pure x := by intro _; rfl) : SimS X W (.For tg iter body [] pos) (sFor it g b) := by
  obtain ⟨w, pi, hi⟩ := hi
  obtain ⟨tg', pg, hg⟩ := hg
  obtain ⟨tb, pb, hb⟩ := hb
  refine ⟨_, ps_for hp hc pi pg pb hs, fun F A H σ ρ D E h => ?_⟩
  refine hi F A H σ ρ E _ (PstS.split (RR := fun A' H' _ J ds => ItR A' H' J ds) E h fun ds ρ1 A1 H1 J E1 S1 I1 h1 => ?_)
  refine ⟨fun i m σ' H' => m = ds.length - i ∧ i ≤ ds.length ∧ ∃ A' ρ', ER X.K F A' H' σ' ρ' ∧ Kp A1 A' H1 H' ∧ PstS X.K X.mg W F A' H' D (forL g b (ds.drop i) ρ'), ⟨ds.length, by simp, Nat.zero_le _, A1, ρ1, E1, Kp.refl, by simpa using h1.after (S1.kpr E)⟩, ?_⟩
  rintro i m σ2 H2 ⟨rfl, hi2, A2, ρ2, E2, k2, h2⟩
  obtain ⟨hstop, hgo⟩ := (I1.kp k2) A2 H2 Kp.refl E2.dom
  by_cases hlt : i < ds.length
  · have hd : ds[i]? = some ds[i] := by simp [hlt]
    obtain ⟨go, yld⟩ := hgo i _ hd
    have hdrop : ds.drop i = ds[i] :: ds.drop (i + 1) := List.drop_eq_getElem_cons hlt
    rw [hdrop] at h2
    simp only [forL] at h2
    refine .inr ⟨go, fun σ' H' => ∃ A' ρ', ER X.K F A' H' σ' ρ' ∧ Kp A1 A' H1 H' ∧ PstS X.K X.mg W F A' H' D (forL g b (ds.drop (i + 1)) ρ'), fun σ' H' ⟨A', ρ', x, y, z⟩ => ⟨ds.length - (i + 1), by omega, rfl, hlt, A', ρ', x, y, z⟩, fun x H3 y3 => ?_⟩
    obtain ⟨k3, r3⟩ := yld x H3 y3
    have E3 := E2.ext k3
    cases eg : g ds[i] ρ2 with
    | none => rw [eg] at h2; exact h2.elim
    | some ρ3 =>
      rw [eg] at h2
      dsimp only at h2
      refine hg F A2 H3 σ2 ρ2 x ds[i] ρ3 _ E3 r3 eg fun σ3 E4 _ _ _ => ?_
      have kk : Kp A2 A2 H2 H3 := Kp.ext k3
      have h4 := PstS.after kk h2
      refine hb F A2 H3 σ3 ρ3 _ E4 ?_
      cases eb : b ρ3 with
      | nx ρ4 =>
        rw [eb] at h4
        exact fun A' H' σ' E' l => ⟨A', ρ4, E', (k2.trans kk).trans l, PstS.after l h4⟩
      | ct ρ4 =>
        rw [eb] at h4
        exact fun A' H' σ' E' l => ⟨A', ρ4, E', (k2.trans kk).trans l, PstS.after l h4⟩
      | bk ρ4 => rw [eb] at h4; exact h4
      | rt r ρ4 => rw [eb] at h4; exact h4
      | ex x ρ4 => rw [eb] at h4; exact h4
      | no => rw [eb] at h4; exact h4
  · have e : i = ds.length := by omega
    subst e
    refine .inl ⟨hstop, ?_⟩
    rw [List.drop_length] at h2
    exact h2 A2 H2 σ2 E2 Kp.refl
/-! while -/
def whL (c : M Bool) (body : SM) : Nat → SM
  | 0 => fun _ => .no
  | n + 1 => fun ρ =>
    match c ρ with
    | .no => .no
    | .ex e ρ1 => .ex e ρ1
    | .ok false ρ1 => .nx ρ1
    | .ok true ρ1 => match body ρ1 with
      | .nx ρ2 => whL c body n ρ2
      | .ct ρ2 => whL c body n ρ2
      | .bk ρ2 => .nx ρ2
      | .rt r ρ2 => .rt r ρ2
      | .ex x ρ2 => .ex x ρ2
      | .no => .no
theorem sim_while (n : Nat) {c : Expr} (hp : PassesOwn (model X.prog X.w) X.A X.env X.xe) (hc : SimT X W c gc) (hb : SimB X W body b) : SimS X W (.While c body [] pos) (whL gc b n) := by
  obtain ⟨tc, pc, hc⟩ := hc
  obtain ⟨tb, pb, hb⟩ := hb
  refine ⟨_, ps_while hp pc pb, fun F A H σ ρ D E h => ?_⟩
  refine ⟨fun m σ' H' => ∃ A' ρ', ER X.K F A' H' σ' ρ' ∧ PstS X.K X.mg W F A' H' D (whL gc b m ρ'), ⟨n, A, ρ, E, h⟩, ?_⟩
  rintro m σ1 H1 ⟨A1, ρ1, E1, h1⟩
  cases m with
  | zero => exact h1.elim
  | succ m =>
    simp only [whL] at h1
    refine hc F A1 H1 σ1 ρ1 E1 _ ?_
    cases ec : gc ρ1 with
    | no => rw [ec] at h1; exact h1.elim
    | ex x ρ2 =>
      rw [ec] at h1
      exact fun A' H' cls d E' S' R' => h1 A' H' σ1 cls d E' (S'.kpr E1) R'
    | ok k ρ2 =>
      rw [ec] at h1
      intro A2 H2 k' E2 S2 R2
      cases R2
      have h2 := PstS.after (S2.kpr E1) h1
      cases k with
      | false => exact h2 A2 H2 σ1 E2 Kp.refl
      | true =>
        refine ⟨fun σ' H' => ∃ A' ρ', ER X.K F A' H' σ' ρ' ∧ PstS X.K X.mg W F A' H' D (whL gc b m ρ'), fun σ' H' z => ⟨m, Nat.lt_succ_self m, z⟩, ?_⟩
        refine hb F A2 H2 σ1 ρ2 _ E2 ?_
        simp only at h2
        cases eb : b ρ2 with
        | nx ρ4 =>
          rw [eb] at h2
          exact fun A' H' σ' E' l => ⟨A', ρ4, E', PstS.after l h2⟩
        | ct ρ4 =>
          rw [eb] at h2
          exact fun A' H' σ' E' l => ⟨A', ρ4, E', PstS.after l h2⟩
        | bk ρ4 => rw [eb] at h2; exact h2
        | rt r ρ4 => rw [eb] at h2; exact h2
        | ex x ρ4 => rw [eb] at h2; exact h2
        | no => rw [eb] at h2; exact h2
end
/-! ### what is walked -/
section
variable {X : Cx} {W : WX} {e tg : Expr} {fe : M Rv} {pos : Pos}
theorem It_list {K : PySem.W.Frag} {A : AS} {H : Hp} {a : Addr} {xs : List V} {ds : List PD} (ha : A a) (h : H a = some (.lst xs)) (r : RpAll A H xs ds) : ItR A H (Itl K a) ds := by
  intro A' H' k d
  have h' : Rd H' a (.lst xs) := .inl (k.obj _ _ ha h)
  have r' := r.kp k
  refine ⟨⟨xs, .inl h', by rw [r.length]; exact Nat.le_refl _⟩, fun i d hd => ?_⟩
  obtain ⟨x, e, rx⟩ : ∃ x, xs[i]? = some x ∧ Rp A' H' x d := RpAll.get r' hd
  exact ⟨⟨xs, x, .inl h', e⟩, fun y H'' ⟨e2, y2⟩ => by
    subst e2
    have := y2 xs (.inl h')
    rw [e] at this
    cases this
    exact ⟨fun _ _ z => z, rx⟩⟩
theorem It_tup {K : PySem.W.Frag} {A : AS} {H : Hp} {a : Addr} {xs : List V} {ds : List PD} (h : H a = some (.tup xs)) (r : RpAll A H xs ds) : ItR A H (Itt K a) ds := by
  intro A' H' k d
  have h' := k.tup _ _ h
  have r' := r.kp k
  refine ⟨⟨xs, SqT.of h', by rw [r.length]; exact Nat.le_refl _⟩, fun i d hd => ?_⟩
  obtain ⟨x, e, rx⟩ : ∃ x, xs[i]? = some x ∧ Rp A' H' x d := RpAll.get r' hd
  exact ⟨⟨xs, x, SqT.of h', e⟩, fun y H'' ⟨e2, y2⟩ => by
    subst e2
    have := y2 xs (SqT.of h')
    rw [e] at this
    cases this
    exact ⟨fun _ _ z => z, rx⟩⟩
theorem It_rng {A : AS} {H : Hp} (lo : Int) (n : Nat) : ItR A H (Itr lo n) (List.map (fun (i : Nat) => PyData.int (lo + (i : Int))) (List.range n)) := by
  intro A' H' k d
  refine ⟨by show n ≤ _; simp, fun i d hd => ?_⟩
  rw [List.getElem?_map] at hd
  cases e : (List.range n)[i]? with
  | none => rw [e] at hd; cases hd
  | some j =>
    rw [e] at hd
    cases hd
    obtain ⟨h1, h2⟩ := List.getElem?_eq_some_iff.mp e
    have h3 : i < n := by simpa using h1
    have h4 : i = j := by simpa using h2
    subst h4
    exact ⟨h3, fun y H'' ⟨e1, e2⟩ => by subst e1 e2; exact ⟨fun _ _ z => z, .int _⟩⟩
/-- a list or a tuple, walked -/
def iSeq (K : PySem.W.Frag) (te : TE) : TI := fun σ H R => te σ H fun x H1 => ∃ a, x = .ref a ∧ (((∃ xs, SqL K H1 a xs) ∧ R (Itl K a) H1) ∨ ((∃ xs, SqT K H1 a xs) ∧ R (Itt K a) H1))
theorem pi_seq {l : Expr} {tl : TE} (hl : PE X l tl) : PI X tg l (iSeq X.K tl) := by
  refine ⟨fun pins s σ H R I h => ?_⟩
  refine thn (hl.run pins s σ H _ I h) fun v s1 ⟨x, H1, I1, r1, q1⟩ => ?_
  obtain ⟨a, e, q⟩ := q1
  subst e
  cases r1
  rcases q with ⟨⟨xs, hq⟩, q⟩ | ⟨⟨xs, hq⟩, q⟩
  · obtain ⟨its, rv, p, hz⟩ := I1.list hq
    refine wpAny_pyIter_list p.isList ?_
    refine ⟨s1.heap.objs.size, [s1.heap.objs.size], _, _, H1, rfl, I1.kept (t' := s1.toks) fun b o e => Heap.get?_push_of_some _ e, turn_list a _, ⟨_, Heap.get?_push_size _ rfl, rfl, rfl⟩, fun b hb => ?_, q⟩
    have e : b = s1.heap.objs.size := by simpa using hb
    subst e
    exact I1.fpOk (Nat.le_refl _) (I1.hok.fresh (Nat.le_refl _))
  · obtain ⟨its, rv, p, hz⟩ := I1.tuple hq
    refine wpAny_pyIter_tuple (show s1.heap.IsTuple a its.toArray from p) ?_
    refine ⟨s1.heap.objs.size, [s1.heap.objs.size], _, _, H1, rfl, I1.kept (t' := s1.toks) fun b o e => Heap.get?_push_of_some _ e, turn_tuple a _, ⟨_, Heap.get?_push_size _ rfl, rfl, rfl⟩, fun b hb => ?_, q⟩
    have e : b = s1.heap.objs.size := by simpa using hb
    subst e
    exact I1.fpOk (Nat.le_refl _) (I1.hok.fresh (Nat.le_refl _))
/-- the items of a list or a tuple -/
def itemsOf : PD → M (List PD)
  | .list ds => retM ds
  | .tuple ds => retM ds
  | _ => noM
def iSeqM (f : M Rv) : M (List PD) := bnd f fun r => bnd (frz r) itemsOf
theorem sim_iseq (h : SimE X W e fe) : SimI X W tg e (iSeqM fe) := by
  obtain ⟨t, p, h⟩ := h
  refine ⟨_, pi_seq p, fun F A H σ ρ E R hp => ?_⟩
  refine h F A H σ ρ E _ (hp.split fun r ρ1 A1 H1 v E1 S1 R1 h1 => ?_)
  obtain ⟨d, A2, ρ2, E2, S2, R2, h2⟩ := h1.frz E1 S1 R1
  cases R2 with
  | lst ha hr r => exact ⟨_, rfl, .inl ⟨⟨_, SqL.of hr⟩, h2 A2 H1 _ E2 S2 (It_list ha hr r)⟩⟩
  | tup ht r => exact ⟨_, rfl, .inr ⟨⟨_, SqT.of ht⟩, h2 A2 H1 _ E2 S2 (It_tup ht r)⟩⟩
  | non => exact h2.elim
  | bl b => exact h2.elim
  | int b => exact h2.elim
  | str b => exact h2.elim
  | dic _ _ _ => exact h2.elim
def rngL (lo : Int) (n : Nat) : List PD := List.map (fun (i : Nat) => PyData.int (lo + (i : Int))) (List.range n)
def in62 (i : Int) : Bool := decide (-(2 ^ 62) ≤ i ∧ i < 2 ^ 62)
def rng1 : List PD → M (List PD)
  | [.int j] => bnd (chk (in62 j)) fun _ => retM (rngL 0 j.toNat)
  | _ => noM
def rng2 : List PD → M (List PD)
  | [.int i, .int j] => bnd (chk (in62 i && in62 j)) fun _ => retM (rngL i (j - i).toNat)
  | _ => noM
def iRng1M (f : M (List Rv)) : M (List PD) := bnd f fun rs => bnd (rdsM rs) rng1
def iRng2M (f : M (List Rv)) : M (List PD) := bnd f fun rs => bnd (rdsM rs) rng2
theorem Rts.one {A : AS} {H : Hp} {vs : List V} {d : PD} (h : Rts A H vs [d]) : ∃ v, vs = [v] ∧ Rt A H v d := by
  cases h with
  | cons r h => cases h; exact ⟨_, rfl, r⟩
theorem Rts.two {A : AS} {H : Hp} {vs : List V} {d d' : PD} (h : Rts A H vs [d, d']) : ∃ v w, vs = [v, w] ∧ Rt A H v d ∧ Rt A H w d' := by
  cases h with
  | cons r h =>
    obtain ⟨w, rfl, q⟩ := h.one
    exact ⟨_, w, rfl, r, q⟩
theorem sim_irng1 {a : Expr} {fs : M (List Rv)} {p pos : Pos} (hg : Gl X "range") (hm : X.mg "range" = none) (ha : SimA X W [a] fs) (hs : starEach [a] X.env = [(false, eval a X.env)] := by rfl) : SimI X W tg (.Call (.Name "range" p) [a] [] pos) (iRng1M fs) := by
  obtain ⟨t, pa, h⟩ := ha
  refine ⟨_, pi_range1 hg hm pa hs, fun F A H σ ρ E R hp => ?_⟩
  refine h F A H σ ρ E _ (hp.split fun r ρ1 A1 H1 vs E1 S1 R1 h1 => ?_)
  obtain ⟨ds, e1, h2⟩ := h1.rds
  have hr := RvRs.rts E1 R1 e1
  match ds, h2, hr with
  | [.int j], h2, hr =>
    obtain ⟨v, rfl, r⟩ := hr.one
    obtain ⟨hb, h3⟩ := Pst.chk h2
    have hb' := of_decide_eq_true hb
    refine ⟨j, by rw [r.int], hb'.1, hb'.2, h3 A1 H1 _ E1 S1 (It_rng 0 _)⟩
theorem sim_irng2 {a b : Expr} {fs : M (List Rv)} {p pos : Pos} (hg : Gl X "range") (hm : X.mg "range" = none) (ha : SimA X W [a, b] fs) (hs : starEach [a, b] X.env = [(false, eval a X.env), (false, eval b X.env)] := by rfl) (hs2 : starEach [b] X.env = [(false, eval b X.env)] := by rfl) : SimI X W tg (.Call (.Name "range" p) [a, b] [] pos) (iRng2M fs) := by
  obtain ⟨t, pa, h⟩ := ha
  refine ⟨_, pi_range2 hg hm pa hs hs2, fun F A H σ ρ E R hp => ?_⟩
  refine h F A H σ ρ E _ (hp.split fun r ρ1 A1 H1 vs E1 S1 R1 h1 => ?_)
  obtain ⟨ds, e1, h2⟩ := h1.rds
  have hr := RvRs.rts E1 R1 e1
  match ds, h2, hr with
  | [.int i, .int j], h2, hr =>
    obtain ⟨v, w, rfl, r, q⟩ := hr.two
    obtain ⟨hb, h3⟩ := Pst.chk h2
    have hb' := (Bool.and_eq_true_iff.mp hb)
    have h5 := of_decide_eq_true hb'.1
    have h6 := of_decide_eq_true hb'.2
    exact ⟨i, j, by rw [r.int, q.int], ⟨h5.1, h5.2, h6.1, h6.2⟩, h3 A1 H1 _ E1 S1 (It_rng i _)⟩
end
end DP
/-! DPU: list comprehensions. -/
namespace DP
open PySem L2
/-- as Step, where the slots may change too; what stood in the slots vs is left aside -/
structure StepV (vs : List Nat) (A : AS) (H : Hp) (σ : L2.St) (ρ : Dn) (A' : AS) (H' : Hp) (σ' : L2.St) (ρ' : Dn) : Prop where
  kp : ∀ b o, H b = some o → ¬ Ow σ ρ b → H' b = some o
  mono : ∀ a, A a → A' a
  grow : ∀ a, A' a → A a ∨ H a = none ∨ Ow σ ρ a
  sub : ∀ p, Ow σ' ρ' p → Ow σ ρ p
  def_ : ∀ (i : Nat) (s : Sl), i ∉ vs → ρ[i]? = some (some s) → ∃ s', ρ'[i]? = some (some s')
  live : ∀ b, H' b = none → H b = none
  len : ρ'.length = ρ.length
section
variable {vs : List Nat} {K : PySem.W.Frag} {F : Ent} {A A' A'' : AS} {H H' H'' : Hp} {σ σ' σ'' : L2.St} {ρ ρ' ρ'' : Dn}
theorem Step.v (s : Step A H σ ρ A' H' ρ') : StepV vs A H σ ρ A' H' σ ρ' := ⟨s.kp, s.mono, s.grow, s.sub, fun i sl _ h => s.def_ i sl h, s.live, s.len⟩
theorem StepV.trans (s : StepV vs A H σ ρ A' H' σ' ρ') (t : StepV vs A' H' σ' ρ' A'' H'' σ'' ρ'') : StepV vs A H σ ρ A'' H'' σ'' ρ'' := by
  refine ⟨fun b o h n => t.kp b o (s.kp b o h n) fun z => n (s.sub b z), fun a h => t.mono a (s.mono a h), fun a h => ?_, fun p h => s.sub p (t.sub p h), fun i sl hi h => ?_, fun b h => s.live b (t.live b h), t.len.trans s.len⟩
  · rcases t.grow a h with h1 | h1 | h1
    · exact s.grow a h1
    · exact .inr (.inl (s.live a h1))
    · exact .inr (.inr (s.sub a h1))
  · obtain ⟨s', h'⟩ := s.def_ i sl hi h
    exact t.def_ i s' hi h'
theorem StepV.kpr (s : StepV vs A H σ ρ A' H' σ' ρ') (E : ER K F A H σ ρ) : Kp A A' H H' :=
  ⟨s.mono, fun a o ha e => s.kp a o e (E.notOw ha), fun a xs e => s.kp a _ e fun z => by
    have := (E.ow z).2
    rw [e] at this
    exact this⟩
def wipeD (ρ : Dn) : List Nat → Dn
  | [] => ρ
  | v :: vs => (wipeD ρ vs).set v none
theorem wipeD_len (ρ : Dn) : ∀ vs : List Nat, (wipeD ρ vs).length = ρ.length
  | [] => rfl
  | v :: vs => by unfold wipeD; rw [List.length_set, wipeD_len ρ vs]
theorem wipeD_out {i : Nat} : ∀ {vs : List Nat}, i ∉ vs → (wipeD ρ vs)[i]? = ρ[i]?
  | [], _ => rfl
  | v :: vs, h => by
    simp only [List.mem_cons, not_or] at h
    unfold wipeD
    rw [List.getElem?_set_ne (fun e => h.1 e.symm), wipeD_out h.2]
theorem wipeD_in {i : Nat} {s : Sl} : ∀ {vs : List Nat}, i ∈ vs → (wipeD ρ vs)[i]? ≠ some (some s)
  | v :: vs, h => by
    unfold wipeD
    by_cases e : v = i
    · subst e
      by_cases hl : v < (wipeD ρ vs).length
      · rw [List.getElem?_set_self hl]; intro z; cases z
      · rw [List.getElem?_eq_none (by simpa using hl)]; intro z; cases z
    · rw [List.getElem?_set_ne e]
      rcases List.mem_cons.mp h with h | h
      · exact absurd h.symm e
      · exact wipeD_in h
theorem wipe_out {i : Nat} : ∀ {vs : List Nat}, i ∉ vs → (wipe σ vs)[i]? = σ[i]?
  | [], _ => rfl
  | v :: vs, h => by
    simp only [List.mem_cons, not_or] at h
    unfold wipe
    rw [List.getElem?_set_ne (fun e => h.1 e.symm), wipe_out h.2]
theorem ER.wipe (E : ER K F A H σ ρ) (hq : ∀ q ∈ F.ins, q.1 ∉ vs) : ER K F A H (wipe σ vs) (wipeD ρ vs) := by
  have key : ∀ {i : Nat} {s : Sl}, (wipeD ρ vs)[i]? = some (some s) → i ∉ vs ∧ ρ[i]? = some (some s) := fun {i s} e => by
    by_cases hi : i ∈ vs
    · exact absurd e (wipeD_in hi)
    · exact ⟨hi, by rw [← wipeD_out hi]; exact e⟩
  refine ⟨by rw [wipe_length, wipeD_len, E.len], fun i s e => ?_, fun i j b b' d d' p e1 e2 e3 e4 => ?_, E.dom, E.kp, E.mono, E.grow, fun i b d p e1 e2 => ?_, E.FS, fun q h => ?_⟩
  · obtain ⟨hi, e1⟩ := key e
    obtain ⟨v, e2, r⟩ := E.slot i s e1
    exact ⟨v, by rw [wipe_out hi]; exact e2, r⟩
  · obtain ⟨hi, f1⟩ := key e1
    obtain ⟨hj, f2⟩ := key e2
    rw [wipe_out hi] at e3
    rw [wipe_out hj] at e4
    exact E.dist i j b b' d d' p f1 f2 e3 e4
  · obtain ⟨hi, f1⟩ := key e1
    rw [wipe_out hi] at e2
    exact E.ownF i b d p f1 e2
  · obtain ⟨e1, d, e2⟩ := E.ins q h
    exact ⟨by rw [wipe_out (hq q h)]; exact e1, d, by rw [wipeD_out (hq q h)]; exact e2⟩
theorem wipe_ow {p : Addr} (h : Ow (wipe σ vs) (wipeD ρ vs) p) : Ow σ ρ p := by
  obtain ⟨i, b, d, e1, e2⟩ := h
  by_cases hi : i ∈ vs
  · exact absurd e1 (wipeD_in hi)
  · exact ⟨i, b, d, by rw [← wipeD_out hi]; exact e1, by rw [← wipe_out hi]; exact e2⟩
theorem StepV.wipe : StepV vs A H σ ρ A H (wipe σ vs) (wipeD ρ vs) :=
  ⟨fun _ _ e _ => e, fun _ h => h, fun _ h => .inl h, fun p h => wipe_ow h, fun i s hi e => ⟨s, by rw [wipeD_out hi]; exact e⟩, fun _ e => e, wipeD_len ρ vs⟩
theorem wipe_eq (h : ∀ j, j ∉ vs → σ'[j]? = σ[j]?) (hl : σ'.length = σ.length) : L2.wipe σ' vs = L2.wipe σ vs := by
  have inn : ∀ (τ : L2.St) (vs : List Nat) (i : Nat), i ∈ vs → i < τ.length → (L2.wipe τ vs)[i]? = some none := by
    intro τ vs
    induction vs with
    | nil => intro i h; cases h
    | cons v vs ih =>
      intro i h hlt
      unfold L2.wipe
      by_cases e : v = i
      · subst e
        rw [List.getElem?_set_self (by rw [wipe_length]; exact hlt)]
      · rw [List.getElem?_set_ne e]
        rcases List.mem_cons.mp h with h | h
        · exact absurd h.symm e
        · exact ih i h hlt
  apply List.ext_getElem?
  intro i
  by_cases hi : i ∈ vs
  · by_cases hlt : i < σ.length
    · rw [inn σ' vs i hi (by rw [hl]; exact hlt), inn σ vs i hi hlt]
    · rw [List.getElem?_eq_none (by rw [wipe_length, hl]; omega), List.getElem?_eq_none (by rw [wipe_length]; omega)]
  · rw [wipe_out hi, wipe_out hi, h i hi]
theorem wipe_wipe : L2.wipe (L2.wipe σ vs) vs = L2.wipe σ vs := wipe_eq (fun j hj => wipe_out hj) (wipe_length _ _)
def okW (ρ : Dn) (vs : List Nat) : Bool := vs.all fun v =>
  match ρ[v]? with
  | some none => true
  | some (some (.imm _)) => true
  | _ => false
/-- the slots vs as they stood -/
def backD (ρ ρ' : Dn) : List Nat → Dn
  | [] => ρ'
  | v :: vs => (backD ρ ρ' vs).set v (ρ[v]?.join)
theorem backD_out {i : Nat} : ∀ {vs : List Nat}, i ∉ vs → (backD ρ ρ' vs)[i]? = ρ'[i]?
  | [], _ => rfl
  | v :: vs, h => by
    simp only [List.mem_cons, not_or] at h
    unfold backD
    rw [List.getElem?_set_ne (fun e => h.1 e.symm), backD_out h.2]
theorem backD_len : ∀ vs : List Nat, (backD ρ ρ' vs).length = ρ'.length
  | [] => rfl
  | v :: vs => by unfold backD; rw [List.length_set, backD_len vs]
theorem backD_in {i : Nat} (hl : i < ρ'.length) : ∀ {vs : List Nat}, i ∈ vs → (backD ρ ρ' vs)[i]? = some (ρ[i]?.join)
  | v :: vs, h => by
    unfold backD
    by_cases e : v = i
    · subst e
      rw [List.getElem?_set_self (by rw [backD_len]; exact hl)]
    · rw [List.getElem?_set_ne e]
      rcases List.mem_cons.mp h with h | h
      · exact absurd h.symm e
      · exact backD_in hl h
theorem join_get {i : Nat} {s : Sl} (h : ρ[i]?.join = some s) : ρ[i]? = some (some s) := by
  cases e : ρ[i]? with
  | none => rw [e] at h; cases h
  | some o => rw [e] at h; cases o with
    | none => cases h
    | some t => cases h; rfl
theorem okW_get {i : Nat} {s : Sl} (h : okW ρ vs = true) (hi : i ∈ vs) (e : ρ[i]? = some (some s)) : ∃ d, s = .imm d := by
  have := List.all_eq_true.mp h i hi
  rw [e] at this
  cases s with
  | imm d => exact ⟨d, rfl⟩
  | own b d => cases this
  | scr ns => cases this
theorem ER.back (E : ER K F A H σ ρ) (hk : okW ρ vs = true) (E' : ER K F A' H' (L2.wipe σ vs) ρ') (k : Kp A A' H H') (hw : ∀ i s, i ∈ vs → ρ'[i]? ≠ some (some s)) (hl : ρ'.length = ρ.length) : ER K F A' H' σ (backD ρ ρ' vs) := by
  have key : ∀ {i : Nat} {s : Sl}, (backD ρ ρ' vs)[i]? = some (some s) → (i ∈ vs ∧ ρ[i]? = some (some s)) ∨ (i ∉ vs ∧ ρ'[i]? = some (some s)) := fun {i s} e => by
    by_cases hi : i ∈ vs
    · left
      have hlt : i < ρ'.length := by
        have := (List.getElem?_eq_some_iff.mp e).1
        rw [backD_len] at this
        exact this
      rw [backD_in hlt hi] at e
      exact ⟨hi, join_get (Option.some.inj e)⟩
    · right
      rw [backD_out hi] at e
      exact ⟨hi, e⟩
  have own : ∀ {i : Nat} {b : Bool} {d : PD}, (backD ρ ρ' vs)[i]? = some (some (.own b d)) → i ∉ vs ∧ ρ'[i]? = some (some (.own b d)) := fun {i b d} e => by
    rcases key e with ⟨hi, e1⟩ | h
    · obtain ⟨d', z⟩ := okW_get hk hi e1
      cases z
    · exact h
  refine ⟨by rw [backD_len, hl, E.len], fun i s e => ?_, fun i j b b' d d' p e1 e2 e3 e4 => ?_, E'.dom, E'.kp, E'.mono, E'.grow, fun i b d p e1 e2 => ?_, E'.FS, fun q h => ?_⟩
  · rcases key e with ⟨hi, e1⟩ | ⟨hi, e1⟩
    · obtain ⟨v, e2, r⟩ := E.slot i s e1
      obtain ⟨d, rfl⟩ := okW_get hk hi e1
      exact ⟨v, e2, Rp.kp k r⟩
    · obtain ⟨v, e2, r⟩ := E'.slot i s e1
      rw [wipe_out hi] at e2
      exact ⟨v, e2, r⟩
  · obtain ⟨hi, f1⟩ := own e1
    obtain ⟨hj, f2⟩ := own e2
    exact E'.dist i j b b' d d' p f1 f2 (by rw [wipe_out hi]; exact e3) (by rw [wipe_out hj]; exact e4)
  · obtain ⟨hi, f1⟩ := own e1
    exact E'.ownF i b d p f1 (by rw [wipe_out hi]; exact e2)
  · obtain ⟨e1, d, e2⟩ := E'.ins q h
    have hi : q.1 ∉ vs := fun hi => hw q.1 _ hi e2
    exact ⟨by rw [← wipe_out hi]; exact e1, d, by rw [backD_out hi]; exact e2⟩
/-- an object that nobody has is written -/
theorem Kp.other {p : Addr} {o u : HO} (h1 : ¬ A p) (hp : H p = some o) (ht : ∀ xs, o ≠ .tup xs) : Kp A A H (upd H p u) := by
  refine ⟨fun _ h => h, fun a v ha e => ?_, fun a xs e => ?_⟩
  · rw [upd_ne (fun z => by subst z; exact h1 ha)]; exact e
  · rw [upd_ne (fun z => by subst z; rw [hp] at e; cases e; exact ht xs rfl)]; exact e
theorem ER.other {p : Addr} {o u : HO} (E : ER K F A H σ ρ) (h1 : ¬ A p) (h2 : ¬ Ow σ ρ p) (h3 : F.H p = none) (hp : H p = some o) (ht : ∀ xs, o ≠ .tup xs) (hfz : ∀ q v, o ≠ .frz q v) : ER K F A (upd H p u) σ ρ := by
  have kk : Kp A A H (upd H p u) := Kp.other h1 hp ht
  refine ⟨E.len, fun i s e => ?_, E.dist, fun a ha => ?_, fun b v e n => ?_, E.mono, E.grow, E.ownF, E.FS, E.ins⟩
  · obtain ⟨v, e1, r⟩ := E.slot i s e
    refine ⟨v, e1, ?_⟩
    cases s with
    | imm d => exact Rp.kp kk r
    | own b d =>
      obtain ⟨q, rfl, n, r⟩ := r
      refine ⟨q, rfl, n, r.kp kk ?_⟩
      rw [upd_ne]
      intro z
      subst z
      exact h2 ⟨i, b, d, e, e1⟩
    | scr ns =>
      obtain ⟨q, rfl, r⟩ := r
      refine ⟨q, rfl, ?_⟩
      refine r.kp fun ob w z => ?_
      rw [upd_ne]
      · exact z
      · intro y; subst y; rw [hp] at z; cases z; exact hfz _ _ rfl
  · by_cases z : a = p
    · subst z; exact absurd ha h1
    · rw [upd_ne z]; exact E.dom a ha
  · rw [upd_ne]
    · exact E.kp b v e n
    · intro z; subst z; rw [h3] at e; cases e
end
end DP
/-! DPV: list comprehensions, by their loop. -/
namespace DP
open PySem L2
def compL (g : PD → Dn → Option Dn) (vs : List Nat) (cond : M Bool) (elt : M PD) : List PD → List PD → M (List PD)
  | [], acc => fun ρ => .ok acc ρ
  | d :: ds, acc => fun ρ =>
    match g d ρ with
    | none => .no
    | some ρ1 => match cond ρ1 with
      | .ok true ρ2 => match elt ρ2 with
        | .ok y ρ3 => if smallL acc.length = true then compL g vs cond elt ds (acc ++ [y]) (wipeD ρ3 vs) else .no
        | _ => .no
      | .ok false ρ2 => compL g vs cond elt ds acc (wipeD ρ2 vs)
      | _ => .no
/-- [elt for g in it if cond], own names at the slots vs -/
def eComp (it : M (List PD)) (g : PD → Dn → Option Dn) (vs : List Nat) (cond : M Bool) (elt : M Rv) : M Rv := bnd it fun ds ρ =>
  if okW ρ vs = true then
    match compL g vs cond (bnd elt frz) ds [] (wipeD ρ vs) with
    | .ok acc ρ' => .ok (.fresh (.list acc)) (backD ρ ρ' vs)
    | _ => .no
  else .no
abbrev noW : WX := fun _ _ _ _ => False
/-- a clause's tests -/
def SimTs (X : Cx) (ifs : List Expr) (f : M Bool) : Prop := ∃ t : TT, PTs X ifs t ∧ ∀ F A H σ ρ, ER X.K F A H σ ρ → ∀ Q : Bool → Hp → Prop, Pst X.K X.mg noW F A H σ ρ RT Q (f ρ) → t σ H Q
theorem sim_tsnil {X : Cx} : SimTs X [] (retM true) := ⟨_, pts_nil, fun F A H σ ρ E Q h => h A H true E Step.refl rfl⟩
theorem sim_tsone {X : Cx} {c : Expr} {f : M Bool} (h : SimT X noW c f) : SimTs X [c] f := by
  obtain ⟨t, p, h⟩ := h
  exact ⟨_, pts_one p, h⟩
section
variable {K : PySem.W.Frag} {mg : Str → Option Value} {W : WX} {vs : List Nat} {it : M (List PD)} {g : PD → Dn → Option Dn} {is : List Nat} {cond : M Bool} {elt : M Rv} {wi : TI} {tg : TG} {tt : TT} {te : TE}
theorem lc_run (hi : ∀ F A H σ ρ, ER K F A H σ ρ → ∀ R : It → Hp → Prop, Pst K mg W F A H σ ρ (fun A' H' _ J ds => ItR A' H' J ds) R (it ρ) → wi σ H R)
    (hg : ∀ F A H σ ρ v d ρ' (Q : L2.St → Hp → Prop), ER K F A H σ ρ → Rp A H v d → g d ρ = some ρ' → (∀ σ', ER K F A H σ' ρ' → (∀ j, j ∉ is → σ'[j]? = σ[j]? ∧ ρ'[j]? = ρ[j]?) → (∀ j, j ∈ is → ∃ d, ρ'[j]? = some (some (.imm d))) → σ'.length = σ.length → Q σ' H) → tg v σ H Q)
    (his : ∀ i ∈ is, i ∈ vs)
    (ht : ∀ F A H σ ρ, ER K F A H σ ρ → ∀ Q : Bool → Hp → Prop, Pst K mg noW F A H σ ρ RT Q (cond ρ) → tt σ H Q)
    (he : ∀ F A H σ ρ, ER K F A H σ ρ → ∀ Q : VK, Pst K mg noW F A H σ ρ (RE F H σ) Q (elt ρ) → te σ H Q) :
    ∀ F A H σ ρ, ER K F A H σ ρ → ∀ Q : VK, Pst K mg W F A H σ ρ (RE F H σ) Q (eComp it g vs cond elt ρ) → tLc wi tg tt te vs σ H Q := by
  intro F A H σ ρ E Q h
  refine hi F A H σ ρ E _ (h.split (RR1 := fun A' H' _ J ds => ItR A' H' J ds) fun ds ρ1 A1 H1 J E1 S1 I1 h1 => ?_)
  intro D hD
  by_cases hk : okW ρ1 vs = true
  case neg => rw [if_neg hk] at h1; exact h1.elim
  rw [if_pos hk] at h1
  have hq : ∀ q ∈ F.ins, q.1 ∉ vs := fun q hq hv => by
    obtain ⟨_, d, e⟩ := E1.ins q hq
    obtain ⟨d', z⟩ := okW_get hk hv e
    cases z
  cases ec : compL g vs cond (bnd elt frz) ds [] (wipeD ρ1 vs) with
  | no => rw [ec] at h1; exact h1.elim
  | ex x ρ' => rw [ec] at h1; exact h1.elim
  | ok accF ρF =>
    rw [ec] at h1
    have extD : ∀ b o, H1 b = some o → upd H1 D (.lst []) b = some o := fun b o e => by rw [upd_ne (ne_of_none e hD)]; exact e
    have dA : ¬ A1 D := E1.free hD
    have dO : ¬ Ow σ ρ1 D := E1.owne hD
    have dF : F.H D = none := E1.fnone hD
    refine ⟨fun i m H' => m = ds.length - i ∧ i ≤ ds.length ∧ ∃ A' ρ' acc us, ER K F A' H' (wipe σ vs) ρ' ∧ StepV vs A1 H1 σ ρ1 A' H' (wipe σ vs) ρ' ∧ H' D = some (.lst us) ∧ ¬ A' D ∧ RpAll A' H' us acc ∧ (∀ i s, i ∈ vs → ρ'[i]? ≠ some (some s)) ∧
      compL g vs cond (bnd elt frz) (ds.drop i) acc ρ' = .ok accF ρF, ⟨ds.length, by simp, Nat.zero_le _, A1, wipeD ρ1 vs, [], [], (E1.wipe hq).ext extD, ⟨fun b o e _ => extD b o e, fun _ h => h, fun _ h => .inl h, fun p h => wipe_ow h, fun i s hi e => ⟨s, by rw [wipeD_out hi]; exact e⟩, fun b e => keep_none extD e, wipeD_len _ _⟩, upd_same, dA, .nil, fun i s hi => wipeD_in hi, by simpa using ec⟩, ?_⟩
    rintro i m H2 ⟨rfl, hi2, A2, ρ2, acc, us, E2, S2, hD2, dA2, r2, hw2, ec2⟩
    have k2 : Kp A1 A2 H1 H2 := S2.kpr E1
    obtain ⟨hstop, hgo⟩ := (I1.kp k2) A2 H2 Kp.refl E2.dom
    by_cases hlt : i < ds.length
    · have hd : ds[i]? = some ds[i] := by simp [hlt]
      obtain ⟨go, yld⟩ := hgo i _ hd
      rw [List.drop_eq_getElem_cons hlt] at ec2
      simp only [compL] at ec2
      cases eg : g ds[i] ρ2 with
      | none => rw [eg] at ec2; cases ec2
      | some ρ3 =>
        rw [eg] at ec2
        dsimp only at ec2
        refine .inr ⟨go, fun H' => ∃ A' ρ' acc us, ER K F A' H' (wipe σ vs) ρ' ∧ StepV vs A1 H1 σ ρ1 A' H' (wipe σ vs) ρ' ∧ H' D = some (.lst us) ∧ ¬ A' D ∧ RpAll A' H' us acc ∧ (∀ i s, i ∈ vs → ρ'[i]? ≠ some (some s)) ∧
          compL g vs cond (bnd elt frz) (ds.drop (i + 1)) acc ρ' = .ok accF ρF, fun H' z => ⟨ds.length - (i + 1), by omega, rfl, hlt, z⟩, fun x H3 y3 => ?_⟩
        obtain ⟨k3, r3⟩ := yld x H3 y3
        have E3 := E2.ext k3
        refine hg F A2 H3 (wipe σ vs) ρ2 x ds[i] ρ3 _ E3 r3 eg fun σ3 E4 n4 m4 l4 => ?_
        have ww : wipe σ3 vs = wipe σ vs := by
          rw [← wipe_wipe (σ := σ)]
          exact wipe_eq (fun j hj => (n4 j fun z => hj (his j z)).1) l4
        refine ⟨ww, ?_⟩
        -- what the target has done
        have l3 : ρ3.length = ρ2.length := by rw [← E4.len, l4, E3.len]
        have own3 : ∀ p, Ow σ3 ρ3 p → Ow (wipe σ vs) ρ2 p := fun p ⟨j, b, d, e1, e2⟩ => by
          by_cases hj : j ∈ is
          · obtain ⟨d', z⟩ := m4 j hj
            rw [z] at e1
            cases e1
          · exact ⟨j, b, d, by rw [← (n4 j hj).2]; exact e1, by rw [← (n4 j hj).1]; exact e2⟩
        have S3 : StepV vs A2 H2 (wipe σ vs) ρ2 A2 H3 σ3 ρ3 := ⟨fun b o e _ => k3 b o e, fun _ h => h, fun _ h => .inl h, own3, fun j s hj e => ⟨s, by rw [(n4 j fun z => hj (his j z)).2]; exact e⟩, fun b e => keep_none k3 e, l3⟩
        have r3' := r2.kp (Kp.ext (A := A2) k3)
        have hD3 := k3 D _ hD2
        have dO3 : ¬ Ow σ3 ρ3 D := fun z => dO (S2.sub D (own3 D z))
        have fin : ∀ {A5 : AS} {H5 : Hp} {ρ5 : Dn} {us5 : List V} {acc5 : List PD}, ER K F A5 H5 σ3 ρ5 → StepV vs A1 H1 σ ρ1 A5 H5 σ3 ρ5 → H5 D = some (.lst us5) → ¬ A5 D → RpAll A5 H5 us5 acc5 → compL g vs cond (bnd elt frz) (ds.drop (i + 1)) acc5 (wipeD ρ5 vs) = .ok accF ρF →
            ∃ A' ρ' acc us, ER K F A' H5 (wipe σ vs) ρ' ∧ StepV vs A1 H1 σ ρ1 A' H5 (wipe σ vs) ρ' ∧ H5 D = some (.lst us) ∧ ¬ A' D ∧ RpAll A' H5 us acc ∧ (∀ i s, i ∈ vs → ρ'[i]? ≠ some (some s)) ∧ compL g vs cond (bnd elt frz) (ds.drop (i + 1)) acc ρ' = .ok accF ρF :=
          fun {A5 H5 ρ5 us5 acc5} E5 S5 hD5 dA5 r5 e5 => ⟨A5, wipeD ρ5 vs, acc5, us5, by rw [← ww]; exact E5.wipe hq, by rw [← ww]; exact S5.trans StepV.wipe, hD5, dA5, r5, fun i s hi => wipeD_in hi, e5⟩
        refine ht F A2 H3 σ3 ρ3 E4 _ ?_
        cases et : cond ρ3 with
        | no => rw [et] at ec2; cases ec2
        | ex x ρ4 => rw [et] at ec2; cases ec2
        | ok b ρ4 =>
          rw [et] at ec2
          intro A4 H4 b' E5 S4 R4
          cases R4
          have hD4 : H4 D = some (.lst us) := S4.kp D _ hD3 dO3
          have grow4 : ∀ {A' : AS}, (∀ a, A' a → A2 a ∨ H3 a = none ∨ Ow σ3 ρ3 a) → ¬ A' D := fun gr z => by
            rcases gr D z with q | q | q
            · exact dA2 q
            · rw [hD3] at q; cases q
            · exact dO3 q
          cases b with
          | false =>
            rw [if_neg (by simp)]
            exact fin E5 ((S2.trans S3).trans S4.v) hD4 (grow4 S4.grow) (r3'.kp (S4.kpr E4)) ec2
          | true =>
            rw [if_pos rfl]
            dsimp only at ec2
            refine he F A4 H4 σ3 ρ4 E5 _ ?_
            unfold bnd at ec2
            cases ee : elt ρ4 with
            | no => rw [ee] at ec2; cases ec2
            | ex x ρ5 => rw [ee] at ec2; cases ec2
            | ok rv ρ5 =>
              rw [ee] at ec2
              intro A5 H5 y E6 S5 R5
              dsimp only at ec2
              rcases frz_ok (r := rv) (ρ := ρ5) rfl with ez | ⟨d5, ρ6, ez⟩
              · rw [ez] at ec2; cases ec2
              · rw [ez] at ec2
                dsimp only at ec2
                obtain ⟨A6, E7, S6, R6, _⟩ := frz_run E6 S5 R5.q ez
                by_cases hz : smallL acc.length = true
                case neg => rw [if_neg hz] at ec2; cases ec2
                rw [if_pos hz] at ec2
                have S46 := S4.trans S6
                have hD5 : H5 D = some (.lst us) := S46.kp D _ hD3 dO3
                have dA6 := grow4 S46.grow
                have dO6 : ¬ Ow σ3 ρ6 D := fun z => dO3 (S46.sub D z)
                have r6 := r3'.kp (S46.kpr E4)
                have kD : Kp A6 A6 H5 (upd H5 D (.lst (us ++ [y]))) := Kp.other dA6 hD5 fun xs z => by cases z
                refine ⟨us, hD5, by rw [r2.length]; exact smallL_lt hz, ?_⟩
                have E8 : ER K F A6 (upd H5 D (.lst (us ++ [y]))) σ3 ρ6 := E7.other dA6 dO6 dF hD5 (fun xs z => by cases z) fun q v z => by cases z
                have SB : StepV vs A1 H1 σ ρ1 A6 H5 σ3 ρ6 := (S2.trans S3).trans S46.v
                have S7 : StepV vs A1 H1 σ ρ1 A6 (upd H5 D (.lst (us ++ [y]))) σ3 ρ6 := by
                  refine ⟨fun b o e n => ?_, SB.mono, SB.grow, SB.sub, SB.def_, fun b e => ?_, SB.len⟩
                  · rw [upd_ne (ne_of_none e hD)]
                    exact SB.kp b o e n
                  · by_cases hb : b = D
                    · subst hb; rw [upd_same] at e; cases e
                    · rw [upd_ne hb] at e; exact SB.live b e
                exact fin E8 S7 upd_same dA6 (RpAll.snoc (r6.kp kD) (Rp.kp kD R6)) ec2
    · have e : i = ds.length := by omega
      subst e
      refine .inl ⟨hstop, ?_⟩
      rw [List.drop_length] at ec2
      cases ec2
      have EB := E1.back hk E2 k2 hw2 S2.len
      have ow : ∀ p, Ow σ (backD ρ1 ρF vs) p → Ow σ ρ1 p := fun p ⟨j, b, d, e1, e2⟩ => by
        by_cases hj : j ∈ vs
        · have hlt : j < ρF.length := by
            have := (List.getElem?_eq_some_iff.mp e1).1
            rw [backD_len] at this
            exact this
          rw [backD_in hlt hj] at e1
          have e3 := join_get (Option.some.inj e1)
          exact ⟨j, b, d, e3, e2⟩
        · rw [backD_out hj] at e1
          exact S2.sub p ⟨j, b, d, e1, by rw [wipe_out hj]; exact e2⟩
      have SE : Step A1 H1 σ ρ1 A2 H2 (backD ρ1 ρF vs) := ⟨S2.kp, S2.mono, S2.grow, ow, fun j s e => by
        by_cases hj : j ∈ vs
        · have hlt : j < ρF.length := by rw [S2.len]; exact (List.getElem?_eq_some_iff.mp e).1
          exact ⟨s, by rw [backD_in hlt hj, e]; rfl⟩
        · rw [backD_out hj]; exact S2.def_ j s hj e, S2.live, by rw [backD_len, S2.len]⟩
      exact h1 A2 H2 (.ref D) EB (S1.trans SE) ⟨D, rfl, ⟨dA2, fun z => dO (ow D z), dF, S1.live D hD⟩, us, hD2, r2⟩
end
end DP
/-! DPW: list comprehensions as expressions and as statements. -/
namespace DP
open PySem L2
def starE (K : PySem.W.Frag) (mg : Str → Option Value) (W : WX) (f : M Rv) : TE := fun σ H Q => ∃ F A ρ, ER K F A H σ ρ ∧ Pst K mg W F A H σ ρ (RE F H σ) Q (f ρ)
theorem SimE.star {X : Cx} {W : WX} {e : Expr} {f : M Rv} (h : SimE X W e f) : PE X e (starE X.K X.mg W f) := by
  obtain ⟨t, p, h⟩ := h
  exact ⟨fun pins s σ H Q I ⟨F, A, ρ, E, q⟩ => p.run pins s σ H Q I (h F A H σ ρ E Q q)⟩
def starTs (K : PySem.W.Frag) (mg : Str → Option Value) (f : M Bool) : TT := fun σ H Q => ∃ F A ρ, ER K F A H σ ρ ∧ Pst K mg noW F A H σ ρ RT Q (f ρ)
theorem SimTs.star {X : Cx} {e : List Expr} {f : M Bool} (h : SimTs X e f) : PTs X e (starTs X.K X.mg f) := by
  obtain ⟨t, p, h⟩ := h
  exact ⟨fun pins s σ H Q I ⟨F, A, ρ, E, q⟩ => p.run pins s σ H Q I (h F A H σ ρ E Q q)⟩
def starG (K : PySem.W.Frag) (g : PD → Dn → Option Dn) (is : List Nat) : TG := fun v σ H Q => ∃ F A d ρ ρ', ER K F A H σ ρ ∧ Rp A H v d ∧ g d ρ = some ρ' ∧
  (∀ σ', ER K F A H σ' ρ' → (∀ j, j ∉ is → σ'[j]? = σ[j]? ∧ ρ'[j]? = ρ[j]?) → (∀ j, j ∈ is → ∃ d, ρ'[j]? = some (some (.imm d))) → σ'.length = σ.length → Q σ' H)
theorem SimG.star {X : Cx} {e : Expr} {g : PD → Dn → Option Dn} {is : List Nat} (h : SimG X e g is) : PG X e (starG X.K g is) := by
  obtain ⟨t, p, h⟩ := h
  exact ⟨fun pins s σ H v u Q I r ⟨F, A, d, ρ, ρ', E, R, eg, q⟩ => p.run pins s σ H v u Q I r (h F A H σ ρ v d ρ' Q E R eg q)⟩
section
variable {X : Cx} {W : WX} {elt tg iter : Expr} {ifs : List Expr} {scope : Scope} {own : List (Str × Nat)} {pos : Pos} {it : M (List PD)} {g : PD → Dn → Option Dn} {is : List Nat} {cond : M Bool} {f : M Rv}
theorem sim_lc (own : List (Str × Nat)) (hc : X.calm = true) (hN : X.N.Nodup) (hi : SimI X W tg iter it) (ok : BlkOk X.N X.env.scope scope own)
    (hg : ∀ (s : Shared) (H : Hp) (C : Addr) (cl : List (Str × Addr)) (fp : List Addr), SimG (X.blk s H scope (compEnvC scope cl C X.env) fp) tg g is)
    (ht : ∀ (s : Shared) (H : Hp) (C : Addr) (cl : List (Str × Addr)) (fp : List Addr), SimTs (X.blk s H scope (compEnvC scope cl C X.env) fp) ifs cond)
    (he : ∀ (s : Shared) (H : Hp) (C : Addr) (cl : List (Str × Addr)) (fp : List Addr), SimE (X.blk s H scope (compEnvC scope cl C X.env) fp) noW elt f)
    (his : ∀ i ∈ is, i ∈ own.map (·.2)) (hs : ∀ x, foldedSetIterable iter X.env x = pure x := by intro _; rfl) : SimE X W (.ListComp elt [⟨tg, iter, ifs, 0⟩] scope pos) (eComp it g (own.map (·.2)) cond f) := by
  obtain ⟨w, pi, hi⟩ := hi
  refine ⟨_, pe_lc (g := starG X.K g is) (tt := starTs X.K X.mg cond) (te := starE X.K X.mg noW f) hc hN pi ok (fun s H C cl fp => (hg s H C cl fp).star) (fun s H C cl fp => (ht s H C cl fp).star) (fun s H C cl fp => (he s H C cl fp).star) hs, ?_⟩
  exact lc_run (K := X.K) (mg := X.mg) hi (fun F A H σ ρ v d ρ' Q E R eg q => ⟨F, A, d, ρ, ρ', E, R, eg, q⟩) his (fun F A H σ ρ E Q q => ⟨F, A, ρ, E, q⟩) (fun F A H σ ρ E Q q => ⟨F, A, ρ, E, q⟩)
theorem sim_setlc (own : List (Str × Nat)) {i : Nat} {y : Str} {py spos : Pos} (hc : X.calm = true) (hN : X.N.Nodup) (hy : X.N[i]? = some y) (hyl : X.env.scope.names.lookup y = some .local)
    (hw : swapsWith (.ListComp elt [⟨tg, iter, ifs, 0⟩] scope pos) (some (.Name y py)) spos.line X.env = pure true) (hi : SimI X W tg iter it) (ok : BlkOk X.N X.env.scope scope own)
    (hg : ∀ (s : Shared) (H : Hp) (C : Addr) (cl : List (Str × Addr)) (fp : List Addr), SimG (X.blk s H scope (compEnvC scope cl C X.env) fp) tg g is)
    (ht : ∀ (s : Shared) (H : Hp) (C : Addr) (cl : List (Str × Addr)) (fp : List Addr), SimTs (X.blk s H scope (compEnvC scope cl C X.env) fp) ifs cond)
    (he : ∀ (s : Shared) (H : Hp) (C : Addr) (cl : List (Str × Addr)) (fp : List Addr), SimE (X.blk s H scope (compEnvC scope cl C X.env) fp) noW elt f)
    (his : ∀ i ∈ is, i ∈ own.map (·.2)) (hs : ∀ x, foldedSetIterable iter X.env x = pure x := by intro _; rfl) : SimS X W (.Assign [.Name y py] (.ListComp elt [⟨tg, iter, ifs, 0⟩] scope pos) spos) (sSet i (eComp it g (own.map (·.2)) cond f)) := by
  obtain ⟨w, pi, hi⟩ := hi
  refine ⟨_, ps_setLc (g := starG X.K g is) (tt := starTs X.K X.mg cond) (te := starE X.K X.mg noW f) hc hN hy hyl hw pi ok (fun s H C cl fp => (hg s H C cl fp).star) (fun s H C cl fp => (ht s H C cl fp).star) (fun s H C cl fp => (he s H C cl fp).star) hs, fun F A H σ ρ D E h => ?_⟩
  exact lc_run (K := X.K) (mg := X.mg) hi (fun F A H σ ρ v d ρ' Q E R eg q => ⟨F, A, d, ρ, ρ', E, R, eg, q⟩) his (fun F A H σ ρ E Q q => ⟨F, A, ρ, E, q⟩) (fun F A H σ ρ E Q q => ⟨F, A, ρ, E, q⟩) F A H σ ρ E _
    (PstS.split E h fun r ρ1 A1 H1 v E1 S1 R1 h2 => putR_run (S1.kpr E) E1 R1 h2)
end
end DP
/-! DPX: what a def comes to; calls. -/
namespace DP
open PySem L2
inductive FR where
  | ok (c : Rc) (outs : List PD)
  | ex (e : Exn) (outs : List PD)
  | no
/-- no exception -/
def FR.calm : FR → FR
  | .ok c o => .ok c o
  | _ => .no
inductive ArgsR (A : AS) (H : Hp) : List Bool → List V → List PD → List Addr → Prop
  | nil : ArgsR A H [] [] [] []
  | imm {v : V} {d : PD} {ms : List Bool} {vs : List V} {ds : List PD} {ps : List Addr} : Rp A H v d → ArgsR A H ms vs ds ps → ArgsR A H (false :: ms) (v :: vs) (d :: ds) ps
  | inp {p : Addr} {d : PD} {ms : List Bool} {vs : List V} {ds : List PD} {ps : List Addr} : ¬ A p → OwnObj A H p d → p ∉ ps → ArgsR A H ms vs ds ps → ArgsR A H (true :: ms) (.ref p :: vs) (d :: ds) (p :: ps)
structure FrameF (A : AS) (H : Hp) (ps : List Addr) (A' : AS) (H' : Hp) : Prop where
  kp : ∀ b o, H b = some o → b ∉ ps → H' b = some o
  mono : ∀ a, A a → A' a
  grow : ∀ a, A' a → A a ∨ H a = none
  dom : ∀ a, A' a → H' a ≠ none
  live : ∀ b, H' b = none → H b = none
inductive OutsR (A : AS) (H : Hp) : List Addr → List PD → Prop
  | nil : OutsR A H [] []
  | cons {p : Addr} {ps : List Addr} {d : PD} {ds : List PD} : ¬ A p → OwnObj A H p d → OutsR A H ps ds → OutsR A H (p :: ps) (d :: ds)
def ResR (A' : AS) (H H' : Hp) (v : V) : Rc → Prop
  | .val d => Rp A' H' v d
  | .fresh d => ∃ p, v = .ref p ∧ ¬ A' p ∧ H p = none ∧ OwnObj A' H' p d
def PstF (mg : Str → Option Value) (A : AS) (H : Hp) (ps : List Addr) (Q : VK) (E : XK) : FR → Prop
  | .ok c outs => ∀ A' H' v, FrameF A H ps A' H' → OutsR A' H' ps outs → ResR A' H H' v c → Q v H'
  | .ex e outs => ∀ A' H' cls d, FrameF A H ps A' H' → OutsR A' H' ps outs → XR mg A' H' e cls d → E cls d H'
  | .no => False
/-- a def's promise: on data it comes to m -/
def spD (mg : Str → Option Value) (ms : List Bool) (m : List PD → FR) : Sp := fun vs H Q E => ∃ A ds ps, (∀ a, A a → H a ≠ none) ∧ ArgsR A H ms vs ds ps ∧ PstF mg A H ps Q E (m ds)
theorem ArgsR.length {A : AS} {H : Hp} : ∀ {ms : List Bool} {vs : List V} {ds : List PD} {ps : List Addr}, ArgsR A H ms vs ds ps → vs.length = ms.length
  | _, _, _, _, .nil => rfl
  | _, _, _, _, .imm _ h => by simp [ArgsR.length h]
  | _, _, _, _, .inp _ _ _ h => by simp [ArgsR.length h]
/-! ### a def's body -/
def slOf (m : Bool) (d : PD) : Option Sl := some (if m = true then .own true d else .imm d)
def argD : List Bool → List PD → Dn
  | m :: ms, d :: ds => slOf m d :: argD ms ds
  | _, _ => []
def startD (n : Nat) (ms : List Bool) (ds : List PD) : Dn := argD ms ds ++ List.replicate (n - ms.length) none
def outsAt (ρ : Dn) : Nat → List Bool → Option (List PD)
  | _, [] => some []
  | i, false :: ms => outsAt ρ (i + 1) ms
  | i, true :: ms => match ρ[i]? with
    | some (some (.own true d)) => (outsAt ρ (i + 1) ms).map (d :: ·)
    | _ => none
def resOf (ρ : Dn) : Rv → Option Rc
  | .val d => some (.val d)
  | .fresh d => some (.fresh d)
  | .slot i => match ρ[i]? with
    | some (some (.imm d)) => some (.val d)
    | some (some (.own false d)) => some (.fresh d)
    | _ => none
def runF (n : Nat) (ms : List Bool) (b : SM) (ds : List PD) : FR :=
  match b (startD n ms ds) with
  | .nx ρ => match outsAt ρ 0 ms with
    | some o => .ok (.val .none) o
    | none => .no
  | .rt r ρ => match outsAt ρ 0 ms, resOf ρ r with
    | some o, some c => .ok c o
    | _, _ => .no
  | .ex e ρ => match outsAt ρ 0 ms with
    | some o => .ex e o
    | none => .no
  | _ => .no
def insAt : Nat → List Bool → List V → List (Nat × Addr)
  | i, false :: ms, _ :: vs => insAt (i + 1) ms vs
  | i, true :: ms, .ref p :: vs => (i, p) :: insAt (i + 1) ms vs
  | _, _, _ => []
section
variable {K : PySem.W.Frag} {A : AS} {H : Hp}
theorem ins_ps : ∀ {ms : List Bool} {vs : List V} {ds : List PD} {ps : List Addr} (i : Nat), ArgsR A H ms vs ds ps → (insAt i ms vs).map (·.2) = ps
  | _, _, _, _, _, .nil => rfl
  | _, _, _, _, i, .imm _ h => by simp only [insAt]; exact ins_ps (i + 1) h
  | _, _, _, _, i, .inp _ _ _ h => by simp only [insAt, List.map_cons]; rw [ins_ps (i + 1) h]
/-- what the arguments are, by their places -/
theorem args_at : ∀ {ms : List Bool} {vs : List V} {ds : List PD} {ps : List Addr}, ArgsR A H ms vs ds ps → ∀ (j : Nat) (s : Sl), (argD ms ds)[j]? = some (some s) → ∃ v, vs[j]? = some v ∧ SlR K A H v s ∧ (∀ p d b, s = .own b d → v = .ref p → b = true ∧ p ∈ ps)
  | _, _, _, _, .nil, j, s, e => by simp [argD] at e
  | _, _, _, _, .imm r h, 0, s, e => by
    simp only [argD, slOf] at e
    simp at e
    subst e
    exact ⟨_, rfl, r, fun p d b z => nomatch z⟩
  | _, _, _, _, .imm r h, j + 1, s, e => by
    obtain ⟨v, e1, r1, o⟩ := args_at h j s (by simpa [argD] using e)
    exact ⟨v, by simpa using e1, r1, o⟩
  | _, _, _, _, .inp n o hn h, 0, s, e => by
    simp only [argD, slOf] at e
    simp at e
    subst e
    exact ⟨_, rfl, ⟨_, rfl, n, o⟩, fun p d b z y => by cases z; cases y; exact ⟨rfl, by simp⟩⟩
  | _, _, _, _, .inp n o hn h, j + 1, s, e => by
    obtain ⟨v, e1, r1, o⟩ := args_at h j s (by simpa [argD] using e)
    exact ⟨v, by simpa using e1, r1, fun p d b z y => let ⟨x, w⟩ := o p d b z y; ⟨x, List.mem_cons_of_mem _ w⟩⟩
theorem args_dist : ∀ {ms : List Bool} {vs : List V} {ds : List PD} {ps : List Addr}, ArgsR A H ms vs ds ps → ∀ (i j : Nat) (b b' : Bool) (d d' : PD) (p : Addr), (argD ms ds)[i]? = some (some (.own b d)) → (argD ms ds)[j]? = some (some (.own b' d')) → vs[i]? = some (.ref p) → vs[j]? = some (.ref p) → i = j
  | _, _, _, _, .nil, i, j, _, _, _, _, _, e, _, _, _ => by simp [argD] at e
  | _, _, _, _, .imm r h, i, j, b, b', d, d', p, e1, e2, e3, e4 => by
    cases i with
    | zero => simp [argD, slOf] at e1
    | succ i => cases j with
      | zero => simp [argD, slOf] at e2
      | succ j => rw [args_dist h i j b b' d d' p (by simpa [argD] using e1) (by simpa [argD] using e2) (by simpa using e3) (by simpa using e4)]
  | _, _, _, _, .inp (p := q) n o hn h, i, j, b, b', d, d', p, e1, e2, e3, e4 => by
    cases i with
    | zero => cases j with
      | zero => rfl
      | succ j =>
        exfalso
        have hq : q = p := by simpa using e3
        obtain ⟨v, f1, _, f2⟩ := args_at (K := []) h j _ (by simpa [argD] using e2)
        have e4' : v = .ref p := by
          have : _ = some (V.ref p) := e4
          simp at this
          rw [this] at f1
          exact (Option.some.inj f1).symm
        exact hn (by rw [hq]; exact (f2 p _ _ rfl e4').2)
    | succ i => cases j with
      | zero =>
        exfalso
        have hq : q = p := by simpa using e4
        obtain ⟨v, f1, _, f2⟩ := args_at (K := []) h i _ (by simpa [argD] using e1)
        have e4' : v = .ref p := by
          have : _ = some (V.ref p) := e3
          simp at this
          rw [this] at f1
          exact (Option.some.inj f1).symm
        exact hn (by rw [hq]; exact (f2 p _ _ rfl e4').2)
      | succ j => rw [args_dist h i j b b' d d' p (by simpa [argD] using e1) (by simpa [argD] using e2) (by simpa using e3) (by simpa using e4)]
theorem args_ins : ∀ {ms : List Bool} {vs : List V} {ds : List PD} {ps : List Addr} (i : Nat), ArgsR A H ms vs ds ps → ∀ q ∈ insAt i ms vs, i ≤ q.1 ∧ vs[q.1 - i]? = some (.ref q.2) ∧ ∃ d, (argD ms ds)[q.1 - i]? = some (some (.own true d))
  | _, _, _, _, i, .nil, q, h => by simp [insAt] at h
  | _, _, _, _, i, .imm r h, q, hq => by
    simp only [insAt] at hq
    obtain ⟨h1, h2, d, h3⟩ := args_ins (i + 1) h q hq
    have e : q.1 - i = (q.1 - (i + 1)) + 1 := by omega
    exact ⟨by omega, by rw [e]; simpa using h2, d, by rw [e]; simpa [argD] using h3⟩
  | _, _, _, _, i, .inp n o hn h, q, hq => by
    simp only [insAt, List.mem_cons] at hq
    rcases hq with rfl | hq
    · exact ⟨Nat.le_refl _, by simp, _, by simp [argD, slOf]; rfl⟩
    · obtain ⟨h1, h2, d, h3⟩ := args_ins (i + 1) h q hq
      have e : q.1 - i = (q.1 - (i + 1)) + 1 := by omega
      exact ⟨by omega, by rw [e]; simpa using h2, d, by rw [e]; simpa [argD] using h3⟩
theorem argD_len : ∀ {ms : List Bool} {vs : List V} {ds : List PD} {ps : List Addr}, ArgsR A H ms vs ds ps → (argD ms ds).length = vs.length
  | _, _, _, _, .nil => rfl
  | _, _, _, _, .imm _ h => by simp [argD, argD_len h]
  | _, _, _, _, .inp _ _ _ h => by simp [argD, argD_len h]
theorem rep_none {α : Type} {n i : Nat} {s : α} : (List.replicate n (none : Option α))[i]? ≠ some (some s) := by
  intro e
  rw [List.getElem?_replicate] at e
  split at e <;> cases e
theorem ER.begins {N : List Str} {ms : List Bool} {vs : List V} {ds : List PD} {ps : List Addr} (hd : ∀ a, A a → H a ≠ none) (h : ArgsR A H ms vs ds ps) :
    ER K ⟨A, H, insAt 0 ms vs⟩ A H (L2.start N vs) (startD N.length ms ds) := by
  have hl := argD_len h
  have hv := h.length
  have low : ∀ {j : Nat} {s : Sl}, (startD N.length ms ds)[j]? = some (some s) → (argD ms ds)[j]? = some (some s) ∧ j < vs.length := fun {j s} e => by
    unfold startD at e
    by_cases hj : j < (argD ms ds).length
    · rw [List.getElem?_append_left hj] at e
      exact ⟨e, by omega⟩
    · rw [List.getElem?_append_right (by omega)] at e
      exact absurd e rep_none
  have val : ∀ {j : Nat} {v : V}, vs[j]? = some v → (L2.start N vs)[j]? = some (some v) := fun {j v} e => by
    unfold L2.start
    rw [List.getElem?_append_left (by have := (List.getElem?_eq_some_iff.mp e).1; simpa using this), List.getElem?_map, e]
    rfl
  have lav : ∀ {j : Nat} {v : V}, j < vs.length → (L2.start N vs)[j]? = some (some v) → vs[j]? = some v := fun {j v} hj e => by
    unfold L2.start at e
    rw [List.getElem?_append_left (by simpa using hj), List.getElem?_map] at e
    cases q : vs[j]? with
    | none => rw [q] at e; cases e
    | some w => rw [q] at e; cases e; rfl
  have hS : ∀ p, Ent.S ⟨A, H, insAt 0 ms vs⟩ p → p ∈ ps := fun p ⟨q, hq, e⟩ => by
    rw [← ins_ps 0 h]
    exact List.mem_map.mpr ⟨q, hq, e⟩
  refine ⟨by unfold L2.start startD; simp [hl, hv], fun j s e => ?_, fun i j b b' d d' p e1 e2 e3 e4 => ?_, hd, fun _ _ e _ => e, fun _ h => h, fun _ h => .inl h, fun j b d p e1 e2 => ?_, fun p hp => ?_, fun q hq => ?_⟩
  · obtain ⟨e1, _⟩ := low e
    obtain ⟨v, e2, r, _⟩ := args_at h j s e1
    exact ⟨v, val e2, r⟩
  · obtain ⟨f1, g1⟩ := low e1
    obtain ⟨f2, g2⟩ := low e2
    exact args_dist h i j b b' d d' p f1 f2 (lav g1 e3) (lav g2 e4)
  · obtain ⟨f1, g1⟩ := low e1
    obtain ⟨v, e3, _, o⟩ := args_at (K := K) h j _ f1
    rw [lav g1 e2] at e3
    cases e3
    obtain ⟨rfl, hp⟩ := o p d b rfl rfl
    rw [if_pos rfl]
    rw [← ins_ps 0 h] at hp
    obtain ⟨q, hq, e⟩ := List.mem_map.mp hp
    exact ⟨q, hq, e⟩
  · obtain ⟨q, hq, rfl⟩ := hp
    obtain ⟨_, h2, d, h3⟩ := args_ins 0 h q hq
    obtain ⟨v, e3, ⟨p', e4, n, _⟩, _⟩ := args_at (K := K) h _ _ h3
    rw [h2] at e3
    cases e3
    cases e4
    exact n
  · obtain ⟨_, h2, d, h3⟩ := args_ins 0 h q hq
    refine ⟨val (by simpa using h2), d, ?_⟩
    unfold startD
    have hj : q.1 < (argD ms ds).length := by have := (List.getElem?_eq_some_iff.mp h3).1; simpa using this
    rw [List.getElem?_append_left hj]
    simpa using h3
theorem outs_of {F : Ent} {A' : AS} {H' : Hp} {σ : L2.St} {ρ : Dn} (E : ER K F A' H' σ ρ) : ∀ {ms : List Bool} {vs : List V} (i : Nat) {o : List PD}, (∀ q ∈ insAt i ms vs, q ∈ F.ins) → vs.length = ms.length → outsAt ρ i ms = some o → (∀ (j : Nat), ms[j]? = some true → ∃ p, vs[j]? = some (.ref p)) → OutsR A' H' ((insAt i ms vs).map (·.2)) o
  | [], vs, i, o, _, hv, e, _ => by
    cases e
    cases vs with
    | nil => exact .nil
    | cons _ _ => cases hv
  | false :: ms, v :: vs, i, o, hi, hv, e, hr => outs_of E (ms := ms) (vs := vs) (i + 1) (o := o) hi (by simpa using hv) e fun j hj => by
    have := hr (j + 1) (by simpa using hj)
    simpa using this
  | true :: ms, v :: vs, i, o, hi, hv, e, hr => by
    obtain ⟨p, hp⟩ := hr 0 rfl
    have hp' : v = .ref p := by simpa using hp
    subst hp'
    simp only [insAt, List.map_cons]
    have hin := hi (i, p) (by simp [insAt])
    obtain ⟨e1, d, e2⟩ := E.ins _ hin
    simp only [outsAt, e2] at e
    cases e3 : outsAt ρ (i + 1) ms with
    | none => rw [e3] at e; cases e
    | some o' =>
      rw [e3] at e
      cases e
      obtain ⟨v, e4, p', e5, n, ob⟩ := E.slot _ _ e2
      rw [e1] at e4
      cases e4
      cases e5
      exact .cons n ob (outs_of E (i + 1) (fun q hq => hi q (by simp [insAt, hq])) (by simpa using hv) e3 fun j hj => by
        have := hr (j + 1) (by simpa using hj)
        simpa using this)
theorem args_refs : ∀ {ms : List Bool} {vs : List V} {ds : List PD} {ps : List Addr}, ArgsR A H ms vs ds ps → ∀ (j : Nat), ms[j]? = some true → ∃ p, vs[j]? = some (.ref p)
  | _, _, _, _, .nil, j, e => by simp at e
  | _, _, _, _, .imm _ h, 0, e => by simp at e
  | _, _, _, _, .imm _ h, j + 1, e => by
    obtain ⟨p, q⟩ := args_refs h j (by simpa using e)
    exact ⟨p, by simpa using q⟩
  | _, _, _, _, .inp _ _ _ h, 0, e => ⟨_, rfl⟩
  | _, _, _, _, .inp _ _ _ h, j + 1, e => by
    obtain ⟨p, q⟩ := args_refs h j (by simpa using e)
    exact ⟨p, by simpa using q⟩
end
section
variable {K : PySem.W.Frag} {mg : Str → Option Value} {W : WX} {A : AS} {H : Hp}
/-- the body's end is the def's end -/
theorem run_end {N : List Str} {ms : List Bool} {vs : List V} {ds : List PD} {ps : List Addr} {b : SM} {Q : VK} {E : XK} (h : ArgsR A H ms vs ds ps) (hq : PstF mg A H ps Q E (runF N.length ms b ds)) (hW : ∀ cls d σ H', E cls d H' → W cls d σ H') :
    PstS K mg W ⟨A, H, insAt 0 ms vs⟩ A H { nx := fun _ H' => Q .non H', rt := Q } (b (startD N.length ms ds)) := by
  have frame : ∀ {A' : AS} {H' : Hp} {σ' : L2.St} {ρ' : Dn}, ER K ⟨A, H, insAt 0 ms vs⟩ A' H' σ' ρ' → FrameF A H ps A' H' := fun {A' H' σ' ρ'} E' =>
    ⟨fun b o e n => E'.kp b o e fun ⟨q, hq, e'⟩ => n (by rw [← ins_ps 0 h]; exact List.mem_map.mpr ⟨q, hq, e'⟩), E'.mono, E'.grow, E'.dom, fun b e => E'.fnone e⟩
  have outs : ∀ {A' : AS} {H' : Hp} {σ' : L2.St} {ρ' : Dn} {o : List PD}, ER K ⟨A, H, insAt 0 ms vs⟩ A' H' σ' ρ' → outsAt ρ' 0 ms = some o → OutsR A' H' ps o := fun {A' H' σ' ρ' o} E' e => by
    have := outs_of E' 0 (fun q hq => hq) h.length e (args_refs h)
    rw [ins_ps 0 h] at this
    exact this
  unfold runF at hq
  cases eb : b (startD N.length ms ds) with
  | nx ρ =>
    rw [eb] at hq
    dsimp only at hq
    cases eo : outsAt ρ 0 ms with
    | none => rw [eo] at hq; exact hq.elim
    | some o =>
      rw [eo] at hq
      exact fun A' H' σ' E' _ => hq A' H' .non (frame E') (outs E' eo) .non
  | rt r ρ =>
    rw [eb] at hq
    dsimp only at hq
    cases eo : outsAt ρ 0 ms with
    | none => rw [eo] at hq; exact hq.elim
    | some o =>
      rw [eo] at hq
      cases er : resOf ρ r with
      | none => rw [er] at hq; exact hq.elim
      | some c =>
        rw [er] at hq
        refine fun A' H' σ' v E' _ R => hq A' H' v (frame E') (outs E' eo) ?_
        cases r with
        | val d => cases er; exact R
        | fresh d =>
          cases er
          obtain ⟨p, e, ⟨h1, h2, h3, h4⟩, h5⟩ := R
          exact ⟨p, e, h1, h3, h5⟩
        | slot i =>
          obtain ⟨e1, s, e2⟩ := R
          simp only [resOf, e2] at er
          obtain ⟨v', e3, r⟩ := E'.slot i s e2
          rw [e1] at e3
          cases e3
          cases s with
          | imm d => cases er; exact r
          | own bb d =>
            cases bb with
            | true => cases er
            | false =>
              cases er
              obtain ⟨p, rfl, n, ob⟩ := r
              have := E'.ownF i false d p e2 e1
              exact ⟨p, rfl, n, by simpa using this, ob⟩
          | scr ns => cases er
  | ex e ρ =>
    rw [eb] at hq
    dsimp only at hq
    cases eo : outsAt ρ 0 ms with
    | none => rw [eo] at hq; exact hq.elim
    | some o =>
      rw [eo] at hq
      exact fun A' H' σ' cls d E' _ X => hW _ _ _ _ (hq A' H' cls d (frame E') (outs E' eo) X)
  | bk ρ => rw [eb] at hq; exact hq.elim
  | ct ρ => rw [eb] at hq; exact hq.elim
  | no => rw [eb] at hq; exact hq.elim
end
/-- a def that lets no exception out -/
theorem fn_sim {P : Program} {w : World} {K : PySem.W.Frag} {mg : Str → Option Value} {base : Heap} {x qual : Str} {st : Stmt} {f : Addr} {fd : FuncData} {N ps : List Str} {k : Nat} {ms : List Bool} {b : SM} (F : Fun K x qual st f fd) (S : FnScope N ps (defScope st)) (hm : ms.length = ps.length)
    (hb : ∀ (cdv : Value) (A : Around) (outer : List PySem.Env) (s : Shared) (H : Hp) (E : XK), Room k (A.deeper (PyProof.Rows.envOfC qual (defScope st) s.heap.objs.size f cdv)) → SimB (cxOf CX0 P w K mg base N qual (defScope st) f cdv A outer s H E).nox noW (defBody st) b) :
    FnOk P w K mg base CX0 (k + 1) f fd ps (spD mg ms fun ds => (runF N.length ms b ds).calm) := by
  refine F.ok S (fun vs H Q E ⟨A, ds, qs, _, h, _⟩ => by rw [h.length, hm]) fun cdv A outer s H vs Q E hr ⟨Z, ds, qs, hd, ha, hq⟩ => ?_
  obtain ⟨t, p, h⟩ := hb cdv A outer s H E hr
  exact ⟨t, p, h _ Z H _ _ _ (ER.begins hd ha) (run_end (E := fun _ _ _ => False) ha (by
    dsimp only at hq
    cases er : runF N.length ms b ds with
    | ok c o => rw [er] at hq; exact hq
    | ex e o => rw [er] at hq; exact hq.elim
    | no => rw [er] at hq; exact hq) fun _ _ _ _ z => z)⟩
/-- a def that may let exceptions out -/
theorem fn_simX {P : Program} {w : World} {K : PySem.W.Frag} {mg : Str → Option Value} {base : Heap} {x qual : Str} {st : Stmt} {f : Addr} {fd : FuncData} {N ps : List Str} {k : Nat} {ms : List Bool} {b : SM} (F : Fun K x qual st f fd) (S : FnScope N ps (defScope st)) (hm : ms.length = ps.length)
    (hb : ∀ (cdv : Value) (A : Around) (outer : List PySem.Env) (s : Shared) (H : Hp) (E : XK), Room k (A.deeper (PyProof.Rows.envOfC qual (defScope st) s.heap.objs.size f cdv)) → SimB (cxOf (L2.CX P w) P w K mg base N qual (defScope st) f cdv A outer s H E) (fun cls d _ H => E cls d H) (defBody st) b) :
    FnOk P w K mg base (L2.CX P w) (k + 1) f fd ps (spD mg ms (runF N.length ms b)) := by
  refine F.okX S (fun vs H Q E ⟨A, ds, qs, _, h, _⟩ => by rw [h.length, hm]) fun cdv A outer s H vs Q E hr ⟨Z, ds, qs, hd, ha, hq⟩ => ?_
  obtain ⟨t, p, h⟩ := hb cdv A outer s H E hr
  exact ⟨t, p, h _ Z H _ _ _ (ER.begins hd ha) (run_end ha hq fun _ _ _ _ z => z)⟩
/-! ### calls -/
mutual
/-- no lists (l), no dicts (k) within -/
def clean (l k : Bool) : PD → Bool
  | .list ds => !l && cleanAll l k ds
  | .tuple ds => cleanAll l k ds
  | .dict ds => !k && cleanKV l k ds
  | _ => true
def cleanAll (l k : Bool) : List PD → Bool
  | [] => true
  | d :: ds => clean l k d && cleanAll l k ds
def cleanKV (l k : Bool) : List (PD × PD) → Bool
  | [] => true
  | (_, d) :: ds => clean l k d && cleanKV l k ds
end
/-- A without B -/
def less (A B : AS) : AS := fun a => A a ∧ ¬ B a
def Bad (B : AS) (H : Hp) (l k : Bool) : Prop := ∀ a, B a → (l = true ∧ ∃ xs, H a = some (.lst xs)) ∨ (k = true ∧ ∃ xs, H a = some (.dK xs))
mutual
theorem Rp.less {A B : AS} {H : Hp} {l k : Bool} (hb : Bad B H l k) : ∀ {v : V} {d : PD}, Rp A H v d → clean l k d = true → Rp (less A B) H v d
  | _, _, .non, _ => .non
  | _, _, .bl b, _ => .bl b
  | _, _, .int i, _ => .int i
  | _, _, .str x, _ => .str x
  | _, _, .lst (a := a) ha hr r, c => by
    simp only [clean, Bool.and_eq_true, Bool.not_eq_true'] at c
    refine .lst ⟨ha, fun hB => ?_⟩ hr (RpAll.less hb r c.2)
    rcases hb a hB with ⟨h1, _⟩ | ⟨h1, ys, h2⟩
    · rw [c.1] at h1; cases h1
    · rw [hr] at h2; cases h2
  | _, _, .tup h r, c => .tup h (RpAll.less hb r (by simpa [clean] using c))
  | _, _, .dic (a := a) ha h r, c => by
    simp only [clean, Bool.and_eq_true, Bool.not_eq_true'] at c
    refine .dic ⟨ha, fun hB => ?_⟩ h (RpKV.less hb r c.2)
    rcases hb a hB with ⟨h1, ys, h2⟩ | ⟨h1, ys, h2⟩
    · rw [h] at h2; cases h2
    · rw [c.1] at h1; cases h1
theorem RpAll.less {A B : AS} {H : Hp} {l k : Bool} (hb : Bad B H l k) : ∀ {v : List V} {d : List PD}, RpAll A H v d → cleanAll l k d = true → RpAll (less A B) H v d
  | _, _, .nil, _ => .nil
  | _, _, .cons r h, c => by
    simp only [cleanAll, Bool.and_eq_true] at c
    exact .cons (Rp.less hb r c.1) (RpAll.less hb h c.2)
theorem RpKV.less {A B : AS} {H : Hp} {l k : Bool} (hb : Bad B H l k) : ∀ {v : List (Key × V)} {d : List (PD × PD)}, RpKV A H v d → cleanKV l k d = true → RpKV (less A B) H v d
  | _, _, .nil, _ => .nil
  | _, _, .cons r h, c => by
    simp only [cleanKV, Bool.and_eq_true] at c
    exact .cons (Rp.less hb r c.1) (RpKV.less hb h c.2)
end
def cleanTop (l k : Bool) : PD → Bool
  | .list ds => cleanAll l k ds
  | .dict ds => cleanKV l k ds
  | d => clean l k d
theorem OwnObj.less {A B : AS} {H : Hp} {l k : Bool} {p : Addr} {d : PD} (hb : Bad B H l k) (h : OwnObj A H p d) (c : cleanTop l k d = true) : OwnObj (less A B) H p d := by
  cases d <;> simp only [OwnObj] at h ⊢
  · obtain ⟨xs, e, r⟩ := h; exact ⟨xs, e, r.less hb c⟩
  · obtain ⟨xs, e, r⟩ := h; exact ⟨xs, e, r.less hb c⟩
def cleanRc (l k : Bool) : Rc → Bool
  | .val d => clean l k d
  | .fresh d => cleanTop l k d
def isOwn (ρ : Dn) (i : Nat) : Bool :=
  match ρ[i]? with
  | some (some (.own _ _)) => true
  | _ => false
def isOwnL (ρ : Dn) (i : Nat) : Bool :=
  match ρ[i]? with
  | some (some (.own _ (.list _))) => true
  | _ => false
def isOwnD (ρ : Dn) (i : Nat) : Bool :=
  match ρ[i]? with
  | some (some (.own _ (.dict _))) => true
  | _ => false
/-- the arguments: their data, the slots that are lent, the slots that are handed in to be changed -/
def prep : List Bool → List Rv → Dn → Option (List PD × List Nat × List Nat)
  | [], [], _ => some ([], [], [])
  | false :: ms, r :: rs, ρ => match rd r ρ, prep ms rs ρ with
    | some d, some (ds, bs, os) => some (d :: ds, (match r with
      | .slot i => if isOwn ρ i = true then i :: bs else bs
      | _ => bs), os)
    | _, _ => none
  | true :: ms, .slot i :: rs, ρ => match ρ[i]?, prep ms rs ρ with
    | some (some (.own _ d)), some (ds, bs, os) => if os.contains i = true then none else some (d :: ds, bs, i :: os)
    | _, _ => none
  | _, _, _ => none
def okBO (bs os : List Nat) : Bool := os.all fun i => !bs.contains i
def setOwn (ρ : Dn) (i : Nat) (d : PD) : Dn :=
  match ρ[i]? with
  | some (some (.own b _)) => ρ.set i (some (.own b d))
  | _ => ρ
def setOuts : List Nat → List PD → Dn → Dn
  | i :: is, d :: ds, ρ => setOuts is ds (setOwn ρ i d)
  | _, _, ρ => ρ
def eCall (ms : List Bool) (m : List PD → FR) (fa : M (List Rv)) : M Rv := bnd fa fun rs ρ =>
  match prep ms rs ρ with
  | none => .no
  | some (ds, bs, os) => if okBO bs os = true then
      match m ds with
      | .ok c outs => if (cleanRc (bs.any (isOwnL ρ)) (bs.any (isOwnD ρ)) c && outs.all (cleanTop (bs.any (isOwnL ρ)) (bs.any (isOwnD ρ)))) = true then .ok c.rv (setOuts os outs ρ) else .no
      | .ex e outs => if ((e.fs.map (·.2)).all (clean (bs.any (isOwnL ρ)) (bs.any (isOwnD ρ))) && outs.all (cleanTop (bs.any (isOwnL ρ)) (bs.any (isOwnD ρ)))) = true then .ex e (setOuts os outs ρ) else .no
      | .no => .no
    else .no
end DP
/-! DPY: calls of defs. -/
namespace DP
open PySem L2
def frA : List V → List Rv → List Addr
  | .ref a :: vs, .fresh _ :: rs => a :: frA vs rs
  | _ :: vs, _ :: rs => frA vs rs
  | _, _ => []
def BoA (σ : L2.St) (bs : List Nat) : AS := fun a => ∃ i ∈ bs, σ[i]? = some (some (.ref a))
inductive OsP (σ : L2.St) (ρ : Dn) : List Nat → List Addr → Prop
  | nil : OsP σ ρ [] []
  | cons {i : Nat} {p : Addr} {os : List Nat} {ps : List Addr} : σ[i]? = some (some (.ref p)) → (∃ b d, ρ[i]? = some (some (.own b d))) → i ∉ os → OsP σ ρ os ps → OsP σ ρ (i :: os) (p :: ps)
section
variable {K : PySem.W.Frag} {F : Ent} {Z : Hp} {A : AS} {H : Hp} {σ : L2.St} {ρ : Dn}
theorem OsP.mem : ∀ {os : List Nat} {ps : List Addr}, OsP σ ρ os ps → ∀ p ∈ ps, ∃ i ∈ os, σ[i]? = some (some (.ref p)) ∧ ∃ b d, ρ[i]? = some (some (.own b d))
  | _, _, .nil, p, h => nomatch h
  | _, _, .cons e o n r, p, h => by
    rcases List.mem_cons.mp h with rfl | h
    · exact ⟨_, by simp, e, o⟩
    · obtain ⟨i, hi, e', o'⟩ := OsP.mem r p h
      exact ⟨i, List.mem_cons_of_mem _ hi, e', o'⟩
theorem frA_mem : ∀ {vs : List V} {rs : List Rv}, RvRs F Z A H σ ρ vs rs → ∀ a ∈ frA vs rs, ¬ A a ∧ ¬ Ow σ ρ a ∧ F.H a = none ∧ Z a = none ∧ H a ≠ none
  | _, _, .nil, a, h => by simp [frA] at h
  | v :: _, r :: _, .cons h hs, a, ha => by
    cases r with
    | fresh d =>
      obtain ⟨p, rfl, ⟨h1, h2, h3, h4⟩, h5⟩ := h
      simp only [frA, List.mem_cons] at ha
      rcases ha with rfl | ha
      · exact ⟨h1, h2, h3, h4, h5.ne⟩
      · exact frA_mem hs a ha
    | val d => exact frA_mem hs a (by cases v <;> simpa [frA] using ha)
    | slot i => exact frA_mem hs a (by cases v <;> simpa [frA] using ha)
theorem prep_bs : ∀ {ms : List Bool} {rs : List Rv} {ds : List PD} {bs os : List Nat}, prep ms rs ρ = some (ds, bs, os) → ∀ i ∈ bs, isOwn ρ i = true
  | [], [], _, _, _, e, i, h => by simp [prep] at e; obtain ⟨_, rfl, _⟩ := e; cases h
  | [], _ :: _, _, _, _, e, i, h => by simp [prep] at e
  | false :: ms, [], _, _, _, e, i, h => by simp [prep] at e
  | true :: ms, [], _, _, _, e, i, h => by simp [prep] at e
  | false :: ms, r :: rs, ds, bs, os, e, i, h => by
    simp only [prep] at e
    cases e1 : rd r ρ with
    | none => rw [e1] at e; simp at e
    | some d =>
      rw [e1] at e
      cases e2 : prep ms rs ρ with
      | none => rw [e2] at e; simp at e
      | some q =>
        obtain ⟨ds', bs', os'⟩ := q
        rw [e2] at e
        simp only [Option.some.injEq, Prod.mk.injEq] at e
        obtain ⟨rfl, rfl, rfl⟩ := e
        have ih := prep_bs e2
        cases r with
        | val d => exact ih i h
        | fresh d => exact ih i h
        | slot j =>
          dsimp only at h
          split at h
          · rename_i ho
            rcases List.mem_cons.mp h with rfl | h
            · exact ho
            · exact ih i h
          · exact ih i h
  | true :: ms, .val _ :: rs, _, _, _, e, i, h => by simp [prep] at e
  | true :: ms, .fresh _ :: rs, _, _, _, e, i, h => by simp [prep] at e
  | true :: ms, .slot j :: rs, ds, bs, os, e, i, h => by
    simp only [prep] at e
    split at e
    · rename_i b d ds' bs' os' e1 e2
      split at e
      · cases e
      · simp only [Option.some.injEq, Prod.mk.injEq] at e
        obtain ⟨rfl, rfl, rfl⟩ := e
        exact prep_bs e2 i h
    · cases e
theorem prep_run (E : ER K F A H σ ρ) (Ac : AS) (hA : ∀ a, A a → Ac a) : ∀ {ms : List Bool} {rs : List Rv} {vs : List V} {ds : List PD} {bs os : List Nat}, RvRs F Z A H σ ρ vs rs → prep ms rs ρ = some (ds, bs, os) → (∀ a ∈ frA vs rs, Ac a) → (∀ a, BoA σ bs a → Ac a) →
    ∃ ps, OsP σ ρ os ps ∧ ((∀ p ∈ ps, ¬ Ac p) → ArgsR Ac H ms vs ds ps)
  | [], [], _, _, _, _, .nil, e, _, _ => by
    simp [prep] at e
    obtain ⟨rfl, rfl, rfl⟩ := e
    exact ⟨[], .nil, fun _ => .nil⟩
  | [], _ :: _, _, _, _, _, _, e, _, _ => by simp [prep] at e
  | false :: ms, [], _, _, _, _, _, e, _, _ => by simp [prep] at e
  | true :: ms, [], _, _, _, _, _, e, _, _ => by simp [prep] at e
  | false :: ms, r :: rs, v :: vs, ds, bs, os, .cons R Rs, e, hf, hb => by
    simp only [prep] at e
    cases e1 : rd r ρ with
    | none => rw [e1] at e; simp at e
    | some d =>
      rw [e1] at e
      cases e2 : prep ms rs ρ with
      | none => rw [e2] at e; simp at e
      | some q =>
        obtain ⟨ds', bs', os'⟩ := q
        rw [e2] at e
        simp only [Option.some.injEq, Prod.mk.injEq] at e
        obtain ⟨rfl, rfl, rfl⟩ := e
        have kp : Kp A Ac H H := ⟨hA, fun _ _ _ e => e, fun _ _ e => e⟩
        have hf' : ∀ a ∈ frA vs rs, Ac a := fun a ha => hf a (by
          cases r <;> cases v <;> simp [frA, ha])
        have hb' : ∀ a, BoA σ bs' a → Ac a := fun a ⟨i, hi, ei⟩ => hb a ⟨i, by
          cases r with
          | val d => exact hi
          | fresh d => exact hi
          | slot j => dsimp only; split <;> simp [hi], ei⟩
        obtain ⟨ps, h1, h2⟩ := prep_run E Ac hA Rs e2 hf' hb'
        refine ⟨ps, h1, fun hp => .imm ?_ (h2 hp)⟩
        cases r with
        | val d' => cases e1; exact Rp.kp kp R
        | fresh d' =>
          cases e1
          obtain ⟨p, rfl, _, o⟩ := R
          have hc : Ac p := hf p (by simp [frA])
          have hr := o.rp
          exact Rp.kp ⟨fun a z => z.elim (hA a) fun z => by subst z; exact hc, fun _ _ _ e => e, fun _ _ e => e⟩ hr
        | slot i =>
          obtain ⟨e3, s, e4⟩ := R
          simp only [rd, e4] at e1
          obtain ⟨v', e5, rr⟩ := E.slot i s e4
          rw [e3] at e5
          cases e5
          cases s with
          | imm d' => cases e1; exact Rp.kp kp rr
          | own b d' =>
            cases e1
            obtain ⟨p, rfl, n, o⟩ := rr
            have hc : Ac p := hb p ⟨i, by simp [isOwn, e4], e3⟩
            have hr := o.rp
            exact Rp.kp ⟨fun a z => z.elim (hA a) fun z => by subst z; exact hc, fun _ _ _ e => e, fun _ _ e => e⟩ hr
          | scr ns => cases e1
  | true :: ms, .val _ :: rs, _, _, _, _, _, e, _, _ => by simp [prep] at e
  | true :: ms, .fresh _ :: rs, _, _, _, _, _, e, _, _ => by simp [prep] at e
  | true :: ms, .slot j :: rs, v :: vs, ds, bs, os, .cons R Rs, e, hf, hb => by
    simp only [prep] at e
    split at e
    · rename_i b d ds' bs' os' e1 e2
      split at e
      · cases e
      · rename_i hn
        simp only [Option.some.injEq, Prod.mk.injEq] at e
        obtain ⟨rfl, rfl, rfl⟩ := e
        obtain ⟨e3, s, e4⟩ := R
        rw [e1] at e4
        cases e4
        obtain ⟨v', e5, p, rfl, n, o⟩ := E.slot j _ e1
        rw [e3] at e5
        cases e5
        have kp : Kp A Ac H H := ⟨hA, fun _ _ _ e => e, fun _ _ e => e⟩
        obtain ⟨ps, h1, h2⟩ := prep_run E Ac hA Rs e2 (fun a ha => hf a (by simpa [frA] using ha)) hb
        have hj : j ∉ os' := fun z => hn (by simpa using z)
        refine ⟨p :: ps, .cons e3 ⟨b, d, e1⟩ hj h1, fun hp => .inp (hp p (by simp)) (o.kp kp rfl) (fun hm => ?_) (h2 fun q hq => hp q (List.mem_cons_of_mem _ hq))⟩
        obtain ⟨i, hi, f1, b', d', f2⟩ := h1.mem p hm
        exact hj (by rw [E.dist j i b b' d d' p e1 f2 e3 f1]; exact hi)
    · cases e
theorem setOwn_at {i j : Nat} {d : PD} : (setOwn ρ i d)[j]? = if i = j ∧ isOwn ρ i = true then (match ρ[i]? with | some (some (.own b _)) => some (some (.own b d)) | o => o) else ρ[j]? := by
  unfold setOwn isOwn
  split
  · rename_i b d0 e
    by_cases h : i = j
    · subst h
      rw [if_pos ⟨rfl, rfl⟩]
      rw [get_set_self (List.getElem?_eq_some_iff.mp e).1]
      try rw [e]
    · rw [if_neg (fun z => h z.1), get_set_ne h]
  · rename_i h
    rw [if_neg (by intro z; simp at z)]
theorem setOwn_len {i : Nat} {d : PD} : (setOwn ρ i d).length = ρ.length := by
  unfold setOwn
  split <;> simp
end
/-- what the outs say of a slot -/
theorem setOuts_at {A : AS} {H : Hp} {σ : L2.St} : ∀ {os : List Nat} {ps : List Addr} {ρ : Dn} {outs : List PD}, OsP σ ρ os ps → OutsR A H ps outs → ∀ (j : Nat) (s : Sl), (setOuts os outs ρ)[j]? = some (some s) →
    (j ∉ os ∧ ρ[j]? = some (some s)) ∨ (∃ b d p, s = .own b d ∧ σ[j]? = some (some (.ref p)) ∧ p ∈ ps ∧ OwnObj A H p d ∧ ∃ d0, ρ[j]? = some (some (.own b d0)))
  | _, _, ρ, _, .nil, .nil, j, s, e => .inl ⟨by simp, e⟩
  | _, _, ρ, _, .cons (i := i) (p := p) (os := os) (ps := ps) e1 ⟨b, d0, e2⟩ hn r, .cons (d := d) (ds := ds) n o q, j, s, e => by
    have hs : ∀ k, k ≠ i → (setOwn ρ i d)[k]? = ρ[k]? := fun k hk => by rw [setOwn_at, if_neg fun z => hk z.1.symm]
    have hself : (setOwn ρ i d)[i]? = some (some (.own b d)) := by rw [setOwn_at, if_pos ⟨rfl, by simp [isOwn, e2]⟩, e2]
    have r' : OsP σ (setOwn ρ i d) os ps := by
      have : ∀ {os : List Nat} {ps : List Addr}, i ∉ os → OsP σ ρ os ps → OsP σ (setOwn ρ i d) os ps := by
        intro os ps hi h
        induction h with
        | nil => exact .nil
        | cons a1 a2 a3 _ ih =>
          simp only [List.mem_cons, not_or] at hi
          exact .cons a1 (by rw [hs _ (Ne.symm hi.1)]; exact a2) a3 (ih hi.2)
      exact this hn r
    simp only [setOuts] at e
    rcases setOuts_at r' q j s e with ⟨hj, h⟩ | ⟨b', d', p', h1, h2, h3, h4, d1, h5⟩
    · by_cases hij : j = i
      · subst hij
        rw [hself] at h
        cases h
        exact .inr ⟨b, d, p, rfl, e1, by simp, o, d0, e2⟩
      · rw [hs j hij] at h
        exact .inl ⟨by simp [hij, hj], h⟩
    · refine .inr ⟨b', d', p', h1, h2, List.mem_cons_of_mem _ h3, h4, ?_⟩
      by_cases hij : j = i
      · subst hij
        rw [hself] at h5
        cases h5
        exact ⟨d0, e2⟩
      · rw [hs j hij] at h5
        exact ⟨d1, h5⟩
theorem setOuts_len : ∀ {os : List Nat} {outs : List PD} {ρ : Dn}, (setOuts os outs ρ).length = ρ.length
  | [], _, _ => rfl
  | _ :: _, [], _ => rfl
  | i :: os, d :: ds, ρ => by simp only [setOuts]; rw [setOuts_len, setOwn_len]
theorem setOuts_keep : ∀ {os : List Nat} {outs : List PD} {ρ : Dn} {j : Nat} {s : Sl}, ρ[j]? = some (some s) → ∃ s', (setOuts os outs ρ)[j]? = some (some s') ∧ (∀ b d, s = .own b d → ∃ d', s' = .own b d') ∧ ((∀ b d, s ≠ .own b d) → s' = s)
  | [], _, _, _, s, e => ⟨s, e, fun b d h => ⟨d, h⟩, fun _ => rfl⟩
  | _ :: _, [], _, _, s, e => ⟨s, e, fun b d h => ⟨d, h⟩, fun _ => rfl⟩
  | i :: os, d :: ds, ρ, j, s, e => by
    simp only [setOuts]
    by_cases h : i = j ∧ isOwn ρ i = true
    · obtain ⟨rfl, ho⟩ := h
      have hown : ∃ b d0, s = .own b d0 := by
        unfold isOwn at ho
        rw [e] at ho
        cases s with
        | imm d => cases ho
        | own b d0 => exact ⟨b, d0, rfl⟩
        | scr ns => cases ho
      obtain ⟨b, d0, rfl⟩ := hown
      have e1 : (setOwn ρ i d)[i]? = some (some (.own b d)) := by rw [setOwn_at, if_pos ⟨rfl, ho⟩, e]
      obtain ⟨s', f1, f2, f3⟩ := setOuts_keep (os := os) (outs := ds) e1
      obtain ⟨d', rfl⟩ := f2 b d rfl
      exact ⟨_, f1, fun b' d'' z => by cases z; exact ⟨d', rfl⟩, fun n => absurd rfl (n b d0)⟩
    · have e1 : (setOwn ρ i d)[j]? = some (some s) := by rw [setOwn_at, if_neg h]; exact e
      exact setOuts_keep (os := os) (outs := ds) e1
section
variable {K : PySem.W.Frag} {mg : Str → Option Value} {F : Ent} {A0 A : AS} {H0 H : Hp} {σ : L2.St} {ρ0 ρ : Dn}
/-- behind a call: the state of the caller -/
theorem after_call {Ac A' : AS} {H' : Hp} {vs : List V} {rs : List Rv} {bs os : List Nat} {ps : List Addr} {outs : List PD} {l k : Bool} (E : ER K F A H σ ρ) (S : Step A0 H0 σ ρ0 A H ρ) (R : RvRs F H0 A H σ ρ vs rs) (hbs : ∀ i ∈ bs, isOwn ρ i = true)
    (hAc : ∀ a, Ac a ↔ (A a ∨ a ∈ frA vs rs ∨ BoA σ bs a)) (ho : OsP σ ρ os ps) (hok : okBO bs os = true) (hl : l = bs.any (isOwnL ρ)) (hk : k = bs.any (isOwnD ρ)) (fr : FrameF Ac H ps A' H') (out : OutsR A' H' ps outs) (hc : outs.all (cleanTop l k) = true) :
    ER K F (less A' (BoA σ bs)) H' σ (setOuts os outs ρ) ∧ Step A0 H0 σ ρ0 (less A' (BoA σ bs)) H' (setOuts os outs ρ) ∧ Bad (BoA σ bs) H' l k ∧ (∀ p, Ow σ (setOuts os outs ρ) p → Ow σ ρ p) := by
  have bow : ∀ a, BoA σ bs a → ∃ i b d, i ∈ bs ∧ ρ[i]? = some (some (.own b d)) ∧ σ[i]? = some (some (.ref a)) := fun a ⟨i, hi, e⟩ => by
    have := hbs i hi
    unfold isOwn at this
    split at this
    · rename_i b d e2; exact ⟨i, b, d, hi, e2, e⟩
    · cases this
  have pow : ∀ p ∈ ps, ∃ i b d, i ∈ os ∧ ρ[i]? = some (some (.own b d)) ∧ σ[i]? = some (some (.ref p)) := fun p hp => by
    obtain ⟨i, hi, e, b, d, e2⟩ := ho.mem p hp
    exact ⟨i, b, d, hi, e2, e⟩
  have bnp : ∀ a, BoA σ bs a → a ∉ ps := fun a hb hp => by
    obtain ⟨i, b, d, hi, e1, e2⟩ := bow a hb
    obtain ⟨j, b', d', hj, f1, f2⟩ := pow a hp
    have := E.dist i j b b' d d' a e1 f1 e2 f2
    subst this
    have := List.all_eq_true.mp hok i hj
    simp [hi] at this
  have ownNotA' : ∀ {i : Nat} {b : Bool} {d : PD} {p : Addr}, ρ[i]? = some (some (.own b d)) → σ[i]? = some (some (.ref p)) → ¬ less A' (BoA σ bs) p := fun {i b d p} e1 e2 ⟨z, nb⟩ => by
    obtain ⟨h1, h2⟩ := E.ow ⟨i, b, d, e1, e2⟩
    rcases fr.grow p z with q | q
    · rcases (hAc p).mp q with q | q | q
      · exact h1 q
      · exact (frA_mem R p q).2.1 ⟨i, b, d, e1, e2⟩
      · exact nb q
    · rw [q] at h2; exact h2
  have kp : Kp A (less A' (BoA σ bs)) H H' := by
    refine ⟨fun a ha => ⟨fr.mono a ((hAc a).mpr (.inl ha)), fun hb => ?_⟩, fun a o ha e => fr.kp a o e fun hp => ?_, fun a xs e => fr.kp a _ e fun hp => ?_⟩
    · obtain ⟨i, b, d, _, e1, e2⟩ := bow a hb
      exact (E.ow ⟨i, b, d, e1, e2⟩).1 ha
    · obtain ⟨i, b, d, _, e1, e2⟩ := pow a hp
      exact (E.ow ⟨i, b, d, e1, e2⟩).1 ha
    · obtain ⟨i, b, d, _, e1, e2⟩ := pow a hp
      have := (E.ow ⟨i, b, d, e1, e2⟩).2
      rw [e] at this
      exact this
  have bad : Bad (BoA σ bs) H' l k := fun a hb => by
    obtain ⟨i, b, d, hi, e1, e2⟩ := bow a hb
    obtain ⟨v, e3, p, rfl, n, o⟩ := E.slot i _ e1
    rw [e2] at e3
    cases e3
    cases d with
    | list ds =>
      obtain ⟨xs, ex, _⟩ := o
      refine .inl ⟨?_, xs, fr.kp _ _ ex (bnp _ hb)⟩
      rw [hl]
      exact List.any_eq_true.mpr ⟨i, hi, by simp [isOwnL, e1]⟩
    | dict ds =>
      obtain ⟨xs, ex, _⟩ := o
      refine .inr ⟨?_, xs, fr.kp _ _ ex (bnp _ hb)⟩
      rw [hk]
      exact List.any_eq_true.mpr ⟨i, hi, by simp [isOwnD, e1]⟩
    | none => exact o.elim
    | bool _ => exact o.elim
    | int _ => exact o.elim
    | str _ => exact o.elim
    | tuple _ => exact o.elim
  have outc : ∀ {ps : List Addr} {outs : List PD}, OutsR A' H' ps outs → outs.all (cleanTop l k) = true → OutsR (less A' (BoA σ bs)) H' ps outs := by
    intro ps outs h
    induction h with
    | nil => intro _; exact .nil
    | cons n o _ ih =>
      intro hc
      simp only [List.all_cons, Bool.and_eq_true] at hc
      exact .cons (fun z => n z.1) (o.less bad hc.1) (ih hc.2)
  have out' := outc out hc
  have keepS : ∀ {b : Addr} {o : HO}, H b = some o → ¬ isLD (some o) → H' b = some o := fun {b o} e n => fr.kp b o e fun hp => by
    obtain ⟨i, bb, d, _, e1, e2⟩ := pow b hp
    have := (E.ow ⟨i, bb, d, e1, e2⟩).2
    rw [e] at this
    exact n this
  have osub : ∀ p, Ow σ (setOuts os outs ρ) p → Ow σ ρ p := fun p ⟨i, b, d, e1, e2⟩ => by
    rcases setOuts_at ho out' i _ e1 with ⟨_, h⟩ | ⟨b', d', q, h1, h2, h3, h4, d0, h5⟩
    · exact ⟨i, b, d, h, e2⟩
    · exact ⟨i, b', d0, h5, e2⟩
  refine ⟨⟨by rw [setOuts_len, E.len], fun i s e => ?_, fun i j b b' d d' p e1 e2 e3 e4 => ?_, fun a ha => fr.dom a ha.1, fun b o e n => ?_, fun a ha => kp.sub a (E.mono a ha), fun a ha => ?_, fun i b d p e1 e2 => ?_, fun p hp => ?_, fun q hq => ?_⟩, ⟨fun b o e n => ?_, fun a ha => kp.sub a (S.mono a ha), fun a ha => ?_, fun p h => S.sub p (osub p h), fun i s e => ?_, fun b e => S.live b (fr.live b e), by rw [setOuts_len, S.len]⟩, bad, osub⟩
  · rcases setOuts_at ho out' i s e with ⟨hi, h⟩ | ⟨b, d, p, rfl, h2, h3, h4, d0, h5⟩
    · obtain ⟨v, e1, r⟩ := E.slot i s h
      refine ⟨v, e1, ?_⟩
      cases s with
      | imm d => exact Rp.kp kp r
      | own b d =>
        obtain ⟨p, rfl, n, o⟩ := r
        refine ⟨p, rfl, ownNotA' h e1, o.kp kp ?_⟩
        cases ep : H p with
        | none => exact absurd ep o.ne
        | some ob =>
          refine fr.kp p ob ep fun hp => ?_
          obtain ⟨j, b', d', hj, f1, f2⟩ := pow p hp
          have := E.dist i j b b' d d' p h f1 e1 f2
          subst this
          exact hi hj
      | scr ns =>
        obtain ⟨p, rfl, q⟩ := r
        exact ⟨p, rfl, q.kp fun o u z => keepS z fun z => z⟩
    · exact ⟨.ref p, h2, p, rfl, ownNotA' h5 h2, h4⟩
  · rcases setOuts_at ho out' i _ e1 with ⟨_, h⟩ | ⟨b1, d1, q1, _, _, _, _, d0, h⟩
    · rcases setOuts_at ho out' j _ e2 with ⟨_, g⟩ | ⟨b2, d2, q2, _, _, _, _, d3, g⟩
      · exact E.dist i j _ _ _ _ p h g e3 e4
      · exact E.dist i j _ _ _ _ p h g e3 e4
    · rcases setOuts_at ho out' j _ e2 with ⟨_, g⟩ | ⟨b2, d2, q2, _, _, _, _, d3, g⟩
      · exact E.dist i j _ _ _ _ p h g e3 e4
      · exact E.dist i j _ _ _ _ p h g e3 e4
  · refine fr.kp b o (E.kp b o e n) fun hp => ?_
    obtain ⟨i, bb, d, _, e1, e2⟩ := pow b hp
    have := E.ownF i bb d b e1 e2
    cases bb with
    | true => exact n (by simpa using this)
    | false => rw [if_neg (by simp)] at this; rw [this] at e; cases e
  · obtain ⟨z, nb⟩ := ha
    rcases fr.grow a z with q | q
    · rcases (hAc a).mp q with q | q | q
      · exact E.grow a q
      · exact .inr (frA_mem R a q).2.2.1
      · exact absurd q nb
    · exact .inr (E.fnone q)
  · rcases setOuts_at ho out' i _ e1 with ⟨_, h⟩ | ⟨b', d', q, h1, h2, h3, h4, d0, h5⟩
    · exact E.ownF i b d p h e2
    · cases h1
      exact E.ownF i b d0 p h5 e2
  · obtain ⟨q, hq, rfl⟩ := hp
    obtain ⟨e1, d, e2⟩ := E.ins q hq
    exact ownNotA' e2 e1
  · obtain ⟨e1, d, e2⟩ := E.ins q hq
    obtain ⟨s', f1, f2, _⟩ := setOuts_keep (os := os) (outs := outs) e2
    obtain ⟨d', rfl⟩ := f2 true d rfl
    exact ⟨e1, d', f1⟩
  · refine fr.kp b o (S.kp b o e n) fun hp => n (S.sub b ?_)
    obtain ⟨i, bb, d, _, e1, e2⟩ := pow b hp
    exact ⟨i, bb, d, e1, e2⟩
  · obtain ⟨z, nb⟩ := ha
    rcases fr.grow a z with q | q
    · rcases (hAc a).mp q with q | q | q
      · exact S.grow a q
      · exact .inr (.inl (frA_mem R a q).2.2.2.1)
      · exact absurd q nb
    · exact .inr (.inl (S.live a q))
  · obtain ⟨s1, e1⟩ := S.def_ i s e
    obtain ⟨s2, e2, _⟩ := setOuts_keep (os := os) (outs := outs) e1
    exact ⟨s2, e2⟩
end
section
variable {X : Cx} {W : WX} {CX : CXT} {k : Nat} {f : Addr} {fd : FuncData} {ps : List Str} {x : Str} {p pos : Pos} {e : Expr} {es : List Expr} {fs : M (List Rv)} {ms : List Bool} {m : List PD → FR}
/-- what a call asks, by its arguments -/
theorem call_run {t : TA} (ha : ∀ F A H σ ρ, ER X.K F A H σ ρ → ∀ Q : List V → Hp → Prop, Pst X.K X.mg W F A H σ ρ (RA F H σ) Q (fs ρ) → t σ H Q) :
    ∀ F A H σ ρ, ER X.K F A H σ ρ → ∀ Q : VK, Pst X.K X.mg W F A H σ ρ (RE F H σ) Q (eCall ms m fs ρ) → t σ H (fun vs H1 => spD X.mg ms m vs H1 Q fun cls d H' => W cls d σ H') := by
  intro F A H σ ρ E Q h
  refine ha F A H σ ρ E _ (h.split fun rs ρ1 A1 H1 vs E1 S1 R1 h1 => ?_)
  cases ep : prep ms rs ρ1 with
  | none => simp only [ep] at h1; exact h1.elim
  | some q =>
    obtain ⟨ds, bs, os⟩ := q
    simp only [ep] at h1
    by_cases hok : okBO bs os = true
    case neg => rw [if_neg hok] at h1; exact h1.elim
    rw [if_pos hok] at h1
    have hbs := prep_bs ep
    generalize hAc : (fun a => A1 a ∨ a ∈ frA vs rs ∨ BoA σ bs a : AS) = Ac
    have hAc' : ∀ a, Ac a ↔ (A1 a ∨ a ∈ frA vs rs ∨ BoA σ bs a) := fun a => by rw [← hAc]
    obtain ⟨qs, ho, hargs⟩ := prep_run E1 Ac (fun a h => (hAc' a).mpr (.inl h)) R1 ep (fun a h => (hAc' a).mpr (.inr (.inl h))) fun a h => (hAc' a).mpr (.inr (.inr h))
    have hdom : ∀ a, Ac a → H1 a ≠ none := fun a h => by
      rcases (hAc' a).mp h with h | h | ⟨i, hi, e⟩
      · exact E1.dom a h
      · exact (frA_mem R1 a h).2.2.2.2
      · have := hbs i hi
        unfold isOwn at this
        split at this
        · rename_i b d e2
          intro z
          have q := (E1.ow ⟨i, b, d, e2, e⟩).2
          rw [z] at q
          exact q
        · cases this
    have hqs : ∀ p ∈ qs, ¬ Ac p := fun p hp z => by
      obtain ⟨i, hi, e1, b, d, e2⟩ := ho.mem p hp
      rcases (hAc' p).mp z with z | z | ⟨j, hj, f⟩
      · exact (E1.ow ⟨i, b, d, e2, e1⟩).1 z
      · exact (frA_mem R1 p z).2.1 ⟨i, b, d, e2, e1⟩
      · have := hbs j hj
        unfold isOwn at this
        split at this
        · rename_i b' d' f2
          have := E1.dist i j b b' d d' p e2 f2 e1 f
          subst this
          have := List.all_eq_true.mp hok i hi
          simp [hj] at this
        · cases this
    refine ⟨Ac, ds, qs, hdom, hargs hqs, ?_⟩
    cases em : m ds with
    | no => rw [em] at h1; exact h1.elim
    | ok c outs =>
      rw [em] at h1
      dsimp only at h1
      split at h1
      · rename_i hc
        simp only [Bool.and_eq_true] at hc
        intro A' H' v fr out res
        obtain ⟨E2, S2, bad, osub⟩ := after_call E1 S1 R1 hbs hAc' ho hok rfl rfl fr out hc.2
        refine h1 _ H' v E2 S2 ?_
        cases c with
        | val d => exact Rp.less bad res hc.1
        | fresh d =>
          obtain ⟨p, rfl, n, hn, o⟩ := res
          exact ⟨p, rfl, ⟨fun z => n z.1, fun z => E1.owne hn (osub p z), E1.fnone hn, S1.live p hn⟩, o.less bad hc.1⟩
      · exact h1.elim
    | ex x outs =>
      rw [em] at h1
      dsimp only at h1
      split at h1
      · rename_i hc
        simp only [Bool.and_eq_true] at hc
        intro A' H' cls d fr out xr
        obtain ⟨E2, S2, bad, osub⟩ := after_call E1 S1 R1 hbs hAc' ho hok rfl rfl fr out hc.2
        refine h1 _ H' cls d E2 S2 ?_
        obtain ⟨C, h2, h3, h4⟩ := xr
        refine ⟨C, h2, h3, h4.imp id ?_⟩
        rintro ⟨da, fs, g1, g2, g3, g4⟩
        refine ⟨da, fs, g1, g2, g3, g4.less bad ?_⟩
        have : ∀ l : List PD, l.all (clean (bs.any (isOwnL ρ1)) (bs.any (isOwnD ρ1))) = true → cleanAll (bs.any (isOwnL ρ1)) (bs.any (isOwnD ρ1)) l = true := by
          intro l
          induction l with
          | nil => intro _; simp [cleanAll]
          | cons a l ih => intro h; simp only [List.all_cons, Bool.and_eq_true] at h; simp only [cleanAll, Bool.and_eq_true]; exact ⟨h.1, ih h.2⟩
        exact this _ hc.1
      · exact h1.elim
theorem sim_call (F : FnOk X.prog X.w X.K X.mg X.base CX k f fd ps (spD X.mg ms m)) (hr : Room k X.A) (hg : Gl X x) (hm : X.mg x = some (.ref f)) (hk : PySem.W.keepIn X.K (.ref f) = true) (hb : Binds X.K fd ps []) (hx : ∀ σ, PassesAt CX X σ (fun cls d H => W cls d σ H)) (ha : SimA X W (e :: es) fs)
    (hdb : (x == ("__debug__" : Str)) = false := by decide) (he : starEach (e :: es) X.env = (false, eval e X.env) :: starEach es X.env := by rfl) (hpl : (backTo pos (starEach es X.env)).any (·.1) = false := by rfl) : SimE X W (.Call (.Name x p) (e :: es) [] pos) (eCall ms m fs) := by
  obtain ⟨t, pa, ha⟩ := ha
  exact ⟨_, pe_callS (E := fun σ cls d H => W cls d σ H) F hr hg hm hk hb hx pa hdb he hpl, call_run ha⟩
theorem pass0S (σ : L2.St) (E : XK) : PassesAt CX0 X σ E := fun _ _ _ _ _ _ h => h.elim
end
end DP
/-! DPO: the operations. -/
namespace DP
open PySem L2
section
variable {A : AS} {H H' : Hp} {v : V} {d : PD}
theorem nr_val (r : Rp A H v d) : NewR A H H v (.val d) := ⟨fun _ _ e => e, r⟩
theorem new_ext {p : Addr} {o : HO} (hp : H p = none) : ∀ b u, H b = some u → upd H p o b = some u := fun b u e => by rw [upd_ne (ne_of_none e hp)]; exact e
theorem nr_tup {p : Addr} {xs : List V} {ds : List PD} (hp : H p = none) (r : RpAll A H xs ds) : NewR A H (upd H p (.tup xs)) (.ref p) (.val (.tuple ds)) := ⟨new_ext hp, .tup upd_same (r.kp (Kp.ext (new_ext hp)))⟩
theorem nr_lst {p : Addr} {xs : List V} {ds : List PD} (hp : H p = none) (r : RpAll A H xs ds) : NewR A H (upd H p (.lst xs)) (.ref p) (.fresh (.list ds)) := ⟨new_ext hp, p, rfl, hp, xs, upd_same, r.kp (Kp.ext (new_ext hp))⟩
end
theorem Op2.or {r r' : R2} {g g' : PD → PD → Option Rc} (h : Op2 r g) (h' : Op2 r' g') : Op2 (fun x y H Q => r x y H Q ∨ r' x y H Q) (fun a b => match g a b with | some c => some c | none => g' a b) := by
  refine ⟨fun A H x y d1 d2 c Q hd hx hy e q => ?_⟩
  cases e1 : g d1 d2 with
  | some c' =>
    rw [e1] at e
    cases e
    exact .inl (h.run A H x y d1 d2 c Q hd hx hy e1 q)
  | none =>
    rw [e1] at e
    exact .inr (h'.run A H x y d1 d2 c Q hd hx hy e q)
/-! ints -/
def gI (C : Int → Int → Bool) (f : Int → Int → PD) : PD → PD → Option Rc
  | .int i, .int j => if C i j = true then some (.val (f i j)) else none
  | _, _ => none
def scV : PD → V
  | .bool b => .bl b
  | .int i => .int i
  | .str x => .str x
  | _ => .non
def isSc : PD → Bool
  | .none | .bool _ | .int _ | .str _ => true
  | _ => false
theorem rp_sc {A : AS} {H : Hp} : ∀ {d : PD}, isSc d = true → Rp A H (scV d) d
  | .none, _ => .non
  | .bool b, _ => .bl b
  | .int i, _ => .int i
  | .str x, _ => .str x
  | .list _, h => nomatch h
  | .tuple _, h => nomatch h
  | .dict _, h => nomatch h
theorem gI_eq {C : Int → Int → Bool} {f : Int → Int → PD} {d1 d2 : PD} {c : Rc} (h : gI C f d1 d2 = some c) : ∃ i j, d1 = .int i ∧ d2 = .int j ∧ C i j = true ∧ c = .val (f i j) := by
  unfold gI at h
  split at h
  · rename_i i j
    split at h
    · rename_i hc
      cases h
      exact ⟨i, j, rfl, rfl, hc, rfl⟩
    · cases h
  · cases h
theorem op_rI {C : Int → Int → Prop} {B : Int → Int → Bool} {f : Int → Int → PD} (hB : ∀ i j, B i j = true → C i j) (hs : ∀ i j, isSc (f i j) = true) : Op2 (rI C fun i j => scV (f i j)) (gI B f) :=
  ⟨fun A H x y d1 d2 c Q _ hx hy e q => by
    obtain ⟨i, j, rfl, rfl, hc, rfl⟩ := gI_eq e
    exact ⟨i, j, hx.int, hy.int, hB i j hc, q _ _ (nr_val (rp_sc (hs i j)))⟩⟩
theorem op_rI0 {f : Int → Int → PD} (hs : ∀ i j, isSc (f i j) = true) : Op2 (rI0 fun i j => scV (f i j)) (gI (fun _ _ => true) f) :=
  ⟨fun A H x y d1 d2 c Q _ hx hy e q => by
    obtain ⟨i, j, rfl, rfl, hc, rfl⟩ := gI_eq e
    exact ⟨i, j, hx.int, hy.int, q _ _ (nr_val (rp_sc (hs i j)))⟩⟩
abbrev yesB : Int → Int → Bool := fun _ _ => true
def gAddI := gI yesB fun i j => .int (i + j)
def gSub := gI yesB fun i j => .int (i - j)
def mulOk (i j : Int) : Bool := decide (-(2 ^ 64) < i ∧ i < 2 ^ 64) || decide (-(2 ^ 64) < j ∧ j < 2 ^ 64)
def gMulI := gI mulOk fun i j => .int (i * j)
def divOk (_ j : Int) : Bool := decide (0 < j ∧ j < 2 ^ 200)
def gFdiv := gI divOk fun i j => .int (i / j)
def gMod := gI (fun _ j => decide (0 < j)) fun i j => .int (i % j)
def powOk (i j : Int) : Bool := decide (0 ≤ j ∧ j ≤ 1000000) && decide (i.natAbs < 2 ^ 64)
def gPow := gI powOk fun i j => .int (i ^ j.toNat)
def gShl := gI powOk fun i j => .int (i * 2 ^ j.toNat)
def gLt := gI yesB fun i j => .bool (decide (i < j))
def gLe := gI yesB fun i j => .bool (decide (i ≤ j))
def gGt := gI yesB fun i j => .bool (decide (j < i))
def gGe := gI yesB fun i j => .bool (decide (j ≤ i))
theorem o2_addI : Op2 (rI0 fun i j => .int (i + j)) gAddI := op_rI0 (f := fun i j => .int (i + j)) fun _ _ => rfl
theorem o2_sub : Op2 (rI0 fun i j => .int (i - j)) gSub := op_rI0 (f := fun i j => .int (i - j)) fun _ _ => rfl
theorem o2_mulI : Op2 (rI CMul fun i j => .int (i * j)) gMulI := op_rI (C := CMul) (B := mulOk) (f := fun i j => .int (i * j)) (fun i j h => by
  simp only [mulOk, Bool.or_eq_true, decide_eq_true_eq] at h
  exact h) fun _ _ => rfl
theorem o2_fdiv : Op2 (rI CDivW fun i j => .int (i / j)) gFdiv := op_rI (C := CDivW) (B := divOk) (f := fun i j => .int (i / j)) (fun i j h => by
  have h' := of_decide_eq_true h
  exact wide_div (b := 200) h'.1 (by omega) (by decide) (by decide)) fun _ _ => rfl
theorem o2_mod : Op2 (rI (fun _ j => 0 < j) fun i j => .int (i % j)) gMod := op_rI (C := fun _ j => 0 < j) (B := fun _ j => decide (0 < j)) (f := fun i j => .int (i % j)) (fun i j h => of_decide_eq_true h) fun _ _ => rfl
theorem o2_pow : Op2 (rI CPow fun i j => .int (i ^ j.toNat)) gPow := op_rI (C := CPow) (B := powOk) (f := fun i j => .int (i ^ j.toNat)) (fun i j h => by
  simp only [powOk, Bool.and_eq_true, decide_eq_true_eq] at h
  exact ⟨h.1.1, h.1.2, h.2⟩) fun _ _ => rfl
theorem o2_shl : Op2 (rI CPow fun i j => .int (i * 2 ^ j.toNat)) gShl := op_rI (C := CPow) (B := powOk) (f := fun i j => .int (i * 2 ^ j.toNat)) (fun i j h => by
  simp only [powOk, Bool.and_eq_true, decide_eq_true_eq] at h
  exact ⟨h.1.1, h.1.2, h.2⟩) fun _ _ => rfl
theorem o2_lt : Op2 (rI0 fun i j => .bl (decide (i < j))) gLt := op_rI0 (f := fun i j => .bool (decide (i < j))) fun _ _ => rfl
theorem o2_le : Op2 (rI0 fun i j => .bl (decide (i ≤ j))) gLe := op_rI0 (f := fun i j => .bool (decide (i ≤ j))) fun _ _ => rfl
theorem o2_gt : Op2 (rI0 fun i j => .bl (decide (j < i))) gGt := op_rI0 (f := fun i j => .bool (decide (j < i))) fun _ _ => rfl
theorem o2_ge : Op2 (rI0 fun i j => .bl (decide (j ≤ i))) gGe := op_rI0 (f := fun i j => .bool (decide (j ≤ i))) fun _ _ => rfl
/-! lists, tuples -/
def gCat : PD → PD → Option Rc
  | .list xs, .list ys => if smallL (xs.length + ys.length) = true then some (.fresh (.list (xs ++ ys))) else none
  | _, _ => none
theorem o2_cat : Op2 rCat gCat := ⟨fun A H x y d1 d2 c Q _ hx hy e q => by
  unfold gCat at e
  split at e
  · rename_i xs ys
    split at e
    · rename_i hz
      cases e
      obtain ⟨l, us, rfl, h1, r1⟩ := hx.list
      obtain ⟨b, ws, rfl, h2, r2⟩ := hy.list
      exact ⟨l, b, us, ws, rfl, rfl, h1, h2, by rw [r1.length, r2.length]; exact smallL_le hz, fun p hp => q _ _ (nr_lst hp (r1.append r2))⟩
    · cases e
  · cases e⟩
def gCatT : PD → PD → Option Rc
  | .tuple xs, .tuple ys => if smallL (xs.length + ys.length) = true then some (.val (.tuple (xs ++ ys))) else none
  | _, _ => none
theorem RpAll.nilD {A : AS} {H : Hp} {xs : List V} (h : RpAll A H xs []) : xs = [] := by cases h; rfl
theorem RpAll.nilV {A : AS} {H : Hp} {ds : List PD} (h : RpAll A H [] ds) : ds = [] := by cases h; rfl
theorem o2_catT (K : PySem.W.Frag) : Op2 (rCatA K) gCatT := ⟨fun A H x y d1 d2 c Q _ hx hy e q => by
  unfold gCatT at e
  split at e
  · rename_i xs ys
    split at e
    · rename_i hz
      cases e
      obtain ⟨l, us, rfl, h1, r1⟩ := hx.tup
      obtain ⟨b, ws, rfl, h2, r2⟩ := hy.tup
      refine ⟨l, b, us, ws, rfl, rfl, SqT.of h1, SqT.of h2, by rw [r1.length, r2.length]; exact smallL_le hz, fun h => ?_, fun _ h => ?_, fun _ _ p hp => q _ _ (nr_tup hp (r1.append r2))⟩
      · subst h
        have := r1.nilV
        subst this
        exact q _ _ (nr_val (.tup h2 r2))
      · subst h
        have := r2.nilV
        subst this
        rw [List.append_nil] at q
        exact q _ _ (nr_val (.tup h1 r1))
    · cases e
  · cases e⟩
def gCatS : PD → PD → Option Rc
  | .str x, .str y => if smallL (x.length + y.length) = true then some (.val (.str (x ++ y))) else none
  | _, _ => none
theorem o2_catS : Op2 (fun x y H Q => ∃ i j, x = .str i ∧ y = .str j ∧ i.length + j.length ≤ sizeLine ∧ Q (.str (i ++ j)) H) gCatS := ⟨fun A H x y d1 d2 c Q _ hx hy e q => by
  unfold gCatS at e
  split at e
  · split at e
    · rename_i hz
      cases e
      exact ⟨_, _, hx.str, hy.str, smallL_le hz, q _ _ (nr_val (.str _))⟩
    · cases e
  · cases e⟩
/-- a + b -/
def gAdd : PD → PD → Option Rc
  | .int i, .int j => some (.val (.int (i + j)))
  | .list xs, .list ys => if smallL (xs.length + ys.length) = true then some (.fresh (.list (xs ++ ys))) else none
  | .tuple xs, .tuple ys => if smallL (xs.length + ys.length) = true then some (.val (.tuple (xs ++ ys))) else none
  | .str x, .str y => if smallL (x.length + y.length) = true then some (.val (.str (x ++ y))) else none
  | _, _ => none
theorem Op2.imp {r : R2} {g g' : PD → PD → Option Rc} (h : Op2 r g) (e : ∀ a b c, g' a b = some c → g a b = some c) : Op2 r g' := ⟨fun A H x y d1 d2 c Q hd hx hy e1 q => h.run A H x y d1 d2 c Q hd hx hy (e _ _ _ e1) q⟩
def rAddAll (K : PySem.W.Frag) : R2 := fun x y H Q => (rI0 (fun i j => .int (i + j)) x y H Q) ∨ (rCat x y H Q ∨ (rCatA K x y H Q ∨ (∃ i j, x = .str i ∧ y = .str j ∧ i.length + j.length ≤ sizeLine ∧ Q (.str (i ++ j)) H)))
theorem or_add {X : Cx} : OpR X (binaryOp .Add) (rAddAll X.K) := op_add.or (op_cat.or (op_catA.or op_add_str))
theorem o2_add (K : PySem.W.Frag) : Op2 (rAddAll K) gAdd := (o2_addI.or (o2_cat.or ((o2_catT K).or o2_catS))).imp fun a b c h => by
  unfold gAdd at h
  split at h
  · cases h; rfl
  · simp only [gAddI, gI, gCat]; rw [h]
  · simp only [gAddI, gI, gCat, gCatT]; rw [h]
  · simp only [gAddI, gI, gCat, gCatT, gCatS]; exact h
  · cases h
/-! == -/
mutual
theorem Rp.dp {K : PySem.W.Frag} {A : AS} {H : Hp} : ∀ {v : V} {d : PD}, Rp A H v d → d.canLay0 = true → Dp K H v d
  | _, _, .non, _ => .non
  | _, _, .bl b, _ => .bl b
  | _, _, .int i, _ => .int i
  | _, _, .str x, _ => .str x
  | _, _, .lst _ h r, c => .lst (SqL.of h) (RpAll.dp r (by simpa [PyData.canLay0] using c))
  | _, _, .tup h r, c => .tup (SqT.of h) (RpAll.dp r (by simpa [PyData.canLay0] using c))
  | _, _, .dic _ _ _, c => by simp [PyData.canLay0] at c
theorem RpAll.dp {K : PySem.W.Frag} {A : AS} {H : Hp} : ∀ {v : List V} {d : List PD}, RpAll A H v d → PyData.canLayAll0 d = true → DpAll K H v d
  | _, _, .nil, _ => .nil
  | _, _, .cons r h, c => by
    simp only [PyData.canLayAll0, Bool.and_eq_true] at c
    exact .cons (Rp.dp r c.1) (RpAll.dp h c.2)
end
theorem Rt.dp {K : PySem.W.Frag} {A : AS} {H : Hp} {v : V} {d : PD} (h : Rt A H v d) (c : d.canLay0 = true) : Dp K H v d := by
  rcases h with h | ⟨p, rfl, o⟩
  · exact h.dp c
  · cases d <;> simp only [OwnObj] at o
    · obtain ⟨xs, e, r⟩ := o
      exact .lst (SqL.of e) (r.dp (by simpa [PyData.canLay0] using c))
    · simp [PyData.canLay0] at c
def gEq (neg : Bool) : PD → PD → Option Rc := fun d e => if (SeqAt.shaped d && SeqAt.shaped e) = true then some (.val (.bool (if neg = true then !PyData.eqv d e else PyData.eqv d e))) else none
theorem o2_eq (K : PySem.W.Frag) : Op2 (rEqD K) (gEq false) := ⟨fun A H x y d1 d2 c Q _ hx hy e q => by
  unfold gEq at e
  split at e
  · rename_i h
    cases e
    simp only [Bool.and_eq_true] at h
    exact ⟨d1, d2, hx.dp (SeqAt.canLay_of_shaped h.1), hy.dp (SeqAt.canLay_of_shaped h.2), h.1, h.2, q _ _ (nr_val (.bl _))⟩
  · cases e⟩
theorem o2_ne (K : PySem.W.Frag) : Op2 (rNeD K) (gEq true) := ⟨fun A H x y d1 d2 c Q _ hx hy e q => by
  unfold gEq at e
  split at e
  · rename_i h
    cases e
    simp only [Bool.and_eq_true] at h
    exact ⟨d1, d2, hx.dp (SeqAt.canLay_of_shaped h.1), hy.dp (SeqAt.canLay_of_shaped h.2), h.1, h.2, q _ _ (nr_val (.bl _))⟩
  · cases e⟩
/-! x in xs -/
def keyD : PD → Option Key
  | .int i => some (.inl i)
  | .str x => some (.inr x)
  | _ => none
def keyIsD (k : Key) : PD → Bool
  | .int i => match k with
    | .inl j => decide (i = j)
    | _ => false
  | .str x => match k with
    | .inr y => decide (x = y)
    | _ => false
  | _ => false
/-- d[k] -/
def look (k : Key) : List (PD × PD) → Option PD
  | [] => none
  | (q, d) :: r => if keyIsD k q = true then some d else look k r
theorem keyIsD_kD (k q : Key) : keyIsD k (kD q) = decide (q = k) := by
  cases q <;> cases k <;> simp [kD, keyIsD]
theorem look_valV {A : AS} {H : Hp} {k : Key} : ∀ {kvs : List (Key × V)} {ds : List (PD × PD)}, RpKV A H kvs ds → (look k ds = none ∧ valV kvs k = none) ∨ (∃ d v, look k ds = some d ∧ valV kvs k = some v ∧ Rp A H v d)
  | _, _, .nil => .inl ⟨rfl, rfl⟩
  | _, _, .cons (k := q) (v := v) (d := d) r h => by
    simp only [look, keyIsD_kD]
    by_cases e : q = k
    · right
      exact ⟨d, v, by simp [e], valV_pos e, r⟩
    · rw [valV_neg e]
      rcases look_valV h with ⟨h1, h2⟩ | ⟨d', v', h1, h2, h3⟩
      · left; exact ⟨by simp [e, h1], h2⟩
      · right; exact ⟨d', v', by simp [e, h1], h2, h3⟩
def gIn (neg : Bool) : PD → PD → Option Rc
  | d, .list ds => if (SeqAt.shaped d && SeqAt.shaped (.list ds)) = true then some (.val (.bool (if neg = true then !(ds.any fun z => PyData.eqv z d) else ds.any fun z => PyData.eqv z d))) else none
  | d, .tuple ds => if (isSc d && ds.all isSc) = true then some (.val (.bool (if neg = true then !(ds.any fun z => PyData.eqv z d) else ds.any fun z => PyData.eqv z d))) else none
  | d, .dict kvs => match keyD d with
    | some k => some (.val (.bool (if neg = true then !(look k kvs).isSome else (look k kvs).isSome)))
    | none => none
  | _, _ => none
def rInDct : R2 := fun x y H Q => ∃ a k kvs, y = .ref a ∧ x = kV k ∧ H a = some (.dK kvs) ∧ Q (.bl (valV kvs k).isSome) H
def rNotInDct : R2 := fun x y H Q => ∃ a k kvs, y = .ref a ∧ x = kV k ∧ H a = some (.dK kvs) ∧ Q (.bl (!(valV kvs k).isSome)) H
theorem or_inDct {X : Cx} (hu : X.A.units + 1 < cLine) : OpR X (compareOp .In) rInDct := by
  intro pins s σ H x y v u Q I rx ry ⟨a, k, kvs, e1, e2, h, q⟩
  subst e1 e2
  obtain rfl : u = Value.ref a := ry
  exact d_in hu I (DGet.k h) rx fun s3 I3 => ⟨.bl _, H, I3, rfl, q⟩
theorem or_notInDct {X : Cx} (hu : X.A.units + 1 < cLine) : OpR X (compareOp .NotIn) rNotInDct := by
  intro pins s σ H x y v u Q I rx ry ⟨a, k, kvs, e1, e2, h, q⟩
  subst e1 e2
  obtain rfl : u = Value.ref a := ry
  exact d_notIn hu I (DGet.k h) rx fun s3 I3 => ⟨.bl _, H, I3, rfl, q⟩
theorem sc_flat {A : AS} {H : Hp} {v : V} {d : PD} (h : Rt A H v d) (s : isSc d = true) : v = scV d ∧ flatV v = true := by
  cases d with
  | none => rw [h.none]; exact ⟨rfl, rfl⟩
  | bool b => rw [h.bool]; exact ⟨rfl, rfl⟩
  | int b => rw [h.int]; exact ⟨rfl, rfl⟩
  | str b => rw [h.str]; exact ⟨rfl, rfl⟩
  | list _ => cases s
  | tuple _ => cases s
  | dict _ => cases s
theorem eqV_sc : ∀ {d e : PD}, isSc d = true → isSc e = true → eqV (scV d) (scV e) = PyData.eqv d e := by
  intro d e hd he
  cases d <;> cases e <;> simp_all [isSc, scV, eqV, PyData.eqv]
theorem inV_sc {A : AS} {H : Hp} {d : PD} (hd : isSc d = true) : ∀ {vs : List V} {ds : List PD}, RpAll A H vs ds → ds.all isSc = true → inV (scV d) vs = (ds.any fun z => PyData.eqv z d) ∧ vs.all flatV = true
  | _, _, .nil, _ => ⟨rfl, rfl⟩
  | _, _, .cons r h, s => by
    simp only [List.all_cons, Bool.and_eq_true] at s
    obtain ⟨h1, h2⟩ := inV_sc hd h s.2
    obtain ⟨e, f⟩ := sc_flat (.inl r) s.1
    refine ⟨?_, by simp only [List.all_cons, f, h2, Bool.and_self]⟩
    unfold inV at h1 ⊢
    simp only [List.any_cons]
    rw [h1, e, eqV_sc s.1 hd]
def rInAll (K : PySem.W.Frag) : R2 := fun x y H Q => rInD K x y H Q ∨ (rIn K false x y H Q ∨ rInDct x y H Q)
def rNotInAll (K : PySem.W.Frag) : R2 := fun x y H Q => rNotInD K x y H Q ∨ (rIn K true x y H Q ∨ rNotInDct x y H Q)
theorem or_in {X : Cx} (hu : X.A.units + 65 < cLine) : OpR X (compareOp .In) (rInAll X.K) := (op_inD hu).or (op_in_seq.or (or_inDct (by omega)))
theorem or_notIn {X : Cx} (hu : X.A.units + 65 < cLine) : OpR X (compareOp .NotIn) (rNotInAll X.K) := (op_notInD hu).or (op_notIn_seq.or (or_notInDct (by omega)))
theorem keyD_eq {d : PD} {k : Key} (h : keyD d = some k) : isSc d = true ∧ scV d = kV k := by
  cases d <;> simp [keyD] at h <;> subst h <;> exact ⟨rfl, rfl⟩
theorem o2_in (K : PySem.W.Frag) : Op2 (rInAll K) (gIn false) := ⟨fun A H x y d1 d2 c Q _ hx hy e q => by
  unfold gIn at e
  split at e
  · rename_i ds
    split at e
    · rename_i h
      cases e
      simp only [Bool.and_eq_true] at h
      exact .inl ⟨d1, ds, hx.dp (SeqAt.canLay_of_shaped h.1), hy.dp (SeqAt.canLay_of_shaped h.2), h.1, h.2, q _ _ (nr_val (.bl _))⟩
    · cases e
  · rename_i ds
    split at e
    · rename_i h
      cases e
      simp only [Bool.and_eq_true] at h
      obtain ⟨p, us, rfl, h1, r1⟩ := hy.tup
      obtain ⟨ex, fx⟩ := sc_flat hx h.1
      obtain ⟨e1, e2⟩ := inV_sc h.1 r1 h.2
      subst ex
      exact .inr (.inl ⟨p, us, rfl, .inr (SqT.of h1), fx, e2, by rw [e1]; exact q _ _ (nr_val (.bl _))⟩)
    · cases e
  · rename_i kvs
    split at e
    · rename_i k hk
      cases e
      obtain ⟨hs, ek⟩ := keyD_eq hk
      obtain ⟨ex, _⟩ := sc_flat hx hs
      obtain ⟨p, us, rfl, h1, r1⟩ := hy.dic
      refine .inr (.inr ⟨p, k, us, rfl, by rw [ex, ek], h1, ?_⟩)
      have : (valV us k).isSome = (look k kvs).isSome := by
        rcases look_valV (k := k) r1 with ⟨a, b⟩ | ⟨d, v, a, b, _⟩ <;> rw [a, b] <;> rfl
      rw [this]
      exact q _ _ (nr_val (.bl _))
    · cases e
  · cases e⟩
theorem o2_notIn (K : PySem.W.Frag) : Op2 (rNotInAll K) (gIn true) := ⟨fun A H x y d1 d2 c Q _ hx hy e q => by
  unfold gIn at e
  split at e
  · rename_i ds
    split at e
    · rename_i h
      cases e
      simp only [Bool.and_eq_true] at h
      exact .inl ⟨d1, ds, hx.dp (SeqAt.canLay_of_shaped h.1), hy.dp (SeqAt.canLay_of_shaped h.2), h.1, h.2, q _ _ (nr_val (.bl _))⟩
    · cases e
  · rename_i ds
    split at e
    · rename_i h
      cases e
      simp only [Bool.and_eq_true] at h
      obtain ⟨p, us, rfl, h1, r1⟩ := hy.tup
      obtain ⟨ex, fx⟩ := sc_flat hx h.1
      obtain ⟨e1, e2⟩ := inV_sc h.1 r1 h.2
      subst ex
      exact .inr (.inl ⟨p, us, rfl, .inr (SqT.of h1), fx, e2, by rw [e1]; exact q _ _ (nr_val (.bl _))⟩)
    · cases e
  · rename_i kvs
    split at e
    · rename_i k hk
      cases e
      obtain ⟨hs, ek⟩ := keyD_eq hk
      obtain ⟨ex, _⟩ := sc_flat hx hs
      obtain ⟨p, us, rfl, h1, r1⟩ := hy.dic
      refine .inr (.inr ⟨p, k, us, rfl, by rw [ex, ek], h1, ?_⟩)
      have : (valV us k).isSome = (look k kvs).isSome := by
        rcases look_valV (k := k) r1 with ⟨a, b⟩ | ⟨d, v, a, b, _⟩ <;> rw [a, b] <;> rfl
      rw [this]
      exact q _ _ (nr_val (.bl _))
    · cases e
  · cases e⟩
end DP
/-! DPP: items, slices, calls of built-ins. -/
namespace DP
open PySem L2
def gMul : PD → PD → Option Rc
  | .int i, .int j => if mulOk i j = true then some (.val (.int (i * j))) else none
  | .list xs, .int k => if (decide (-(2 ^ 63) ≤ k ∧ k < 2 ^ 63) && smallL (xs.length * k.toNat)) = true then some (.fresh (.list (List.replicate k.toNat xs).flatten)) else none
  | _, _ => none
theorem RpAll.rep {A : AS} {H : Hp} {vs : List V} {ds : List PD} (h : RpAll A H vs ds) : ∀ n : Nat, RpAll A H (List.replicate n vs).flatten (List.replicate n ds).flatten
  | 0 => .nil
  | n + 1 => by
    rw [List.replicate_succ, List.replicate_succ, List.flatten_cons, List.flatten_cons]
    exact h.append (RpAll.rep h n)
def rMulAll : R2 := fun x y H Q => rI CMul (fun i j => .int (i * j)) x y H Q ∨ rRep x y H Q
theorem or_mul {X : Cx} : OpR X (binaryOp .Mult) rMulAll := op_mul.or op_rep
theorem o2_mul : Op2 rMulAll gMul := ⟨fun A H x y d1 d2 c Q hd hx hy e q => by
  unfold gMul at e
  split at e
  · rename_i i j
    refine .inl (o2_mulI.run A H x y _ _ c Q hd hx hy ?_ q)
    simp only [gMulI, gI]
    exact e
  · split at e
    · rename_i xs k h
      cases e
      simp only [Bool.and_eq_true, decide_eq_true_eq] at h
      obtain ⟨l, us, rfl, h1, r1⟩ := hx.list
      exact .inr ⟨l, k, us, rfl, hy.int, h1, h.1.1, h.1.2, by rw [r1.length]; exact smallL_le h.2, fun p hp => q _ _ (nr_lst hp (r1.rep _))⟩
    · cases e
  · cases e⟩
/-! items -/
def gIx : PD → PD → Option Rc
  | .list ds, .int i => (atI ds i).map .val
  | .tuple ds, .int i => (atI ds i).map .val
  | .dict kvs, k => match keyD k with
    | some q => (look q kvs).map .val
    | none => none
  | _, _ => none
def rIxDct : R2 := fun x y H Q => ∃ a k kvs v, x = .ref a ∧ y = kV k ∧ H a = some (.dK kvs) ∧ valV kvs k = some v ∧ Q v H
theorem ix_dct {X : Cx} (hu : X.A.units + 1 < cLine) : IxR X rIxDct := by
  intro value slice pins s σ H x y v u Q I rx ry ⟨a, k, kvs, w, e1, e2, h, hv, q⟩ hs
  subst e1 e2
  obtain rfl : v = Value.ref a := rx
  have g : DGet H a (kV k) (some w) := by rw [← hv]; exact DGet.k h
  exact PyProof.Rows.tail_any (dict_typeIs I g) PySem.F.slot_dict_getitem.lookup (d_getItem hu I g ry fun w' s3 I3 rw' => ⟨w, H, I3, rw', q⟩) hs
theorem atI_rp {A : AS} {H : Hp} {vs : List V} {ds : List PD} {i : Int} {d : PD} (h : RpAll A H vs ds) (e : atI ds i = some d) : ∃ v, atI vs i = some v ∧ Rp A H v d := by
  unfold atI at e ⊢
  rw [h.length]
  cases e1 : ixN ds.length i with
  | none => rw [e1] at e; cases e
  | some j =>
    rw [e1] at e
    exact h.get (by simpa using e)
def rIxAll (K : PySem.W.Frag) : R2 := fun x y H Q => rIx K x y H Q ∨ rIxDct x y H Q
theorem ir_all {X : Cx} (hu : X.A.units + 1 < cLine) : IxR X (rIxAll X.K) := ix_seq.or (ix_dct hu)
theorem o2_ix (K : PySem.W.Frag) : Op2 (rIxAll K) gIx := ⟨fun A H x y d1 d2 c Q hd hx hy e q => by
  unfold gIx at e
  split at e
  · rename_i ds i
    cases e1 : atI ds i with
    | none => rw [e1] at e; cases e
    | some d =>
      rw [e1] at e
      cases e
      obtain ⟨l, us, rfl, h1, r1⟩ := hx.list
      obtain ⟨v, e2, r⟩ := atI_rp r1 e1
      exact .inl (.inl ⟨l, us, i, v, rfl, hy.int, SqL.of h1, e2, q _ _ (nr_val r)⟩)
  · rename_i ds i
    cases e1 : atI ds i with
    | none => rw [e1] at e; cases e
    | some d =>
      rw [e1] at e
      cases e
      obtain ⟨l, us, rfl, h1, r1⟩ := hx.tup
      obtain ⟨v, e2, r⟩ := atI_rp r1 e1
      exact .inl (.inr (.inl ⟨l, us, i, v, rfl, hy.int, SqT.of h1, e2, q _ _ (nr_val r)⟩))
  · rename_i kvs k
    split at e
    · rename_i kk hk
      obtain ⟨hs, ek⟩ := keyD_eq hk
      obtain ⟨ex, _⟩ := sc_flat hy hs
      obtain ⟨p, us, rfl, h1, r1⟩ := hx.dic
      rcases look_valV (k := kk) r1 with ⟨a, b⟩ | ⟨d, v, a, b, r⟩
      · rw [a] at e; cases e
      · rw [a] at e
        cases e
        exact .inr ⟨p, kk, us, v, rfl, by rw [ex, ek], h1, b, q _ _ (nr_val r)⟩
    · cases e
  · cases e⟩
/-! slices -/
def partM : Option (M Rv) → M (Option Int)
  | none => retM none
  | some f => bnd f fun r => bnd (rdM r) fun d => match d with
    | .int i => retM (some i)
    | _ => noM
def SimO (X : Cx) (W : WX) (e : Option Expr) (f : Option (M Rv)) : Prop := ∃ t : TO, PO X e t ∧ ∀ F A H σ ρ, ER X.K F A H σ ρ → ∀ Q : Option Int → Hp → Prop, Pst X.K X.mg W F A H σ ρ (fun _ _ _ b c => b = c) Q (partM f ρ) → t σ H Q
theorem sim_onone {X : Cx} {W : WX} : SimO X W none none := ⟨_, po_none, fun F A H σ ρ E Q h => h A H none E Step.refl rfl⟩
theorem sim_osome {X : Cx} {W : WX} {e : Expr} {f : M Rv} (h : SimE X W e f) : SimO X W (some e) (some f) := by
  obtain ⟨t, p, h⟩ := h
  refine ⟨_, po_some p, fun F A H σ ρ E Q hq => ?_⟩
  refine h F A H σ ρ E _ (Pst.split (m := f) hq fun r ρ1 A1 H1 v E1 S1 R1 h1 => ?_)
  obtain ⟨d, e1, h2⟩ := h1.rd
  have hz := RvR.rt E1 R1 e1
  cases d with
  | int i => exact ⟨i, hz.int, h2 A1 H1 _ E1 S1 rfl⟩
  | bool k => exact h2.elim
  | none => exact h2.elim
  | str i => exact h2.elim
  | list i => exact h2.elim
  | tuple i => exact h2.elim
  | dict i => exact h2.elim
def cutD (xs : List PD) (lo hi : Option Int) : List PD := (xs.drop (HT.sIx xs.length 0 lo)).take (HT.sIx xs.length xs.length hi - HT.sIx xs.length 0 lo)
def gSl (d : PD) (lo hi : Option Int) : Option Rc :=
  match d with
  | .list ds => some (.fresh (.list (cutD ds lo hi)))
  | .tuple ds => some (.val (.tuple (cutD ds lo hi)))
  | _ => none
def eSl (f : M Rv) (lo hi : Option (M Rv)) : M Rv := bnd f fun x => bnd (partM lo) fun l => bnd (partM hi) fun h => bnd (rdM x) fun d => fin (gSl d l h)
theorem RpAll.drop {A : AS} {H : Hp} : ∀ {vs : List V} {ds : List PD} (n : Nat), RpAll A H vs ds → RpAll A H (vs.drop n) (ds.drop n)
  | _, _, 0, h => h
  | _, _, n + 1, .nil => .nil
  | _, _, n + 1, .cons _ h => RpAll.drop n h
theorem RpAll.take {A : AS} {H : Hp} : ∀ {vs : List V} {ds : List PD} (n : Nat), RpAll A H vs ds → RpAll A H (vs.take n) (ds.take n)
  | _, _, 0, _ => by simp; exact .nil
  | _, _, n + 1, .nil => .nil
  | _, _, n + 1, .cons r h => .cons r (RpAll.take n h)
theorem RpAll.cut {A : AS} {H : Hp} {vs : List V} {ds : List PD} (h : RpAll A H vs ds) (lo hi : Option Int) : RpAll A H (cutV vs lo hi) (cutD ds lo hi) := by
  unfold cutV cutD
  rw [h.length]
  exact (h.drop _).take _
theorem sim_slice {X : Cx} {W : WX} {e : Expr} {lo hi : Option Expr} {f : M Rv} {fl fh : Option (M Rv)} {p2 pos : Pos} (he : SimE X W e f) (hl : SimO X W lo fl) (hh : SimO X W hi fh) : SimE X W (.Subscript e (.Slice lo hi none p2) pos) (eSl f fl fh) := by
  obtain ⟨t, p, he⟩ := he
  obtain ⟨tl, pl, hl⟩ := hl
  obtain ⟨th, ph, hh⟩ := hh
  refine ⟨_, pe_slice (sl_list.or sl_tupA) p pl ph, fun F A H σ ρ E Q h => ?_⟩
  refine he F A H σ ρ E _ (h.split fun x ρ1 A1 H1 v1 E1 S1 R1 h1 => ?_)
  refine hl F A1 H1 σ ρ1 E1 _ ((h1.after S1).split (RR1 := fun _ _ _ b c => b = c) fun l ρ2 A2 H2 l' E2 S2 R2 h2 => ?_)
  subst R2
  refine hh F A2 H2 σ ρ2 E2 _ ((h2.after S2).split (RR1 := fun _ _ _ b c => b = c) fun u ρ3 A3 H3 u' E3 S3 R3 h3 => ?_)
  subst R3
  obtain ⟨d, e1, h4⟩ := h3.rd
  have R1' : RvR F H A3 H3 σ ρ3 v1 x := RvR.step E2 S3 (RvR.step E1 S2 R1)
  obtain ⟨c, e2, h5⟩ := h4.fin' S3 E3 (S1.trans S2)
  have hz := R1'.rt E3 e1
  unfold gSl at e2
  split at e2
  · cases e2
    obtain ⟨a, us, rfl, g1, r1⟩ := hz.list
    exact .inl ⟨a, us, rfl, SqL.of g1, fun p hp => h5 _ _ (nr_lst hp (r1.cut _ _))⟩
  · cases e2
    obtain ⟨a, us, rfl, g1, r1⟩ := hz.tup
    refine .inr ⟨a, us, rfl, SqT.of g1, fun hw => ?_, fun _ p hp => h5 _ _ (nr_tup hp (r1.cut _ _))⟩
    have := r1.cut l' u'
    unfold cutV at this
    rw [hw.1, hw.2] at this
    simp only [List.drop_zero, Nat.sub_zero, List.take_length] at this
    exact h5 _ _ (nr_val (.tup g1 this))
  · cases e2
/-! built-ins -/
def gAbs : List PD → Option Rc
  | [.int i] => some (.val (.int (if i < 0 then -i else i)))
  | _ => none
theorem on_abs : OpN (fun xs H Q => ∃ i, xs = [.int i] ∧ Q (.int (if i < 0 then -i else i)) H) gAbs := ⟨fun A H xs ds c Q _ hx e q => by
  unfold gAbs at e
  split at e
  · cases e
    obtain ⟨v, rfl, r⟩ := hx.one
    exact ⟨_, by rw [r.int], q _ _ (nr_val (.int _))⟩
  · cases e⟩
def gMax2 : List PD → Option Rc
  | [.int i, .int j] => some (.val (.int (if j > i then j else i)))
  | _ => none
def gMin2 : List PD → Option Rc
  | [.int i, .int j] => some (.val (.int (if j < i then j else i)))
  | _ => none
theorem on_max2 : OpN (fun xs H Q => ∃ i j, xs = [.int i, .int j] ∧ Q (.int (if j > i then j else i)) H) gMax2 := ⟨fun A H xs ds c Q _ hx e q => by
  unfold gMax2 at e
  split at e
  · cases e
    obtain ⟨v, w, rfl, r, r2⟩ := hx.two
    exact ⟨_, _, by rw [r.int, r2.int], q _ _ (nr_val (.int _))⟩
  · cases e⟩
theorem on_min2 : OpN (fun xs H Q => ∃ i j, xs = [.int i, .int j] ∧ Q (.int (if j < i then j else i)) H) gMin2 := ⟨fun A H xs ds c Q _ hx e q => by
  unfold gMin2 at e
  split at e
  · cases e
    obtain ⟨v, w, rfl, r, r2⟩ := hx.two
    exact ⟨_, _, by rw [r.int, r2.int], q _ _ (nr_val (.int _))⟩
  · cases e⟩
def gLen : List PD → Option Rc
  | [.list ds] => some (.val (.int ds.length))
  | [.tuple ds] => some (.val (.int ds.length))
  | _ => none
theorem on_len (K : PySem.W.Frag) : OpN (fun xs H Q => ∃ x n, xs = [x] ∧ LenV K x H n ∧ Q (.int n) H) gLen := ⟨fun A H xs ds c Q _ hx e q => by
  unfold gLen at e
  split at e
  · cases e
    obtain ⟨v, rfl, r⟩ := hx.one
    obtain ⟨p, us, rfl, h, rr⟩ := r.list
    exact ⟨_, _, rfl, .inl ⟨us, SqL.of h, rr.length.symm⟩, q _ _ (nr_val (.int _))⟩
  · cases e
    obtain ⟨v, rfl, r⟩ := hx.one
    obtain ⟨p, us, rfl, h, rr⟩ := r.tup
    exact ⟨_, _, rfl, .inr ⟨us, SqT.of h, rr.length.symm⟩, q _ _ (nr_val (.int _))⟩
  · cases e⟩
/-- a list of ints, of truths -/
def intsOf : List PD → Option (List Int)
  | [] => some []
  | .int i :: ds => (intsOf ds).map (i :: ·)
  | _ :: _ => none
def boolsOf : List PD → Option (List Bool)
  | [] => some []
  | .bool i :: ds => (boolsOf ds).map (i :: ·)
  | _ :: _ => none
theorem intsOf_rp {A : AS} {H : Hp} : ∀ {vs : List V} {ds : List PD} {ns : List Int}, RpAll A H vs ds → intsOf ds = some ns → vs = ns.map V.int
  | _, _, _, .nil, e => by cases e; rfl
  | _, _, ns, .cons r h, e => by
    cases r with
    | int i =>
      simp only [intsOf] at e
      cases e1 : intsOf _ with
      | none => rw [e1] at e; cases e
      | some ms => rw [e1] at e; cases e; rw [intsOf_rp h e1]; rfl
    | _ => cases e
theorem boolsOf_rp {A : AS} {H : Hp} : ∀ {vs : List V} {ds : List PD} {ns : List Bool}, RpAll A H vs ds → boolsOf ds = some ns → vs = ns.map V.bl
  | _, _, _, .nil, e => by cases e; rfl
  | _, _, ns, .cons r h, e => by
    cases r with
    | bl i =>
      simp only [boolsOf] at e
      cases e1 : boolsOf _ with
      | none => rw [e1] at e; cases e
      | some ms => rw [e1] at e; cases e; rw [boolsOf_rp h e1]; rfl
    | _ => cases e
theorem rp_ints {A : AS} {H : Hp} : ∀ ns : List Int, RpAll A H (ns.map V.int) (ns.map PyData.int)
  | [] => .nil
  | n :: ns => .cons (.int n) (rp_ints ns)
def gSum : List PD → Option Rc
  | [.list ds] => (intsOf ds).map fun ns => .val (.int ns.sum)
  | _ => none
theorem on_sum (K : PySem.W.Frag) : OpN (rSum K) gSum := ⟨fun A H xs ds c Q _ hx e q => by
  unfold gSum at e
  split at e
  · rename_i l
    cases e1 : intsOf l with
    | none => rw [e1] at e; cases e
    | some ns =>
      rw [e1] at e
      cases e
      obtain ⟨v, rfl, r⟩ := hx.one
      obtain ⟨p, us, rfl, h, rr⟩ := r.list
      exact ⟨p, ns, rfl, by rw [← intsOf_rp rr e1]; exact SqL.of h, q _ _ (nr_val (.int _))⟩
  · cases e⟩
def gAll : List PD → Option Rc
  | [.list ds] => (boolsOf ds).map fun ns => .val (.bool (ns.all id))
  | _ => none
def gAny : List PD → Option Rc
  | [.list ds] => (boolsOf ds).map fun ns => .val (.bool (ns.any id))
  | _ => none
theorem on_all (K : PySem.W.Frag) : OpN (rAll K) gAll := ⟨fun A H xs ds c Q _ hx e q => by
  unfold gAll at e
  split at e
  · rename_i l
    cases e1 : boolsOf l with
    | none => rw [e1] at e; cases e
    | some ns =>
      rw [e1] at e
      cases e
      obtain ⟨v, rfl, r⟩ := hx.one
      obtain ⟨p, us, rfl, h, rr⟩ := r.list
      exact ⟨p, ns, rfl, by rw [← boolsOf_rp rr e1]; exact SqL.of h, q _ _ (nr_val (.bl _))⟩
  · cases e⟩
theorem on_any (K : PySem.W.Frag) : OpN (rAny K) gAny := ⟨fun A H xs ds c Q _ hx e q => by
  unfold gAny at e
  split at e
  · rename_i l
    cases e1 : boolsOf l with
    | none => rw [e1] at e; cases e
    | some ns =>
      rw [e1] at e
      cases e
      obtain ⟨v, rfl, r⟩ := hx.one
      obtain ⟨p, us, rfl, h, rr⟩ := r.list
      exact ⟨p, ns, rfl, by rw [← boolsOf_rp rr e1]; exact SqL.of h, q _ _ (nr_val (.bl _))⟩
  · cases e⟩
def gList : List PD → Option Rc
  | [.list ds] => some (.fresh (.list ds))
  | [.tuple ds] => some (.fresh (.list ds))
  | _ => none
def gTuple : List PD → Option Rc
  | [.list ds] => some (.val (.tuple ds))
  | [.tuple ds] => some (.val (.tuple ds))
  | _ => none
theorem on_list (K : PySem.W.Frag) : OpN (fun xs H Q => ∃ p ys, xs = [.ref p] ∧ (SqL K H p ys ∨ SqT K H p ys) ∧ ∀ l, H l = none → Q (.ref l) (upd H l (.lst ys))) gList := ⟨fun A H xs ds c Q _ hx e q => by
  unfold gList at e
  split at e
  · cases e
    obtain ⟨v, rfl, r⟩ := hx.one
    obtain ⟨p, us, rfl, h, rr⟩ := r.list
    exact ⟨p, us, rfl, .inl (SqL.of h), fun l hl => q _ _ (nr_lst hl rr)⟩
  · cases e
    obtain ⟨v, rfl, r⟩ := hx.one
    obtain ⟨p, us, rfl, h, rr⟩ := r.tup
    exact ⟨p, us, rfl, .inr (SqT.of h), fun l hl => q _ _ (nr_lst hl rr)⟩
  · cases e⟩
theorem on_tuple (K : PySem.W.Frag) : OpN (fun xs H Q => ∃ p ys, xs = [.ref p] ∧ ((SqL K H p ys ∧ ∀ l, H l = none → Q (.ref l) (upd H l (.tup ys))) ∨ (SqT K H p ys ∧ Q (.ref p) H))) gTuple := ⟨fun A H xs ds c Q _ hx e q => by
  unfold gTuple at e
  split at e
  · cases e
    obtain ⟨v, rfl, r⟩ := hx.one
    obtain ⟨p, us, rfl, h, rr⟩ := r.list
    exact ⟨p, us, rfl, .inl ⟨SqL.of h, fun l hl => q _ _ (nr_tup hl rr)⟩⟩
  · cases e
    obtain ⟨v, rfl, r⟩ := hx.one
    obtain ⟨p, us, rfl, h, rr⟩ := r.tup
    exact ⟨p, us, rfl, .inr ⟨SqT.of h, q _ _ (nr_val (.tup h rr))⟩⟩
  · cases e⟩
def gInt : List PD → Option Rc
  | [.int i] => some (.val (.int i))
  | [.bool k] => some (.val (.int (if k then 1 else 0)))
  | _ => none
theorem on_int : OpN (fun xs H Q => (∃ i, xs = [.int i] ∧ Q (.int i) H) ∨ ∃ k, xs = [.bl k] ∧ Q (.int (if k then 1 else 0)) H) gInt := ⟨fun A H xs ds c Q _ hx e q => by
  unfold gInt at e
  split at e
  · cases e
    obtain ⟨v, rfl, r⟩ := hx.one
    exact .inl ⟨_, by rw [r.int], q _ _ (nr_val (.int _))⟩
  · cases e
    obtain ⟨v, rfl, r⟩ := hx.one
    exact .inr ⟨_, by rw [r.bool], q _ _ (nr_val (.int _))⟩
  · cases e⟩
def gNeg : PD → Option Rc
  | .int i => some (.val (.int (-i)))
  | _ => none
theorem o1_neg : Op1 (rU fun i => .int (-i)) gNeg := ⟨fun A H x d1 c Q _ hx e q => by
  unfold gNeg at e
  split at e
  · cases e
    exact ⟨_, hx.int, q _ _ (nr_val (.int _))⟩
  · cases e⟩
end DP
/-! DPQ: sorted, stores into lists and dicts, append, get. -/
namespace DP
open PySem L2
/-! sorted -/
def rSortedD (K : PySem.W.Frag) : List V → Hp → VK → Prop := fun vs H Q => ∃ (a : Addr) (ps : List (V × PD)), vs = [V.ref a] ∧ SqL K H a (ps.map (·.1)) ∧ (∀ p ∈ ps, Dp K H p.1 p.2) ∧ PySem.W.AllAlike (ps.map (·.2)) ∧ PySem.W.Sortable (ps.map (·.2)) ∧ (∀ p ∈ ps, p.2.depth ≤ 60) ∧
  ∀ l, H l = none → Q (.ref l) (upd H l (.lst ((ps.mergeSort (PySem.W.dataLe false (·.2))).map (·.1))))
section
variable {X : Cx} {pins : List (Addr × Obj)} {σ : L2.St} {H : Hp} {s : Shared}
theorem each_of : ∀ {ps : List (V × PD)} {us : List Value}, Vals (ps.map (·.1)) us → PySem.W.EachIs (fun u p => RelV p.1 u) us ps
  | [], _, r => by cases r; exact .nil
  | p :: ps, _, r => by
    cases r with
    | cons r h => exact .cons r (each_of h)
theorem each_to : ∀ {ps : List (V × PD)} {us : List Value}, PySem.W.EachIs (fun u (p : V × PD) => RelV p.1 u) us ps → Vals (ps.map (·.1)) us
  | _, _, .nil => .nil
  | _, _, .cons r h => .cons r (each_to h)
theorem each_reads (I : Inv X pins σ H s) : ∀ {ps : List (V × PD)} {us : List Value}, Vals (ps.map (·.1)) us → (∀ p ∈ ps, Dp X.K H p.1 p.2) → PySem.W.EachIs (fun u (p : V × PD) => ∃ as, Reads s.heap u p.2 as) us ps
  | [], _, r, _ => by cases r; exact .nil
  | p :: ps, _, r, h => by
    cases r with
    | cons r t => exact .cons (Dp.reads I _ _ _ (h p (by simp)) r) (each_reads I t fun q hq => h q (List.mem_cons_of_mem _ hq))
theorem cr_sortedD (hu : X.A.units + 64 < cLine) : CallR X (.builtin "sorted") (rSortedD X.K) := by
  intro pins s σ H vs us Q I r ⟨a, ps, e, hs, hd, hal, hk, hdp, q⟩
  subst e
  obtain ⟨its, rv, hl, hz⟩ := I.list hs
  rw [Vals.ref1 r]
  have hlen := rv.length
  rw [List.length_map] at hlen hz
  refine PySem.W.sorted_data (enc := fun p : V × PD => p.2) hl.isList (each_of rv) (each_reads I rv hd) hal hk hz (fun p hp => by have := hdp p hp; omega) fun out h1 h2 => ?_
  obtain ⟨ep, he'⟩ := PyProof.Rows.sortedAll_at s.heap its out.toArray
  have v2 := each_to h2
  have l2 : ((ps.mergeSort (PySem.W.dataLe false (·.2))).map (·.1)).length ≤ sizeLine := by rw [List.length_map, List.length_mergeSort]; exact hz
  exact ⟨.ref _, upd H (s.heap.objs.size + 1) (.lst _), I.laid (t' := s.toks) (fun _ _ => PyProof.Rows.sortedAll_old) (Nat.le_succ _) ⟨l2, out, ep, v2, by simpa using he'⟩, rfl, q _ (I.hok.fresh (Nat.le_succ _))⟩
end
def alikeL : List PD → Bool
  | [] => true
  | d :: ds => ds.all (fun e => PySem.W.alike d e) && alikeL ds
def selfL (ds : List PD) : Bool := ds.all fun d => PySem.W.alike d d
def tupX : PD → Bool
  | .tuple (_ :: _) => true
  | _ => false
def notTN : PD → Bool
  | .tuple _ => false
  | .none => false
  | _ => true
def sortOk (ds : List PD) : Bool := alikeL ds && selfL ds && (ds.all tupX || ds.all notTN) && ds.all (fun d => d.canLay0 && decide (d.depth ≤ 60))
theorem alikeL_all : ∀ {ds : List PD}, alikeL ds = true → selfL ds = true → PySem.W.AllAlike ds := by
  intro ds h1 h2
  induction ds with
  | nil => intro d hd; cases hd
  | cons x xs ih =>
    simp only [alikeL, Bool.and_eq_true] at h1
    simp only [selfL, List.all_cons, Bool.and_eq_true] at h2
    intro d hd d' hd'
    rcases List.mem_cons.mp hd with rfl | hd
    · rcases List.mem_cons.mp hd' with rfl | hd'
      · exact h2.1
      · exact List.all_eq_true.mp h1.1 _ hd'
    · rcases List.mem_cons.mp hd' with rfl | hd'
      · rw [PySem.W.alike_comm]; exact List.all_eq_true.mp h1.1 d (by assumption)
      · exact ih h1.2 h2.2 d hd d' hd'
def leD (a b : PD) : Bool := !PySem.W.dataLt b a
/-- the int keys of a dict -/
def keysOf : List (PD × PD) → Option (List Int)
  | [] => some []
  | (.int i, _) :: r => (keysOf r).map (i :: ·)
  | _ => none
def leI (a b : Int) : Bool := decide (a ≤ b)
def gSorted : List PD → Option Rc
  | [.list ds] => if sortOk ds = true then some (.fresh (.list (ds.mergeSort leD))) else none
  | [.dict kvs] => match keysOf kvs with
    | some ks => if ks.length < 64 then some (.fresh (.list ((ks.mergeSort leI).map .int))) else none
    | none => none
  | _ => none
theorem zip_fst {A : AS} {H : Hp} : ∀ {us : List V} {ds : List PD}, RpAll A H us ds → (us.zip ds).map (·.1) = us ∧ (us.zip ds).map (·.2) = ds ∧ ∀ p ∈ us.zip ds, Rp A H p.1 p.2
  | _, _, .nil => ⟨rfl, rfl, fun p h => nomatch h⟩
  | _, _, .cons r h => by
    obtain ⟨a, b, c⟩ := zip_fst h
    refine ⟨by simp [a], by simp [b], fun p hp => ?_⟩
    simp only [List.zip_cons_cons, List.mem_cons] at hp
    rcases hp with rfl | hp
    · exact r
    · exact c p hp
theorem of_pairs {A : AS} {H : Hp} : ∀ {ps : List (V × PD)}, (∀ p ∈ ps, Rp A H p.1 p.2) → RpAll A H (ps.map (·.1)) (ps.map (·.2))
  | [], _ => .nil
  | p :: ps, h => .cons (h p (by simp)) (of_pairs fun q hq => h q (List.mem_cons_of_mem _ hq))
def rSortedK (K : PySem.W.Frag) : List V → Hp → VK → Prop := fun xs H Q => ∃ (a : Addr) (kvs : List (Key × V)) (ks : List Int), xs = [.ref a] ∧ Rd H a (.dK kvs) ∧ kvs.map (·.1) = ks.map Sum.inl ∧ ks.length < 64 ∧ ∀ (ys : List Int) (p : Addr), ys.Perm ks → ys.Pairwise (· ≤ ·) → H p = none → Q (.ref p) (upd H p (.lst (ys.map V.int)))
theorem keysOf_rp {A : AS} {H : Hp} : ∀ {kvs : List (Key × V)} {ds : List (PD × PD)} {ks : List Int}, RpKV A H kvs ds → keysOf ds = some ks → kvs.map (·.1) = ks.map Sum.inl
  | _, _, _, .nil, e => by cases e; rfl
  | _, _, ks, .cons (k := k) r h, e => by
    cases k with
    | inl i =>
      simp only [kD, keysOf] at e
      cases e1 : keysOf _ with
      | none => rw [e1] at e; cases e
      | some l => rw [e1] at e; cases e; simp [keysOf_rp h e1]
    | inr x => cases e
theorem sorted_unique {ys zs : List Int} (p : ys.Perm zs) (h1 : ys.Pairwise (· ≤ ·)) (h2 : zs.Pairwise (· ≤ ·)) : ys = zs := List.Perm.eq_of_pairwise (fun a b _ _ h1 h2 => Int.le_antisymm h1 h2) h1 h2 p
theorem msort_sorted (ks : List Int) : (ks.mergeSort leI).Pairwise (· ≤ ·) := by
  have := List.pairwise_mergeSort (le := leI) (fun a b c h1 h2 => by simp [leI] at *; omega) (fun a b => by simp [leI]; omega) ks
  exact this.imp fun {a b} h => by simpa [leI] using h
theorem on_sorted (K : PySem.W.Frag) : OpN (fun vs H Q => rSortedD K vs H Q ∨ rSortedK K vs H Q) gSorted := ⟨fun A H xs ds c Q hd hx e q => by
  unfold gSorted at e
  split at e
  · rename_i ds
    split at e
    · rename_i hok
      cases e
      simp only [sortOk, Bool.and_eq_true, Bool.or_eq_true, List.all_eq_true, decide_eq_true_eq] at hok
      obtain ⟨⟨⟨h1, h2⟩, h3⟩, h4⟩ := hok
      obtain ⟨v, rfl, r⟩ := hx.one
      obtain ⟨p, us, rfl, h, rr⟩ := r.list
      obtain ⟨z1, z2, z3⟩ := zip_fst rr
      refine .inl ⟨p, us.zip ds, rfl, by rw [z1]; exact SqL.of h, fun w hw => (z3 w hw).dp (h4 _ ?_).1, by rw [z2]; exact alikeL_all h1 h2, ?_, fun w hw => (h4 _ ?_).2, fun l hl => ?_⟩
      · rw [← z2]; exact List.mem_map.mpr ⟨w, hw, rfl⟩
      · rw [z2]
        rcases h3 with h3 | h3
        · left
          intro d hd
          have := h3 d hd
          unfold tupX at this
          split at this
          · exact ⟨_, _, rfl⟩
          · cases this
        · right
          intro d hd
          have := h3 d hd
          unfold notTN at this
          split at this
          · cases this
          · cases this
          · rename_i g1 g2
            exact ⟨g2, g1⟩
      · rw [← z2]; exact List.mem_map.mpr ⟨w, hw, rfl⟩
      · have e2 : ((us.zip ds).mergeSort (PySem.W.dataLe false (·.2))).map (·.2) = ds.mergeSort leD := by
          rw [List.map_mergeSort (s := leD) (f := fun p : V × PD => p.2) (fun a _ b _ => by rw [PySem.W.dataLe_eq]; rfl), z2]
        have rr2 := of_pairs (A := A) (H := H) (ps := (us.zip ds).mergeSort (PySem.W.dataLe false (·.2))) fun p hp => z3 p (List.mem_mergeSort.mp hp)
        rw [e2] at rr2
        exact q _ _ (nr_lst hl rr2)
    · cases e
  · rename_i kvs
    split at e
    · rename_i ks hk
      split at e
      · rename_i h64
        cases e
        obtain ⟨v, rfl, r⟩ := hx.one
        obtain ⟨p, us, rfl, h, rr⟩ := r.dic
        refine .inr ⟨p, us, ks, rfl, .inl h, keysOf_rp rr hk, h64, fun ys l hp hs hl => ?_⟩
        have e2 : ys = ks.mergeSort leI := sorted_unique (hp.trans (List.mergeSort_perm ks leI).symm) hs (msort_sorted ks)
        subst e2
        exact q _ _ (nr_lst hl (rp_ints _))
      · cases e
    · cases e
  · cases e⟩
/-! ### stores into things -/
section
variable {K : PySem.W.Frag} {F : Ent} {A : AS} {H : Hp} {σ : L2.St} {ρ : Dn} {i : Nat} {p : Addr} {b : Bool} {d d' : PD}
/-- slot i's own thing is changed -/
theorem ER.updOwn {o : HO} (E : ER K F A H σ ρ) (e1 : ρ[i]? = some (some (.own b d))) (e2 : σ[i]? = some (some (.ref p))) (ho : OwnObj A (upd H p o) p d') :
    ER K F A (upd H p o) σ (ρ.set i (some (.own b d'))) ∧ Kp A A H (upd H p o) := by
  have hi : i < ρ.length := (List.getElem?_eq_some_iff.mp e1).1
  obtain ⟨hA, hl⟩ := E.ow ⟨i, b, d, e1, e2⟩
  have hp : ∃ u, H p = some u ∧ (∀ xs, u ≠ .tup xs) ∧ ∀ q v, u ≠ .frz q v := by
    cases e : H p with
    | none => rw [e] at hl; exact hl.elim
    | some u =>
      rw [e] at hl
      refine ⟨u, rfl, fun xs z => ?_, fun q v z => ?_⟩
      · subst z; exact hl
      · subst z; exact hl
  obtain ⟨u, hu, ht, hf⟩ := hp
  have kk : Kp A A H (upd H p o) := Kp.other hA hu ht
  have own : ∀ {j : Nat} {b' : Bool} {d1 : PD}, (ρ.set i (some (.own b d')))[j]? = some (some (.own b' d1)) → ∃ d2, ρ[j]? = some (some (.own b' d2)) := fun {j b' d1} e => by
    by_cases hj : i = j
    · subst hj
      rw [get_set_self hi] at e
      cases e
      exact ⟨d, e1⟩
    · rw [get_set_ne hj] at e
      exact ⟨d1, e⟩
  refine ⟨⟨by simp [E.len], fun j s e => ?_, fun j k b1 b2 d1 d2 q f1 f2 f3 f4 => ?_, fun a ha => ?_, fun c v e n => ?_, E.mono, E.grow, fun j b1 d1 q f1 f2 => ?_, E.FS, fun q hq => ?_⟩, kk⟩
  · by_cases hj : i = j
    · subst hj
      rw [get_set_self hi] at e
      cases e
      exact ⟨_, e2, p, rfl, hA, ho⟩
    · rw [get_set_ne hj] at e
      obtain ⟨v, e3, r⟩ := E.slot j s e
      refine ⟨v, e3, ?_⟩
      cases s with
      | imm d => exact Rp.kp kk r
      | own b1 d1 =>
        obtain ⟨q, rfl, n, r⟩ := r
        refine ⟨q, rfl, n, r.kp kk ?_⟩
        rw [upd_ne]
        intro z
        subst z
        exact hj (E.dist i j _ _ _ _ q e1 e e2 e3)
      | scr ns =>
        obtain ⟨q, rfl, r⟩ := r
        refine ⟨q, rfl, r.kp fun ob w z => ?_⟩
        rw [upd_ne]
        · exact z
        · intro y; subst y; rw [hu] at z; cases z; exact hf _ _ rfl
  · obtain ⟨d3, g1⟩ := own f1
    obtain ⟨d4, g2⟩ := own f2
    exact E.dist j k _ _ _ _ q g1 g2 f3 f4
  · by_cases z : a = p
    · subst z; exact absurd ha hA
    · rw [upd_ne z]; exact E.dom a ha
  · rw [upd_ne]
    · exact E.kp c v e n
    · intro z
      subst z
      have := E.ownF i b d c e1 e2
      cases b with
      | true => exact n (by simpa using this)
      | false => rw [if_neg (by simp)] at this; rw [this] at e; cases e
  · obtain ⟨d3, g1⟩ := own f1
    exact E.ownF j b1 d3 q g1 f2
  · obtain ⟨f1, d3, f2⟩ := E.ins q hq
    refine ⟨f1, ?_⟩
    by_cases hj : i = q.1
    · subst hj
      rw [e1] at f2
      cases f2
      exact ⟨d', get_set_self hi⟩
    · exact ⟨d3, by rw [get_set_ne hj]; exact f2⟩
end
/-- a target that takes data that stays -/
def SimTg (X : Cx) (W : WX) (tg : Expr) (g : PD → SM) : Prop := ∃ t : TG, PG X tg t ∧ ∀ F A H σ ρ v d D, ER X.K F A H σ ρ → Rp A H v d → PstS X.K X.mg W F A H D (g d ρ) → t v σ H D.nx
def tgOf (g : PD → Dn → Option Dn) : PD → SM := fun d ρ =>
  match g d ρ with
  | some ρ' => .nx ρ'
  | none => .no
section
variable {X : Cx} {W : WX} {tg tg2 e : Expr} {g : PD → Dn → Option Dn} {is : List Nat} {fe : M Rv} {G G2 : PD → SM} {pos : Pos}
theorem SimG.toTg (h : SimG X tg g is) : SimTg X W tg (tgOf g) := by
  obtain ⟨t, p, h⟩ := h
  refine ⟨t, p, fun F A H σ ρ v d D E R hs => ?_⟩
  unfold tgOf at hs
  cases eg : g d ρ with
  | none => rw [eg] at hs; exact hs.elim
  | some ρ' =>
    rw [eg] at hs
    exact h F A H σ ρ v d ρ' _ E R eg fun σ' E' _ _ _ => hs A H σ' E' Kp.refl
def sAsgG (f : M Rv) (G : PD → SM) : SM := bndS f fun r => bndS (frz r) G
theorem sim_asgG (he : SimE X W e fe) (hg : SimTg X W tg G) (hs : swapsWithSole [tg] e pos.line X.env = pure false := by rfl) (hw : swappedStores [tg] e X.env = pure none := by rfl)
    (h1 : (assignEach [tg] X.env).map (·.2) = [assign tg X.env] := by rfl) : SimS X W (.Assign [tg] e pos) (sAsgG fe G) := by
  obtain ⟨t, p, h⟩ := he
  obtain ⟨u, q, hg⟩ := hg
  refine ⟨_, ps_asg p q hs hw h1, fun F A H σ ρ D E h1 => ?_⟩
  refine h F A H σ ρ E _ (PstS.split E h1 fun r ρ1 A1 H1 v E1 S1 R1 h2 => ?_)
  obtain ⟨d, A2, ρ2, E2, S2, R2, h3⟩ := h2.frz E1 S1 R1
  exact hg F A2 H1 σ ρ2 v d D E2 R2 (h3.after (S2.kpr E))
def sAsgG2 (f : M Rv) (G G2 : PD → SM) : SM := bndS f fun r => bndS (frz r) fun d => sSeq (G d) (G2 d)
theorem sim_asgG2 (he : SimE X W e fe) (hg : SimTg X W tg G) (hg2 : SimTg X W tg2 G2) (ha : (assignEach [tg, tg2] X.env).map (·.2) = [assign tg X.env, assign tg2 X.env] := by rfl) (hw : swappedStores [tg, tg2] e X.env = pure none := by rfl) : SimS X W (.Assign [tg, tg2] e pos) (sAsgG2 fe G G2) := by
  obtain ⟨t, p, h⟩ := he
  obtain ⟨u, q, hg⟩ := hg
  obtain ⟨u2, q2, hg2⟩ := hg2
  refine ⟨_, ps_asg2 p q q2 ha hw, fun F A H σ ρ D E h1 => ?_⟩
  refine h F A H σ ρ E _ (PstS.split E h1 fun r ρ1 A1 H1 v E1 S1 R1 h2 => ?_)
  obtain ⟨d, A2, ρ2, E2, S2, R2, h3⟩ := h2.frz E1 S1 R1
  have h4 := h3.after (S2.kpr E)
  refine hg F A2 H1 σ ρ2 v d { D with nx := fun σ' H' => u2 v σ' H' D.nx } E2 R2 ?_
  unfold sSeq at h4
  cases e1 : G d ρ2 with
  | nx ρ' => rw [e1] at h4; exact fun A' H' σ' E' k => hg2 F A' H' σ' ρ' v d D E' (Rp.kp k R2) (h4.after k)
  | rt r ρ' => rw [e1] at h4; exact h4
  | bk ρ' => rw [e1] at h4; exact h4
  | ct ρ' => rw [e1] at h4; exact h4
  | ex x ρ' => rw [e1] at h4; exact h4
  | no => rw [e1] at h4; exact h4
/-! xs[i] = v, d[k] = v -/
def putD (k : Key) (v : PD) (kvs : List (PD × PD)) : List (PD × PD) :=
  if (kvs.any fun p => keyIsD k p.1) = true then kvs.map (fun p => if keyIsD k p.1 = true then (p.1, v) else p) else kvs ++ [(kD k, v)]
def setIx (d k v : PD) : Option PD :=
  match d with
  | .list ds => match k with
    | .int i => (ixN ds.length i).map fun j => .list (ds.set j v)
    | _ => none
  | .dict kvs => match keyD k with
    | some q => if smallL kvs.length = true then some (.dict (putD q v kvs)) else none
    | none => none
  | _ => none
def rSetAll : TSet := fun o i v H Q => (∃ p xs k j, o = .ref p ∧ i = .int k ∧ H p = some (.lst xs) ∧ ixN xs.length k = some j ∧ Q (upd H p (.lst (xs.set j v)))) ∨
  ∃ a k kvs, o = .ref a ∧ i = kV k ∧ H a = some (.dK kvs) ∧ kvs.length < sizeLine ∧ Q (upd H a (.dK (putK kvs k v)))
theorem set_all (hu : X.A.units + 1 < cLine) : PSet X rSetAll := by
  intro pins s σ H o i v ov iv u Q I ro ri rv h
  rcases h with h | ⟨a, k, kvs, e1, e2, h, hz, q⟩
  · exact set_list pins s σ H o i v ov iv u Q I ro ri rv h
  · subst e1 e2
    obtain rfl : ov = Value.ref a := ro
    exact d_setItem hu I (DPut.k h hz) ri rv fun s' I' => ⟨_, I', q⟩
theorem RpAll.set {A : AS} {H : Hp} {v : V} {d : PD} (r : Rp A H v d) : ∀ {vs : List V} {ds : List PD} (j : Nat), RpAll A H vs ds → RpAll A H (vs.set j v) (ds.set j d)
  | _, _, _, .nil => .nil
  | _, _, 0, .cons _ h => .cons r h
  | _, _, j + 1, .cons q h => .cons q (RpAll.set r j h)
theorem any_rp {A : AS} {H : Hp} {k : Key} : ∀ {kvs : List (Key × V)} {ds : List (PD × PD)}, RpKV A H kvs ds → (kvs.any fun p => decide (p.1 = k)) = ds.any fun p => keyIsD k p.1
  | _, _, .nil => rfl
  | _, _, .cons r h => by simp only [List.any_cons, keyIsD_kD, any_rp h]
theorem map_rp {A : AS} {H : Hp} {k : Key} {v : V} {d : PD} (r : Rp A H v d) : ∀ {kvs : List (Key × V)} {ds : List (PD × PD)}, RpKV A H kvs ds → RpKV A H (kvs.map fun p => if p.1 = k then (p.1, v) else p) (ds.map fun p => if keyIsD k p.1 = true then (p.1, d) else p)
  | _, _, .nil => .nil
  | _, _, .cons (k := q) (v := x) (d := y) q1 h => by
    simp only [List.map_cons, keyIsD_kD, decide_eq_true_eq]
    by_cases e : q = k
    · rw [if_pos e, if_pos e]; exact .cons r (map_rp r h)
    · rw [if_neg e, if_neg e]; exact .cons q1 (map_rp r h)
theorem RpKV.append {A : AS} {H : Hp} : ∀ {kvs kvs' : List (Key × V)} {ds ds' : List (PD × PD)}, RpKV A H kvs ds → RpKV A H kvs' ds' → RpKV A H (kvs ++ kvs') (ds ++ ds')
  | _, _, _, _, .nil, h => h
  | _, _, _, _, .cons r h, h' => .cons r (RpKV.append h h')
theorem RpKV.length {A : AS} {H : Hp} : ∀ {kvs : List (Key × V)} {ds : List (PD × PD)}, RpKV A H kvs ds → kvs.length = ds.length
  | _, _, .nil => rfl
  | _, _, .cons _ h => by simp [RpKV.length h]
theorem putK_rp {A : AS} {H : Hp} {k : Key} {v : V} {d : PD} (r : Rp A H v d) {kvs : List (Key × V)} {ds : List (PD × PD)} (h : RpKV A H kvs ds) : RpKV A H (putK kvs k v) (putD k d ds) := by
  unfold putK putD
  rw [any_rp h]
  split
  · exact map_rp r h
  · exact h.append (.cons r .nil)
/-- a store into slot i's own thing -/
def putAt (i : Nat) (d k : PD) : SM := fun ρ =>
  match ρ[i]? with
  | some (some (.own b o)) => match setIx o k d with
    | some o' => .nx (ρ.set i (some (.own b o')))
    | none => .no
  | _ => .no
def sPutIx (i : Nat) (fk : M Rv) (d : PD) : SM := fun ρ => if isOwn ρ i = true then bndS fk (fun r => bndS (rdM r) (putAt i d)) ρ else .no
theorem upd_own_list {A : AS} {H : Hp} {p : Addr} {xs ys : List V} {es : List PD} (hA : ¬ A p) (h : H p = some (.lst xs)) (r : RpAll A H ys es) : OwnObj A (upd H p (.lst ys)) p (.list es) :=
  ⟨ys, upd_same, r.kp (Kp.other hA h fun _ z => by cases z)⟩
theorem upd_own_dict {A : AS} {H : Hp} {p : Addr} {xs ys : List (Key × V)} {es : List (PD × PD)} (hA : ¬ A p) (h : H p = some (.dK xs)) (r : RpKV A H ys es) : OwnObj A (upd H p (.dK ys)) p (.dict es) :=
  ⟨ys, upd_same, r.kp (Kp.other hA h fun _ z => by cases z)⟩
theorem sim_tgsub {o ix : Expr} {i : Nat} {fk : M Rv} (hu : X.A.units + 1 < cLine) (ho : PE X o (tVar i)) (hi : SimE X W ix fk)
    (ha : ∀ v, assign (.Subscript o ix pos) X.env v = (do
      let ov ← holding [v] (eval o X.env)
      let iv ← holding [v, ov] (eval ix X.env)
      standAt pos
      holding [v, ov, iv] (setItem ov iv v)
      release [v, ov, iv] []) := by intro _; rfl) : SimTg X W (.Subscript o ix pos) (sPutIx i fk) := by
  obtain ⟨t, pk, hi⟩ := hi
  refine ⟨_, pg_sub ho pk (set_all hu) ha, fun F A H σ ρ v d D E R h => ?_⟩
  unfold sPutIx at h
  by_cases hown : isOwn ρ i = true
  case neg => rw [if_neg hown] at h; exact h.elim
  rw [if_pos hown] at h
  obtain ⟨b0, o0, e0⟩ : ∃ b o, ρ[i]? = some (some (.own b o)) := by
    unfold isOwn at hown
    split at hown
    · exact ⟨_, _, by assumption⟩
    · cases hown
  obtain ⟨w, e1, p, rfl, hA0, ob0⟩ := E.slot i _ e0
  refine ⟨.ref p, e1, ?_⟩
  refine hi F A H σ ρ E _ (PstS.split E h fun r ρ1 A1 H1 kv E1 S1 R1 h1 => ?_)
  obtain ⟨k, e2, h2⟩ := h1.rd
  have hk := RvR.rt E1 R1 e2
  have Rv' : Rp A1 H1 v d := Rp.kp (S1.kpr E) R
  unfold putAt at h2
  split at h2
  · rename_i b1 o1 e3
    obtain ⟨w', e4, p', rfl, hA1, ob1⟩ := E1.slot i _ e3
    rw [e1] at e4
    cases e4
    cases es : setIx o1 k d with
    | none => rw [es] at h2; exact h2.elim
    | some o' =>
      rw [es] at h2
      dsimp only at h2
      unfold setIx at es
      split at es
      · rename_i ds
        split at es
        · rename_i n
          cases ej : ixN ds.length n with
          | none => rw [ej] at es; cases es
          | some j =>
            rw [ej] at es
            cases es
            obtain ⟨xs, hx, rx⟩ := ob1
            have ow := upd_own_list hA1 hx (RpAll.set Rv' j rx)
            obtain ⟨E2, k2⟩ := E1.updOwn e3 e1 ow
            exact .inl ⟨p, xs, n, j, rfl, hk.int, hx, by rw [rx.length]; exact ej, h2 A1 _ σ E2 ((S1.kpr E).trans k2)⟩
        · cases es
      · rename_i kvs
        split at es
        · rename_i q hq
          split at es
          · rename_i hz
            cases es
            obtain ⟨hs, ek⟩ := keyD_eq hq
            obtain ⟨ex, _⟩ := sc_flat hk hs
            obtain ⟨xs, hx, rx⟩ := ob1
            have ow := upd_own_dict hA1 hx (putK_rp (k := q) Rv' rx)
            obtain ⟨E2, k2⟩ := E1.updOwn e3 e1 ow
            exact .inr ⟨p, q, xs, rfl, by rw [ex, ek], hx, by rw [rx.length]; exact smallL_lt hz, h2 A1 _ σ E2 ((S1.kpr E).trans k2)⟩
          · cases es
        · cases es
      · cases es
  · exact h2.elim
/-! xs.append(e) -/
def appAt (i : Nat) (d : PD) : SM := fun ρ =>
  match ρ[i]? with
  | some (some (.own b (.list ds))) => if smallL ds.length = true then .nx (ρ.set i (some (.own b (.list (ds ++ [d]))))) else .no
  | _ => .no
def isOwnLst (ρ : Dn) (i : Nat) : Bool :=
  match ρ[i]? with
  | some (some (.own _ (.list _))) => true
  | _ => false
def sApp (i : Nat) (f : M Rv) : SM := fun ρ => if isOwnLst ρ i = true then bndS f (fun r => bndS (frz r) (appAt i)) ρ else .no
theorem sim_app {o a : Expr} {i : Nat} {fa : M Rv} {apos cpos spos : Pos} (ho : PE X o (tVar i)) (ha : SimE X W a fa)
    (hbase : attributeBase o "append" X.env (eval o X.env) = eval o X.env := by rfl)
    (hfew : ((backTo cpos (starEach (a :: []) X.env)).all (fun x => !x.1) && (backToKw cpos (keywordEach [] X.env)).all (fun x => x.1.isSome)
      && decide ((a :: []).length + ([] : List Keyword).length + (if ([] : List Keyword).isEmpty then 0 else 1) < 30)) = true := by rfl)
    (hline : (apos.endLine == cpos.line) = true := by rfl) (hs : starEach (a :: []) X.env = (false, eval a X.env) :: starEach [] X.env := by rfl) (hplain : (backTo cpos (starEach [] X.env)).any (·.1) = false := by rfl)
    (hsw : swapsWith (.Call (.Attribute o "append" apos) [a] [] cpos) none spos.line X.env = pure false := by rfl) :
    SimS X W (.Expr (.Call (.Attribute o "append" apos) [a] [] cpos) spos) (sApp i fa) := by
  obtain ⟨t, pa, ha⟩ := ha
  refine ⟨_, ps_expr (pe_bm PySem.F.plainAttrs_list PySem.F.slot_list_append PySem.F.type_list_append mt_append ho (pa_cons pa pa_nil hs) hbase hfew hline hs hplain) hsw, fun F A H σ ρ D E h => ?_⟩
  unfold sApp at h
  by_cases hown : isOwnLst ρ i = true
  case neg => rw [if_neg hown] at h; exact h.elim
  rw [if_pos hown] at h
  obtain ⟨b0, o0, e0⟩ : ∃ b o, ρ[i]? = some (some (.own b (.list o))) := by
    unfold isOwnLst at hown
    split at hown
    · exact ⟨_, _, by assumption⟩
    · cases hown
  obtain ⟨w, e1, p, rfl, hA0, xs0, hx0, r0⟩ := E.slot i _ e0
  refine ⟨.ref p, e1, .inl ⟨rfl, xs0, SqL.of hx0⟩, ?_⟩
  refine ha F A H σ ρ E _ (PstS.split E h fun r ρ1 A1 H1 v E1 S1 R1 h1 => ?_)
  obtain ⟨d, A2, ρ2, E2, S2, R2, h2⟩ := h1.frz E1 S1 R1
  unfold appAt at h2
  split at h2
  · rename_i b1 ds e3
    split at h2
    · rename_i hz
      obtain ⟨w', e4, p', rfl, hA1, xs, hx, rx⟩ := E2.slot i _ e3
      rw [e1] at e4
      cases e4
      have ow := upd_own_list hA1 hx (rx.snoc R2)
      obtain ⟨E3, k3⟩ := E2.updOwn e3 e1 ow
      exact ⟨p, xs, v, rfl, rfl, hx, by rw [rx.length]; exact smallL_lt hz, h2 A2 _ σ E3 ((S2.kpr E).trans k3)⟩
    · exact h2.elim
  · exact h2.elim
/-! {} and d.get(k, x) -/
def eDict0 : M Rv := fun ρ => .ok (.fresh (.dict [])) ρ
theorem sim_dict0 : SimE X W (.Dict [] [] pos) eDict0 := by
  refine ⟨_, pe_dnewK, fun F A H σ ρ E Q h => ?_⟩
  intro p hp
  have ext := new_ext (o := .dK []) hp
  exact h A _ (.ref p) (E.ext ext) (Step.ext ext) ⟨p, rfl, ⟨E.free hp, E.owne hp, E.fnone hp, hp⟩, [], upd_same, .nil⟩
def getDf (d k x : PD) : Option PD :=
  match d with
  | .dict kvs => match keyD k with
    | some q => some ((look q kvs).getD x)
    | none => none
  | _ => none
def isDictV (r : Rv) : M Unit := fun ρ =>
  match rd r ρ with
  | some (.dict _) => .ok () ρ
  | _ => .no
def eGet2 (fo fk fx : M Rv) : M Rv := bnd fo fun o => bnd (isDictV o) fun _ => bnd fk fun k => bnd fx fun x => bnd (frz x) fun dx => bnd (rdM o) fun d => bnd (rdM k) fun kd =>
  match getDf d kd dx with
  | some c => retM (.val c)
  | none => noM
theorem sim_get2 {o k x : Expr} {fo fk fx : M Rv} {apos cpos : Pos} (hu : X.A.units + 1 < cLine) (ho : SimE X W o fo) (hk : SimE X W k fk) (hx : SimE X W x fx) (m : M2 X o "get" apos k x cpos) : SimE X W (.Call (.Attribute o "get" apos) [k, x] [] cpos) (eGet2 fo fk fx) := by
  obtain ⟨t, po, ho⟩ := ho
  obtain ⟨tk, pk, hk⟩ := hk
  obtain ⟨tx, px, hx⟩ := hx
  refine ⟨_, pe_dget2 hu po pk px m, fun F A H σ ρ E Q h => ?_⟩
  refine ho F A H σ ρ E _ (h.split fun r ρ1 A1 H1 v1 E1 S1 R1 h1 => ?_)
  have hd : ∃ kvs, rd r ρ1 = some (.dict kvs) ∧ Pst X.K X.mg W F A H σ ρ (RE F H σ) Q ((bnd fk fun k => bnd fx fun x => bnd (frz x) fun dx => bnd (rdM r) fun d => bnd (rdM k) fun kd =>
      match getDf d kd dx with
      | some c => retM (.val c)
      | none => noM) ρ1) := by
    unfold isDictV at h1
    simp only [bnd] at h1 ⊢
    split at h1
    · rename_i a ρ' e1
      split at e1
      · rename_i kvs e2
        cases e1
        exact ⟨kvs, e2, h1⟩
      · cases e1
    · rename_i e1; split at e1 <;> cases e1
    · exact h1.elim
  obtain ⟨kvs0, ed0, h1⟩ := hd
  obtain ⟨p, us0, ev, hp0, rr0⟩ := (RvR.rt E1 R1 ed0).dic
  subst ev
  refine ⟨p, rfl, .inl ⟨us0, .inl hp0⟩, ?_⟩
  refine hk F A1 H1 σ ρ1 E1 _ ((h1.after S1).split fun kr ρ2 A2 H2 v2 E2 S2 R2 h2 => ?_)
  refine hx F A2 H2 σ ρ2 E2 _ ((h2.after S2).split fun xr ρ3 A3 H3 v3 E3 S3 R3 h3 => ?_)
  obtain ⟨dx, A4, ρ4, E4, S4, R4, h4⟩ := Pst.frz E3 S3 R3 h3
  obtain ⟨d, e5, h5⟩ := h4.rd
  obtain ⟨kd, e6, h6⟩ := h5.rd
  have R1' : RvR F H A4 H3 σ ρ4 (.ref p) r := RvR.step E2 S4 (RvR.step E1 S2 R1)
  have R2' : RvR F H1 A4 H3 σ ρ4 v2 kr := RvR.step E2 S4 R2
  cases eg : getDf d kd dx with
  | none => rw [eg] at h6; exact h6.elim
  | some c =>
    rw [eg] at h6
    unfold getDf at eg
    split at eg
    · rename_i kvs
      split at eg
      · rename_i q hq
        cases eg
        obtain ⟨hs, ek⟩ := keyD_eq hq
        obtain ⟨ex, _⟩ := sc_flat (RvR.rt E4 R2' e6) hs
        obtain ⟨p', us, ev', h1', r1⟩ := (RvR.rt E4 R1' e5).dic
        cases ev'
        refine ⟨valV us q, ?_, ?_⟩
        · rw [ex, ek]; exact DGet.k h1'
        · rcases look_valV (k := q) r1 with ⟨a, b⟩ | ⟨d', v', a, b, rr⟩
          · rw [a] at h6; rw [b]; exact h6 A4 H3 v3 E4 S4 R4
          · rw [a] at h6; rw [b]; exact h6 A4 H3 v' E4 S4 rr
      · cases eg
    · cases eg
end
end DP
/-! DPR: dict comprehensions. -/
namespace DP
open PySem L2
def dcompL (g : PD → Dn → Option Dn) (vs : List Nat) (cond : M Bool) (kx : M Rv) (elt : M PD) : List PD → List (PD × PD) → M (List (PD × PD))
  | [], acc => fun ρ => .ok acc ρ
  | d :: ds, acc => fun ρ =>
    match g d ρ with
    | none => .no
    | some ρ1 => match cond ρ1 with
      | .ok true ρ2 => match kx ρ2 with
        | .ok kr ρ2k => match elt ρ2k with
          | .ok y ρ3 => match rd kr ρ3 with
            | some kd => match keyD kd with
              | some q => if smallL acc.length = true then dcompL g vs cond kx elt ds (putD q y acc) (wipeD ρ3 vs) else .no
              | none => .no
            | none => .no
          | _ => .no
        | _ => .no
      | .ok false ρ2 => dcompL g vs cond kx elt ds acc (wipeD ρ2 vs)
      | _ => .no
def eDComp (it : M (List PD)) (g : PD → Dn → Option Dn) (vs : List Nat) (cond : M Bool) (kx elt : M Rv) : M Rv := bnd it fun ds ρ =>
  if okW ρ vs = true then
    match dcompL g vs cond kx (bnd elt frz) ds [] (wipeD ρ vs) with
    | .ok acc ρ' => .ok (.fresh (.dict acc)) (backD ρ ρ' vs)
    | _ => .no
  else .no
section
variable {K : PySem.W.Frag} {mg : Str → Option Value} {W : WX} {vs : List Nat} {it : M (List PD)} {g : PD → Dn → Option Dn} {is : List Nat} {cond : M Bool} {kx elt : M Rv} {wi : TI} {tg : TG} {tt : TT} {tk te : TE}
theorem dc_run (hi : ∀ F A H σ ρ, ER K F A H σ ρ → ∀ R : It → Hp → Prop, Pst K mg W F A H σ ρ (fun A' H' _ J ds => ItR A' H' J ds) R (it ρ) → wi σ H R)
    (hg : ∀ F A H σ ρ v d ρ' (Q : L2.St → Hp → Prop), ER K F A H σ ρ → Rp A H v d → g d ρ = some ρ' → (∀ σ', ER K F A H σ' ρ' → (∀ j, j ∉ is → σ'[j]? = σ[j]? ∧ ρ'[j]? = ρ[j]?) → (∀ j, j ∈ is → ∃ d, ρ'[j]? = some (some (.imm d))) → σ'.length = σ.length → Q σ' H) → tg v σ H Q)
    (his : ∀ i ∈ is, i ∈ vs)
    (ht : ∀ F A H σ ρ, ER K F A H σ ρ → ∀ Q : Bool → Hp → Prop, Pst K mg noW F A H σ ρ RT Q (cond ρ) → tt σ H Q)
    (hkx : ∀ F A H σ ρ, ER K F A H σ ρ → ∀ Q : VK, Pst K mg noW F A H σ ρ (RE F H σ) Q (kx ρ) → tk σ H Q)
    (he : ∀ F A H σ ρ, ER K F A H σ ρ → ∀ Q : VK, Pst K mg noW F A H σ ρ (RE F H σ) Q (elt ρ) → te σ H Q) :
    ∀ F A H σ ρ, ER K F A H σ ρ → ∀ Q : VK, Pst K mg W F A H σ ρ (RE F H σ) Q (eDComp it g vs cond kx elt ρ) → tDc wi tg tt tk te vs σ H Q := by
  intro F A H σ ρ E Q h
  refine hi F A H σ ρ E _ (h.split (RR1 := fun A' H' _ J ds => ItR A' H' J ds) fun ds ρ1 A1 H1 J E1 S1 I1 h1 => ?_)
  intro D hD
  by_cases hk : okW ρ1 vs = true
  case neg => rw [if_neg hk] at h1; exact h1.elim
  rw [if_pos hk] at h1
  have hq : ∀ q ∈ F.ins, q.1 ∉ vs := fun q hq hv => by
    obtain ⟨_, d, e⟩ := E1.ins q hq
    obtain ⟨d', z⟩ := okW_get hk hv e
    cases z
  cases ec : dcompL g vs cond kx (bnd elt frz) ds [] (wipeD ρ1 vs) with
  | no => rw [ec] at h1; exact h1.elim
  | ex x ρ' => rw [ec] at h1; exact h1.elim
  | ok accF ρF =>
    rw [ec] at h1
    have extD : ∀ b o, H1 b = some o → upd H1 D (.dK []) b = some o := fun b o e => by rw [upd_ne (ne_of_none e hD)]; exact e
    have dA : ¬ A1 D := E1.free hD
    have dO : ¬ Ow σ ρ1 D := E1.owne hD
    have dF : F.H D = none := E1.fnone hD
    refine ⟨fun i m H' => m = ds.length - i ∧ i ≤ ds.length ∧ ∃ A' ρ' acc us, ER K F A' H' (wipe σ vs) ρ' ∧ StepV vs A1 H1 σ ρ1 A' H' (wipe σ vs) ρ' ∧ H' D = some (.dK us) ∧ ¬ A' D ∧ RpKV A' H' us acc ∧ (∀ i s, i ∈ vs → ρ'[i]? ≠ some (some s)) ∧
      dcompL g vs cond kx (bnd elt frz) (ds.drop i) acc ρ' = .ok accF ρF, ⟨ds.length, by simp, Nat.zero_le _, A1, wipeD ρ1 vs, [], [], (E1.wipe hq).ext extD, ⟨fun b o e _ => extD b o e, fun _ h => h, fun _ h => .inl h, fun p h => wipe_ow h, fun i s hi e => ⟨s, by rw [wipeD_out hi]; exact e⟩, fun b e => keep_none extD e, wipeD_len _ _⟩, upd_same, dA, .nil, fun i s hi => wipeD_in hi, by simpa using ec⟩, ?_⟩
    rintro i m H2 ⟨rfl, hi2, A2, ρ2, acc, us, E2, S2, hD2, dA2, r2, hw2, ec2⟩
    have k2 : Kp A1 A2 H1 H2 := S2.kpr E1
    obtain ⟨hstop, hgo⟩ := (I1.kp k2) A2 H2 Kp.refl E2.dom
    by_cases hlt : i < ds.length
    · have hd : ds[i]? = some ds[i] := by simp [hlt]
      obtain ⟨go, yld⟩ := hgo i _ hd
      rw [List.drop_eq_getElem_cons hlt] at ec2
      simp only [dcompL] at ec2
      cases eg : g ds[i] ρ2 with
      | none => rw [eg] at ec2; cases ec2
      | some ρ3 =>
        rw [eg] at ec2
        dsimp only at ec2
        refine .inr ⟨go, fun H' => ∃ A' ρ' acc us, ER K F A' H' (wipe σ vs) ρ' ∧ StepV vs A1 H1 σ ρ1 A' H' (wipe σ vs) ρ' ∧ H' D = some (.dK us) ∧ ¬ A' D ∧ RpKV A' H' us acc ∧ (∀ i s, i ∈ vs → ρ'[i]? ≠ some (some s)) ∧
          dcompL g vs cond kx (bnd elt frz) (ds.drop (i + 1)) acc ρ' = .ok accF ρF, fun H' z => ⟨ds.length - (i + 1), by omega, rfl, hlt, z⟩, fun x H3 y3 => ?_⟩
        obtain ⟨k3, r3⟩ := yld x H3 y3
        have E3 := E2.ext k3
        refine hg F A2 H3 (wipe σ vs) ρ2 x ds[i] ρ3 _ E3 r3 eg fun σ3 E4 n4 m4 l4 => ?_
        have ww : wipe σ3 vs = wipe σ vs := by
          rw [← wipe_wipe (σ := σ)]
          exact wipe_eq (fun j hj => (n4 j fun z => hj (his j z)).1) l4
        refine ⟨ww, ?_⟩
        -- what the target has done
        have l3 : ρ3.length = ρ2.length := by rw [← E4.len, l4, E3.len]
        have own3 : ∀ p, Ow σ3 ρ3 p → Ow (wipe σ vs) ρ2 p := fun p ⟨j, b, d, e1, e2⟩ => by
          by_cases hj : j ∈ is
          · obtain ⟨d', z⟩ := m4 j hj
            rw [z] at e1
            cases e1
          · exact ⟨j, b, d, by rw [← (n4 j hj).2]; exact e1, by rw [← (n4 j hj).1]; exact e2⟩
        have S3 : StepV vs A2 H2 (wipe σ vs) ρ2 A2 H3 σ3 ρ3 := ⟨fun b o e _ => k3 b o e, fun _ h => h, fun _ h => .inl h, own3, fun j s hj e => ⟨s, by rw [(n4 j fun z => hj (his j z)).2]; exact e⟩, fun b e => keep_none k3 e, l3⟩
        have r3' := r2.kp (Kp.ext (A := A2) k3)
        have hD3 := k3 D _ hD2
        have dO3 : ¬ Ow σ3 ρ3 D := fun z => dO (S2.sub D (own3 D z))
        have fin : ∀ {A5 : AS} {H5 : Hp} {ρ5 : Dn} {us5 : List (Key × V)} {acc5 : List (PD × PD)}, ER K F A5 H5 σ3 ρ5 → StepV vs A1 H1 σ ρ1 A5 H5 σ3 ρ5 → H5 D = some (.dK us5) → ¬ A5 D → RpKV A5 H5 us5 acc5 → dcompL g vs cond kx (bnd elt frz) (ds.drop (i + 1)) acc5 (wipeD ρ5 vs) = .ok accF ρF →
            ∃ A' ρ' acc us, ER K F A' H5 (wipe σ vs) ρ' ∧ StepV vs A1 H1 σ ρ1 A' H5 (wipe σ vs) ρ' ∧ H5 D = some (.dK us) ∧ ¬ A' D ∧ RpKV A' H5 us acc ∧ (∀ i s, i ∈ vs → ρ'[i]? ≠ some (some s)) ∧ dcompL g vs cond kx (bnd elt frz) (ds.drop (i + 1)) acc ρ' = .ok accF ρF :=
          fun {A5 H5 ρ5 us5 acc5} E5 S5 hD5 dA5 r5 e5 => ⟨A5, wipeD ρ5 vs, acc5, us5, by rw [← ww]; exact E5.wipe hq, by rw [← ww]; exact S5.trans StepV.wipe, hD5, dA5, r5, fun i s hi => wipeD_in hi, e5⟩
        refine ht F A2 H3 σ3 ρ3 E4 _ ?_
        cases et : cond ρ3 with
        | no => rw [et] at ec2; cases ec2
        | ex x ρ4 => rw [et] at ec2; cases ec2
        | ok b ρ4 =>
          rw [et] at ec2
          intro A4 H4 b' E5 S4 R4
          cases R4
          have hD4 : H4 D = some (.dK us) := S4.kp D _ hD3 dO3
          have grow4 : ∀ {A' : AS}, (∀ a, A' a → A2 a ∨ H3 a = none ∨ Ow σ3 ρ3 a) → ¬ A' D := fun gr z => by
            rcases gr D z with q | q | q
            · exact dA2 q
            · rw [hD3] at q; cases q
            · exact dO3 q
          cases b with
          | false =>
            rw [if_neg (by simp)]
            exact fin E5 ((S2.trans S3).trans S4.v) hD4 (grow4 S4.grow) (r3'.kp (S4.kpr E4)) ec2
          | true =>
            rw [if_pos rfl]
            dsimp only at ec2
            refine hkx F A4 H4 σ3 ρ4 E5 _ ?_
            cases ek : kx ρ4 with
            | no => rw [ek] at ec2; cases ec2
            | ex x ρ5 => rw [ek] at ec2; cases ec2
            | ok kr ρ4k =>
            rw [ek] at ec2
            dsimp only at ec2
            intro A4k H4k yk E5k S5k R5k
            refine he F A4k H4k σ3 ρ4k E5k _ ?_
            unfold bnd at ec2
            cases ee : elt ρ4k with
            | no => rw [ee] at ec2; cases ec2
            | ex x ρ5 => rw [ee] at ec2; cases ec2
            | ok rv ρ5 =>
              rw [ee] at ec2
              intro A5 H5 y E6 S5 R5
              dsimp only at ec2
              rcases frz_ok (r := rv) (ρ := ρ5) rfl with ez | ⟨d5, ρ6, ez⟩
              · rw [ez] at ec2; cases ec2
              · rw [ez] at ec2
                dsimp only at ec2
                obtain ⟨A6, E7, S6, R6, _⟩ := frz_run E6 S5 R5.q ez
                have Rk6 : RvR F H4 A6 H5 σ3 ρ6 yk kr := RvR.step E5k S6 R5k
                cases erk : rd kr ρ6 with
                | none => rw [erk] at ec2; cases ec2
                | some kd =>
                rw [erk] at ec2
                dsimp only at ec2
                cases eqk : keyD kd with
                | none => rw [eqk] at ec2; cases ec2
                | some q =>
                rw [eqk] at ec2
                dsimp only at ec2
                by_cases hz : smallL acc.length = true
                case neg => rw [if_neg hz] at ec2; cases ec2
                rw [if_pos hz] at ec2
                have S46 := S4.trans (S5k.trans S6)
                have hD5 : H5 D = some (.dK us) := S46.kp D _ hD3 dO3
                have dA6 := grow4 S46.grow
                have dO6 : ¬ Ow σ3 ρ6 D := fun z => dO3 (S46.sub D z)
                have r6 := r3'.kp (S46.kpr E4)
                obtain ⟨hsk, ekk⟩ := keyD_eq eqk
                obtain ⟨exk, _⟩ := sc_flat (RvR.rt E7 Rk6 erk) hsk
                have kD : Kp A6 A6 H5 (upd H5 D (.dK (putK us q y))) := Kp.other dA6 hD5 fun xs z => by cases z
                refine ⟨us, q, by rw [exk, ekk], hD5, by rw [r2.length]; exact smallL_lt hz, ?_⟩
                have E8 : ER K F A6 (upd H5 D (.dK (putK us q y))) σ3 ρ6 := E7.other dA6 dO6 dF hD5 (fun xs z => by cases z) fun q v z => by cases z
                have SB : StepV vs A1 H1 σ ρ1 A6 H5 σ3 ρ6 := (S2.trans S3).trans S46.v
                have S7 : StepV vs A1 H1 σ ρ1 A6 (upd H5 D (.dK (putK us q y))) σ3 ρ6 := by
                  refine ⟨fun b o e n => ?_, SB.mono, SB.grow, SB.sub, SB.def_, fun b e => ?_, SB.len⟩
                  · rw [upd_ne (ne_of_none e hD)]
                    exact SB.kp b o e n
                  · by_cases hb : b = D
                    · subst hb; rw [upd_same] at e; cases e
                    · rw [upd_ne hb] at e; exact SB.live b e
                exact fin E8 S7 upd_same dA6 (putK_rp (k := q) (Rp.kp kD R6) (r6.kp kD)) ec2
    · have e : i = ds.length := by omega
      subst e
      refine .inl ⟨hstop, ?_⟩
      rw [List.drop_length] at ec2
      cases ec2
      have EB := E1.back hk E2 k2 hw2 S2.len
      have ow : ∀ p, Ow σ (backD ρ1 ρF vs) p → Ow σ ρ1 p := fun p ⟨j, b, d, e1, e2⟩ => by
        by_cases hj : j ∈ vs
        · have hlt : j < ρF.length := by
            have := (List.getElem?_eq_some_iff.mp e1).1
            rw [backD_len] at this
            exact this
          rw [backD_in hlt hj] at e1
          have e3 := join_get (Option.some.inj e1)
          exact ⟨j, b, d, e3, e2⟩
        · rw [backD_out hj] at e1
          exact S2.sub p ⟨j, b, d, e1, by rw [wipe_out hj]; exact e2⟩
      have SE : Step A1 H1 σ ρ1 A2 H2 (backD ρ1 ρF vs) := ⟨S2.kp, S2.mono, S2.grow, ow, fun j s e => by
        by_cases hj : j ∈ vs
        · have hlt : j < ρF.length := by rw [S2.len]; exact (List.getElem?_eq_some_iff.mp e).1
          exact ⟨s, by rw [backD_in hlt hj, e]; rfl⟩
        · rw [backD_out hj]; exact S2.def_ j s hj e, S2.live, by rw [backD_len, S2.len]⟩
      exact h1 A2 H2 (.ref D) EB (S1.trans SE) ⟨D, rfl, ⟨dA2, fun z => dO (ow D z), dF, S1.live D hD⟩, us, hD2, r2⟩
end
section
variable {X : Cx} {W : WX} {kx elt tg iter : Expr} {ifs : List Expr} {scope : Scope} {own : List (Str × Nat)} {pos : Pos} {it : M (List PD)} {g : PD → Dn → Option Dn} {is : List Nat} {cond : M Bool} {fk f : M Rv}
theorem sim_dc (own : List (Str × Nat)) (hc : X.calm = true) (hN : X.N.Nodup) (hi : SimI X W tg iter it) (ok : BlkOk X.N X.env.scope scope own)
    (hg : ∀ (s : Shared) (H : Hp) (C : Addr) (cl : List (Str × Addr)) (fp : List Addr), SimG (X.blk s H scope (compEnvC scope cl C X.env) fp) tg g is)
    (ht : ∀ (s : Shared) (H : Hp) (C : Addr) (cl : List (Str × Addr)) (fp : List Addr), SimTs (X.blk s H scope (compEnvC scope cl C X.env) fp) ifs cond)
    (hk : ∀ (s : Shared) (H : Hp) (C : Addr) (cl : List (Str × Addr)) (fp : List Addr), SimE (X.blk s H scope (compEnvC scope cl C X.env) fp) noW kx fk)
    (he : ∀ (s : Shared) (H : Hp) (C : Addr) (cl : List (Str × Addr)) (fp : List Addr), SimE (X.blk s H scope (compEnvC scope cl C X.env) fp) noW elt f)
    (his : ∀ i ∈ is, i ∈ own.map (·.2)) (hs : ∀ x, foldedSetIterable iter X.env x = pure x := by intro _; rfl) : SimE X W (.DictComp kx elt [⟨tg, iter, ifs, 0⟩] scope pos) (eDComp it g (own.map (·.2)) cond fk f) := by
  obtain ⟨w, pi, hi⟩ := hi
  refine ⟨_, pe_dc (g := starG X.K g is) (tt := starTs X.K X.mg cond) (tk := starE X.K X.mg noW fk) (tv := starE X.K X.mg noW f) hc hN pi ok (fun s H C cl fp => (hg s H C cl fp).star) (fun s H C cl fp => (ht s H C cl fp).star) (fun s H C cl fp => (hk s H C cl fp).star) (fun s H C cl fp => (he s H C cl fp).star) hs, ?_⟩
  exact dc_run (K := X.K) (mg := X.mg) hi (fun F A H σ ρ v d ρ' Q E R eg q => ⟨F, A, d, ρ, ρ', E, R, eg, q⟩) his (fun F A H σ ρ E Q q => ⟨F, A, ρ, E, q⟩) (fun F A H σ ρ E Q q => ⟨F, A, ρ, E, q⟩) (fun F A H σ ρ E Q q => ⟨F, A, ρ, E, q⟩)
theorem sw_trueD {kx elt : Expr} {gs : List Comprehension} {scope : Scope} {pos py : Pos} {y : Str} {l : Nat} {env : PySem.Env} (hk : env.scope.kind = .function) (hy : env.scope.names.lookup y = some .local) (hl : (py.line == pos.line) = true)
    (ha : (scope.names.any fun (n, k) => n == y && (k == .local || k == .cell)) = false) : swapsWith (.DictComp kx elt gs scope pos) (some (.Name y py)) l env = pure true := by
  have ky : env.kindOf y = some .local := hy
  have hb : env.blockKind = .function := by unfold PySem.Env.blockKind; rw [hk]; rfl
  unfold swapsWith
  simp only [hb, ky, ha, Expr.pos, hl]
  rfl
theorem ps_setDc {i : Nat} {y : Str} {py spos : Pos} {wi : TI} {g : TG} {tt : TT} {tk tv : TE} (hc : X.calm = true) (hN : X.N.Nodup) (hy : X.N[i]? = some y) (hyl : X.env.scope.names.lookup y = some .local)
    (hsw : swapsWith (.DictComp kx elt [⟨tg, iter, ifs, 0⟩] scope pos) (some (.Name y py)) spos.line X.env = pure true) (hi : PI X tg iter wi) (ok : BlkOk X.N X.env.scope scope own)
    (hg : ∀ (s : Shared) (H : Hp) (C : Addr) (cl : List (Str × Addr)) (fp : List Addr), PG (X.blk s H scope (compEnvC scope cl C X.env) fp) tg g) (ht : ∀ (s : Shared) (H : Hp) (C : Addr) (cl : List (Str × Addr)) (fp : List Addr), PTs (X.blk s H scope (compEnvC scope cl C X.env) fp) ifs tt)
    (hk : ∀ (s : Shared) (H : Hp) (C : Addr) (cl : List (Str × Addr)) (fp : List Addr), PE (X.blk s H scope (compEnvC scope cl C X.env) fp) kx tk)
    (he : ∀ (s : Shared) (H : Hp) (C : Addr) (cl : List (Str × Addr)) (fp : List Addr), PE (X.blk s H scope (compEnvC scope cl C X.env) fp) elt tv) (hs : ∀ x, foldedSetIterable iter X.env x = pure x := by intro _; rfl) :
    PS X (.Assign [.Name y py] (.DictComp kx elt [⟨tg, iter, ifs, 0⟩] scope pos) spos) (tAsg (tDc wi g tt tk tv (own.map (·.2))) (gName i)) := by
  refine ⟨fun pins s σ H D I h => ?_⟩
  rw [exec_Assign_Name_used _ _ _ _ hsw]
  refine wpAny_bind (wpAny_standAt (wpAny_bind ?_))
  show wpAny _ X.A (do let _ ← comprehension (.DictComp kx elt [⟨tg, iter, ifs, 0⟩] scope pos) scope X.env (firstIterPos [⟨tg, iter, ifs, 0⟩] pos) newDict false (eval iter X.env) (some (assign (.Name y py) X.env))) _ _ s
  have h : tDc wi g tt tk tv (own.map (·.2)) σ H (fun x H1 => gName i x σ H1 D.nx) := h
  refine wpAny_bind (thn (dc_core (Qf := fun _ s' => SP X pins D .next s') hc hN I hi ok hg ht hk he hs h fun L C s' m H' I' q hn f => ?_) fun _ s' hq => wpAny_pure (wpAny_pure hq))
  show wpAny _ _ (assign (.Name y py) X.env (.ref L)) _ _ _
  refine wpAny_assign_Name (store_ok2 (v := V.ref L) I' hN hy (.inl hyl) rfl (fun s2 I2 ⟨a, sb, ha⟩ => ?_) (.inr hyl))
  obtain ⟨f0, f1, f2, f3, f4, f5⟩ := f
  have haC : C ≠ a := by
    rcases ha with z | z
    · rw [z]; exact f1
    · exact fun e => f4 y a z e.symm
  refine ⟨m, hn.sameBut sb haC, fun h3 sb3 => ?_⟩
  exact ⟨_, H', I2.turned (t' := s2.toks) (fun b o hb e => (sb3.2 b hb).trans e) f0 f1 f3 f4 f5, q⟩
theorem sim_setdc (own : List (Str × Nat)) {i : Nat} {y : Str} {py spos : Pos} (hc : X.calm = true) (hN : X.N.Nodup) (hy : X.N[i]? = some y) (hyl : X.env.scope.names.lookup y = some .local)
    (hw : swapsWith (.DictComp kx elt [⟨tg, iter, ifs, 0⟩] scope pos) (some (.Name y py)) spos.line X.env = pure true) (hi : SimI X W tg iter it) (ok : BlkOk X.N X.env.scope scope own)
    (hg : ∀ (s : Shared) (H : Hp) (C : Addr) (cl : List (Str × Addr)) (fp : List Addr), SimG (X.blk s H scope (compEnvC scope cl C X.env) fp) tg g is)
    (ht : ∀ (s : Shared) (H : Hp) (C : Addr) (cl : List (Str × Addr)) (fp : List Addr), SimTs (X.blk s H scope (compEnvC scope cl C X.env) fp) ifs cond)
    (hk : ∀ (s : Shared) (H : Hp) (C : Addr) (cl : List (Str × Addr)) (fp : List Addr), SimE (X.blk s H scope (compEnvC scope cl C X.env) fp) noW kx fk)
    (he : ∀ (s : Shared) (H : Hp) (C : Addr) (cl : List (Str × Addr)) (fp : List Addr), SimE (X.blk s H scope (compEnvC scope cl C X.env) fp) noW elt f)
    (his : ∀ i ∈ is, i ∈ own.map (·.2)) (hs : ∀ x, foldedSetIterable iter X.env x = pure x := by intro _; rfl) : SimS X W (.Assign [.Name y py] (.DictComp kx elt [⟨tg, iter, ifs, 0⟩] scope pos) spos) (sSet i (eDComp it g (own.map (·.2)) cond fk f)) := by
  obtain ⟨w, pi, hi⟩ := hi
  refine ⟨_, ps_setDc (g := starG X.K g is) (tt := starTs X.K X.mg cond) (tk := starE X.K X.mg noW fk) (tv := starE X.K X.mg noW f) hc hN hy hyl hw pi ok (fun s H C cl fp => (hg s H C cl fp).star) (fun s H C cl fp => (ht s H C cl fp).star) (fun s H C cl fp => (hk s H C cl fp).star) (fun s H C cl fp => (he s H C cl fp).star) hs, fun F A H σ ρ D E h => ?_⟩
  exact dc_run (K := X.K) (mg := X.mg) hi (fun F A H σ ρ v d ρ' Q E R eg q => ⟨F, A, d, ρ, ρ', E, R, eg, q⟩) his (fun F A H σ ρ E Q q => ⟨F, A, ρ, E, q⟩) (fun F A H σ ρ E Q q => ⟨F, A, ρ, E, q⟩) (fun F A H σ ρ E Q q => ⟨F, A, ρ, E, q⟩) F A H σ ρ E _
    (PstS.split E h fun r ρ1 A1 H1 v E1 S1 R1 h2 => putR_run (S1.kpr E) E1 R1 h2)
end
end DP
/-! DPL: what all the laws have: the script, the pool; several names set at once; the end. -/
namespace DP
open PySem L2
section
variable {X : Cx} {W : WX} {e : Expr} {fe : M Rv} {es : List Expr} {fs : M (List Rv)} {pos p : Pos}
/-! the script -/
def eLenScr (i : Nat) : M Rv := fun ρ =>
  match ρ[i]? with
  | some (some (.scr ns)) => .ok (.val (.int ns.length)) ρ
  | _ => .no
theorem Scr.sq {K : PySem.W.Frag} {H : Hp} {a : Addr} {xs : List V} (h : Scr K H a xs) : SqL K H a xs := h H fun _ _ e => e
theorem sim_lenscr {n : Expr} {i : Nat} (hv : PE X n (tVar i)) (hgl : Gl X "len") (hm : X.mg "len" = none) (hb : bootBuiltins "len" = some (.builtin "len")) (hs : starEach [n] X.env = (false, eval n X.env) :: starEach [] X.env := by rfl) (hpl : (backTo pos (starEach [] X.env)).any (·.1) = false := by rfl) : SimE X W (.Call (.Name "len" p) [n] [] pos) (eLenScr i) := by
  refine ⟨_, pe_callB call_len hgl hm hb (pa_cons hv pa_nil hs) (by decide) (by decide) hs hpl, fun F A H σ ρ E Q h => ?_⟩
  unfold eLenScr at h
  split at h
  · rename_i ns e1
    obtain ⟨v, e2, a, rfl, sc⟩ := E.slot i _ e1
    refine ⟨.ref a, e2, .ref a, _, rfl, .inl ⟨_, sc.sq, rfl⟩, ?_⟩
    rw [List.length_map]
    exact h A H _ E Step.refl (.int _)
  · exact h.elim
def eSlScr (i : Nat) (hi : Int) : M Rv := fun ρ =>
  match ρ[i]? with
  | some (some (.scr ns)) => .ok (.fresh (.list (cutD (ns.map .int) none (some hi)))) ρ
  | _ => .no
theorem sim_slscr {n : Expr} {i : Nat} {k : Int} {j : Nat} {p1 p2 : Pos} (hv : PE X n (tVar i)) : SimE X W (.Subscript n (.Slice none (some (.Constant (.int k) j p1)) none p2) pos) (eSlScr i k) := by
  refine ⟨_, pe_slice sl_list hv po_none (po_some pe_int), fun F A H σ ρ E Q h => ?_⟩
  unfold eSlScr at h
  split at h
  · rename_i ns e1
    obtain ⟨v, e2, a, rfl, sc⟩ := E.slot i _ e1
    refine ⟨.ref a, e2, k, rfl, a, _, rfl, sc.sq, fun p hp => ?_⟩
    have r := (rp_ints (A := A) (H := H) ns).cut none (some k)
    obtain ⟨E', S', R'⟩ := (nr_lst hp r).rv (Z := H) (fun _ h => h) E
    exact h A _ _ E' S' R'
  · exact h.elim
def eIxScr (i : Nat) (f : M Rv) : M Rv := bnd f fun r => bnd (rdM r) fun d ρ =>
  match ρ[i]?, d with
  | some (some (.scr ns)), .int k => match atI ns k with
    | some x => .ok (.val (.int x)) ρ
    | none => .no
  | _, _ => .no
def isScr (ρ : Dn) (i : Nat) : Bool :=
  match ρ[i]? with
  | some (some (.scr _)) => true
  | _ => false
def eIxScr' (i : Nat) (f : M Rv) : M Rv := fun ρ => if isScr ρ i = true then eIxScr i f ρ else .no
theorem atI_map {α β : Type} (f : α → β) {xs : List α} {k : Int} {x : α} (h : atI xs k = some x) : atI (xs.map f) k = some (f x) := by
  unfold atI at h ⊢
  rw [List.length_map]
  cases e : ixN xs.length k with
  | none => rw [e] at h; cases h
  | some j =>
    rw [e] at h
    simp only [Option.bind_some] at h ⊢
    rw [List.getElem?_map, h]
    rfl
theorem sim_ixscr {n ix : Expr} {i : Nat} {f : M Rv} (hv : PE X n (tVar i)) (hi : SimE X W ix f) (hs : PlainIx ix) : SimE X W (.Subscript n ix pos) (eIxScr' i f) := by
  obtain ⟨t, pi, hi⟩ := hi
  refine ⟨_, pe_ix ix_list hv pi hs, fun F A H σ ρ E Q h => ?_⟩
  unfold eIxScr' at h
  by_cases hsc : isScr ρ i = true
  case neg => rw [if_neg hsc] at h; exact h.elim
  rw [if_pos hsc] at h
  obtain ⟨ns0, e0⟩ : ∃ ns, ρ[i]? = some (some (.scr ns)) := by
    unfold isScr at hsc
    split at hsc
    · exact ⟨_, by assumption⟩
    · cases hsc
  obtain ⟨v, e2, a, rfl, sc⟩ := E.slot i _ e0
  refine ⟨.ref a, e2, ?_⟩
  refine hi F A H σ ρ E _ (Pst.split (m := f) h fun r ρ1 A1 H1 w E1 S1 R1 h1 => ?_)
  obtain ⟨d, e3, h2⟩ := h1.rd
  have hz := RvR.rt E1 R1 e3
  split at h2
  · rename_i ns k e4
    obtain ⟨v', e5, a', rfl, sc'⟩ := E1.slot i _ e4
    rw [e2] at e5
    cases e5
    cases ea : atI ns k with
    | none => rw [ea] at h2; exact h2.elim
    | some x =>
      rw [ea] at h2
      exact ⟨a, _, k, .int x, rfl, hz.int, sc'.sq, atI_map V.int ea, h2 A1 H1 _ E1 S1 (.int x)⟩
  · exact h2.elim
/-! a, b = x, y -/
def setAll : List Nat → List PD → Dn → Option Dn
  | [], [], ρ => some ρ
  | i :: is, d :: ds, ρ => if freeSl ρ i = true then setAll is ds (ρ.set i (some (.imm d))) else none
  | _, _, _ => none
def sPar (is : List Nat) (fs : M (List Rv)) : SM := bndS fs fun rs => bndS (frzs rs) fun ds ρ =>
  match setAll is ds ρ with
  | some ρ' => .nx ρ'
  | none => .no
theorem setAll_two {K : PySem.W.Frag} {F : Ent} {A : AS} {H : Hp} {σ : L2.St} {ρ ρ' : Dn} {i j : Nat} {v w : V} {c d : PD} (E : ER K F A H σ ρ) (r : Rp A H v c) (q : Rp A H w d) (h : setAll [i, j] [c, d] ρ = some ρ') : ER K F A H ((σ.set i (some v)).set j (some w)) ρ' := by
  simp only [setAll] at h
  split at h
  · rename_i h1
    split at h
    · rename_i h2
      cases h
      exact (E.setImm h1 r).setImm h2 q
    · cases h
  · cases h
theorem sim_par {i j : Nat} {x y : Str} {a b : Expr} {px py pt : Pos} {kt k2 pt2} (hc : X.calm = true) (hN : X.N.Nodup) (hi : X.N[i]? = some x) (hj : X.N[j]? = some y) (hij : i ≠ j)
    (hx : X.env.scope.names.lookup x = some .local) (hy : X.env.scope.names.lookup y = some .local) (ha : SimA X W [a, b] fs)
    (hw : swappedStores [.Tuple [.Name x px, .Name y py] kt pt] (.Tuple [a, b] k2 pt2) X.env = pure (some [x, y])) (hs : swapsWithSole [.Tuple [.Name x px, .Name y py] kt pt] (.Tuple [a, b] k2 pt2) pos.line X.env = pure false := by rfl) :
    SimS X W (.Assign [.Tuple [.Name x px, .Name y py] kt pt] (.Tuple [a, b] k2 pt2) pos) (sPar [i, j] fs) := by
  obtain ⟨t, pa, ha⟩ := ha
  refine ⟨_, ps_par hc hN hi hj hij hx hy pa hw hs, fun F A H σ ρ D E h => ?_⟩
  refine ha F A H σ ρ E _ (PstS.split E h fun rs ρ1 A1 H1 vs E1 S1 R1 h1 => ?_)
  unfold bndS at h1
  rcases frzs_ok (rs := rs) (ρ := ρ1) with e | ⟨ds, ρ2, e⟩
  · rw [e] at h1; exact h1.elim
  · rw [e] at h1
    dsimp only at h1
    obtain ⟨A2, E2, S2, R2, _⟩ := frzs_run E1 S1 R1.q e
    match ds, R2, h1 with
    | [c, d], .cons r (.cons q .nil), h1 =>
      cases es : setAll [i, j] [c, d] ρ2 with
      | none => rw [es] at h1; exact h1.elim
      | some ρ3 =>
        rw [es] at h1
        exact ⟨_, _, rfl, h1 A2 H1 _ (setAll_two E2 r q es) (S2.kpr E)⟩
    | [], _, h1 => exact h1.elim
    | [c], _, h1 =>
      have hn : setAll [i, j] [c] ρ2 = none := by simp only [setAll]; split <;> rfl
      rw [hn] at h1
      exact h1.elim
    | c :: d :: g :: ds, _, h1 =>
      have hn : setAll [i, j] (c :: d :: g :: ds) ρ2 = none := by simp only [setAll]; split <;> (try split) <;> rfl
      rw [hn] at h1
      exact h1.elim
/-! x += e, ints -/
def gAug (i : Nat) (g : PD → PD → Option Rc) (f : M Rv) : SM := fun ρ =>
  match eVar i ρ with
  | .ok x _ => bndS f (fun r => bndS (rdM x) fun d1 => bndS (rdM r) fun d2 => bndS (fin (g d1 d2)) (putR i)) ρ
  | _ => .no
end
/-! calls of defs that stand -/
structure Cal (P : Program) (w : World) (K : PySem.W.Frag) (mg : Str → Option Value) (base : Heap) (k : Nat) (x : Str) (ps : List Str) (ms : List Bool) (m : List PD → FR) : Prop where
  ex : ∃ (f : Addr) (fd : FuncData), FnOk P w K mg base CX0 k f fd ps (spD mg ms m) ∧ mg x = some (.ref f) ∧ PySem.W.keepIn K (.ref f) = true ∧ Binds K fd ps []
section
variable {X : Cx} {W : WX} {k : Nat} {ps : List Str} {x : Str} {p pos : Pos} {e : Expr} {es : List Expr} {fs : M (List Rv)} {ms : List Bool} {m : List PD → FR}
theorem sim_callC (C : Cal X.prog X.w X.K X.mg X.base k x ps ms m) (hr : Room k X.A) (hg : Gl X x) (ha : SimA X W (e :: es) fs)
    (hdb : (x == ("__debug__" : Str)) = false := by decide) (he : starEach (e :: es) X.env = (false, eval e X.env) :: starEach es X.env := by rfl) (hpl : (backTo pos (starEach es X.env)).any (·.1) = false := by rfl) : SimE X W (.Call (.Name x p) (e :: es) [] pos) (eCall ms m fs) := by
  obtain ⟨f, fd, F, h1, h2, h3⟩ := C.ex
  exact sim_call F hr hg h1 h2 h3 (fun σ => pass0S σ _) ha hdb he hpl
end
theorem u65 {A : Around} {k : Nat} (hr : Room k A) : A.units + 65 < cLine := by have := hr.un; omega
theorem gs_len0 : ∀ ds ρ ρ', gsNil ds ρ = some ρ' → ds.length = 0 := fun ds ρ ρ' h => by
  cases ds with
  | nil => rfl
  | cons _ _ => cases h
theorem gs_lenc {g : PD → Dn → Option Dn} {gs : List PD → Dn → Option Dn} {n : Nat} (h : ∀ ds ρ ρ', gs ds ρ = some ρ' → ds.length = n) : ∀ ds ρ ρ', gsCons g gs ds ρ = some ρ' → ds.length = n + 1 := fun ds ρ ρ' e => by
  cases ds with
  | nil => cases e
  | cons d ds =>
    simp only [gsCons] at e
    cases e1 : g d ρ with
    | none => rw [e1] at e; cases e
    | some ρ1 => rw [e1] at e; simp [h ds ρ1 ρ' e]
/-! the pool -/
def poolOf (ns : List Int) (k : Int) : Int × Int :=
  let cell := if k < (ns.length : Int) then (atI ns k).getD 0 else 11 * (ns.take 63).sum + k
  let great := if cell < 0 then -cell else cell
  let mixed := (great % 2147483629 + 7919 * k * k + 31 * k + 17) * 48271 % 2147483647
  (great * (if (10 : Int) ^ 18 ≤ great then 1 else 0), mixed * mixed % 2147483629)
def poolD (ns : List Int) (k : Int) : PD := .list [.int (poolOf ns k).1, .int (poolOf ns k).2]
def spPool (K : PySem.W.Frag) : Sp := fun vs H Q _ => ∃ (a : Addr) (ns : List Int) (k : Int), vs = [.ref a, .int k] ∧ Scr K H a (ns.map V.int) ∧ ns.length ≤ 63 ∧ 0 ≤ k ∧ k < 64 ∧
  ∀ p H', (∀ b o, H b = some o → H' b = some o) → H p = none → H' p = some (.lst [.int (poolOf ns k).1, .int (poolOf ns k).2]) → Q (.ref p) H'
def spLaw (K : PySem.W.Frag) : Sp := fun vs H Q _ => ∃ (a : Addr) (ns : List Int), vs = [.ref a] ∧ Scr K H a (ns.map V.int) ∧ ns.length ≤ 63 ∧ ∀ H', Q (.bl true) H'
/-- the start of a def that is handed the script -/
theorem ER.scr {K : PySem.W.Frag} {H : Hp} {a : Addr} {ns : List Int} {vs : List V} {ds : List PD} {N : List Str} (hs : Scr K H a (ns.map V.int)) (h : RpAll (fun _ => False) H vs ds) (hn : (.ref a :: vs : List V).length ≤ N.length) :
    ER K ⟨fun _ => False, H, []⟩ (fun _ => False) H (L2.start N (.ref a :: vs)) (some (.scr ns) :: (ds.map (fun d => some (.imm d)) ++ List.replicate (N.length - (ds.length + 1)) none)) := by
  have hl := h.length
  have key : ∀ {j : Nat} {s : Sl}, (some (.scr ns) :: (ds.map (fun d => some (Sl.imm d)) ++ List.replicate (N.length - (ds.length + 1)) none))[j]? = some (some s) → (j = 0 ∧ s = .scr ns) ∨ ∃ i d v, j = i + 1 ∧ s = .imm d ∧ vs[i]? = some v ∧ Rp (fun _ => False) H v d := fun {j s} e => by
    cases j with
    | zero => simp at e; exact .inl ⟨rfl, e.symm⟩
    | succ i =>
      right
      simp only [List.getElem?_cons_succ] at e
      by_cases hi : i < ds.length
      · rw [List.getElem?_append_left (by simpa using hi), List.getElem?_map] at e
        cases ed : ds[i]? with
        | none => rw [ed] at e; cases e
        | some d =>
          rw [ed] at e
          cases e
          obtain ⟨v, e1, r⟩ := h.get ed
          exact ⟨i, d, v, rfl, rfl, e1, r⟩
      · rw [List.getElem?_append_right (by simpa using hi)] at e
        exact absurd e rep_none
  have noOwn : ∀ {j : Nat} {b : Bool} {d : PD}, (some (.scr ns) :: (ds.map (fun d => some (Sl.imm d)) ++ List.replicate (N.length - (ds.length + 1)) none))[j]? ≠ some (some (.own b d)) := fun {j b d} e => by
    rcases key e with ⟨_, z⟩ | ⟨_, _, _, _, z, _⟩ <;> cases z
  refine ⟨by unfold L2.start; simp at hn ⊢; omega, fun j s e => ?_, fun i j b b' d d' p e1 _ _ _ => absurd e1 noOwn, fun _ h => h.elim, fun _ _ e _ => e, fun _ h => h, fun _ h => h.elim, fun j b d p e1 _ => absurd e1 noOwn, fun p hp => ?_, fun q hq => by cases hq⟩
  · rcases key e with ⟨rfl, rfl⟩ | ⟨i, d, v, rfl, rfl, e1, r⟩
    · exact ⟨.ref a, by unfold L2.start; simp, a, rfl, hs⟩
    · refine ⟨v, ?_, r⟩
      unfold L2.start
      have hi : i < vs.length := (List.getElem?_eq_some_iff.mp e1).1
      rw [List.getElem?_append_left (by simp; omega), List.getElem?_map]
      simp [e1]
  · exact fun h => h
section
variable {P : Program} {w : World} {K : PySem.W.Frag} {mg : Str → Option Value} {base : Heap} {x qual : Str} {st : Stmt} {f : Addr} {fd : FuncData} {N ps : List Str} {k : Nat} {b : SM}
theorem law_fn {y : Str} (F : Fun K x qual st f fd) (S : FnScope N [y] (defScope st)) (hN : 1 ≤ N.length)
    (hb : ∀ (cdv : Value) (A : Around) (outer : List PySem.Env) (s : Shared) (H : Hp) (E : XK), Room k (A.deeper (PyProof.Rows.envOfC qual (defScope st) s.heap.objs.size f cdv)) → SimB (cxOf CX0 P w K mg base N qual (defScope st) f cdv A outer s H E).nox noW (defBody st) b)
    (hl : ∀ ns : List Int, ns.length ≤ 63 → ∃ ρ', b (some (.scr ns) :: List.replicate (N.length - 1) none) = .rt (.val (.bool true)) ρ') : FnOk P w K mg base CX0 (k + 1) f fd [y] (spLaw K) := by
  refine F.ok S (fun vs H Q E ⟨a, ns, h, _⟩ => by rw [h]; rfl) fun cdv A outer s H vs Q E hr ⟨a, ns, hv, hs, hn, q⟩ => ?_
  subst hv
  obtain ⟨t, p, h⟩ := hb cdv A outer s H E hr
  obtain ⟨ρ', e⟩ := hl ns hn
  refine ⟨t, p, h ⟨fun _ => False, H, []⟩ (fun _ => False) H _ _ _ (ER.scr (N := N) (vs := []) (ds := []) hs .nil (by simpa using hN)) ?_⟩
  have e' : (some (Sl.scr ns) :: (List.map (fun d => some (Sl.imm d)) ([] : List PD) ++ List.replicate (N.length - (([] : List PD).length + 1)) none)) = (some (.scr ns) :: List.replicate (N.length - 1) none) := by simp
  rw [e', e]
  intro A' H' σ' v _ _ R
  cases R
  exact q H'
theorem pool_fn {y z : Str} (F : Fun K x qual st f fd) (S : FnScope N [y, z] (defScope st)) (hN : 2 ≤ N.length)
    (hb : ∀ (cdv : Value) (A : Around) (outer : List PySem.Env) (s : Shared) (H : Hp) (E : XK), Room k (A.deeper (PyProof.Rows.envOfC qual (defScope st) s.heap.objs.size f cdv)) → SimB (cxOf CX0 P w K mg base N qual (defScope st) f cdv A outer s H E).nox noW (defBody st) b)
    (hl : ∀ (ns : List Int) (k : Int), ns.length ≤ 63 → 0 ≤ k → k < 64 → ∃ ρ', b (some (.scr ns) :: some (.imm (.int k)) :: List.replicate (N.length - 2) none) = .rt (.fresh (poolD ns k)) ρ') : FnOk P w K mg base CX0 (k + 1) f fd [y, z] (spPool K) := by
  refine F.ok S (fun vs H Q E ⟨a, ns, i, h, _⟩ => by rw [h]; rfl) fun cdv A outer s H vs Q E hr ⟨a, ns, i, hv, hs, hn, h0, h1, q⟩ => ?_
  subst hv
  obtain ⟨t, p, h⟩ := hb cdv A outer s H E hr
  obtain ⟨ρ', e⟩ := hl ns i hn h0 h1
  refine ⟨t, p, h ⟨fun _ => False, H, []⟩ (fun _ => False) H _ _ _ (ER.scr (N := N) (vs := [.int i]) (ds := [.int i]) hs (.cons (.int i) .nil) (by simpa using hN)) ?_⟩
  have e' : (some (Sl.scr ns) :: (List.map (fun d => some (Sl.imm d)) ([.int i] : List PD) ++ List.replicate (N.length - (([.int i] : List PD).length + 1)) none)) = (some (.scr ns) :: some (.imm (.int i)) :: List.replicate (N.length - 2) none) := by simp
  rw [e', e]
  intro A' H' σ' v E' _ R
  obtain ⟨pp, rfl, ⟨_, _, _, hz⟩, xs, hx, rx⟩ := R
  cases rx with
  | cons r1 rx =>
    cases rx with
    | cons r2 rx =>
      cases rx
      cases r1
      cases r2
      exact q pp H' (fun b o e => E'.kp b o e fun ⟨q, hq, _⟩ => by cases hq) hz hx
end
section
variable {X : Cx} {W : WX} {k : Nat} {ps : List Str} {x : Str} {p pos : Pos} {n e : Expr} {fe : M Rv}
def ePool (i : Nat) (f : M Rv) : M Rv := fun ρ => if isScr ρ i = true then (bnd f fun r => bnd (rdM r) fun d ρ =>
  match ρ[i]?, d with
  | some (some (.scr ns)), .int k => if ns.length ≤ 63 ∧ 0 ≤ k ∧ k < 64 then .ok (.fresh (poolD ns k)) ρ else .no
  | _, _ => .no) ρ else .no
theorem sim_pool {i : Nat} {f : Addr} {fd : FuncData} (F : FnOk X.prog X.w X.K X.mg X.base CX0 k f fd ps (spPool X.K)) (hr : Room k X.A) (hg : Gl X x) (hm : X.mg x = some (.ref f)) (hk : PySem.W.keepIn X.K (.ref f) = true) (hb : Binds X.K fd ps []) (hv : PE X n (tVar i)) (he' : SimE X W e fe)
    (hdb : (x == ("__debug__" : Str)) = false := by decide) (he : starEach (n :: [e]) X.env = (false, eval n X.env) :: starEach [e] X.env := by rfl) (he2 : starEach (e :: []) X.env = (false, eval e X.env) :: starEach [] X.env := by rfl) (hpl : (backTo pos (starEach [e] X.env)).any (·.1) = false := by rfl) : SimE X W (.Call (.Name x p) (n :: [e]) [] pos) (ePool i fe) := by
  obtain ⟨t, pe, h0⟩ := he'
  refine ⟨_, pe_call F hr hg hm hk hb .nil pass0 (pa_cons hv (pa_cons pe pa_nil he2) he) hdb he hpl, fun F A H σ ρ E Q h => ?_⟩
  unfold ePool at h
  by_cases hsc : isScr ρ i = true
  case neg => rw [if_neg hsc] at h; exact h.elim
  rw [if_pos hsc] at h
  obtain ⟨ns0, e0⟩ : ∃ ns, ρ[i]? = some (some (.scr ns)) := by
    unfold isScr at hsc
    split at hsc
    · exact ⟨_, by assumption⟩
    · cases hsc
  obtain ⟨v, e2, a, rfl, sc⟩ := E.slot i _ e0
  refine ⟨.ref a, e2, ?_⟩
  refine h0 F A H σ ρ E _ (Pst.split (m := fe) h fun r ρ1 A1 H1 w E1 S1 R1 h1 => ?_)
  obtain ⟨d, e3, h2⟩ := h1.rd
  have hz := RvR.rt E1 R1 e3
  split at h2
  · rename_i ns k e4
    obtain ⟨v', e5, a', rfl, sc'⟩ := E1.slot i _ e4
    rw [e2] at e5
    cases e5
    split at h2
    · rename_i hc
      refine ⟨a, ns, k, by rw [hz.int]; rfl, sc', hc.1, hc.2.1, hc.2.2, fun p H' kp hp hl => ?_⟩
      have nr : NewR A1 H1 H' (.ref p) (.fresh (poolD ns k)) := ⟨kp, p, rfl, hp, _, hl, .cons (.int _) (.cons (.int _) .nil)⟩
      obtain ⟨E', S', R'⟩ := nr.rv S1.live E1
      exact h2 A1 H' _ E' (S1.trans S') R'
    · exact h2.elim
  · exact h2.elim
end
end DP
/-! DPF: defs as the head tells them (FunD). -/
namespace DP
open PySem L2
section
variable {P : Program} {w : World} {K : PySem.W.Frag} {mg : Str → Option Value} {base : Heap} {x qual : Str} {st : Stmt} {f : Addr} {fd : FuncData} {N ps : List Str} {k : Nat} {b : SM} {dvs : List V} {kws : List (Str × V)}
abbrev FnP (K : PySem.W.Frag) (x : Str) (st : Stmt) (dvs : List V) (f : Addr) (fd : FuncData) : Prop := FunD K x x (defArgs st) (defBody st) (defScope st) dvs [] f fd
theorem fn_simD {ms : List Bool} (F : FunD K x qual (defArgs st) (defBody st) (defScope st) dvs kws f fd) (S : FnScope N ps (defScope st)) (hm : ms.length = ps.length)
    (hb : ∀ (cdv : Value) (A : Around) (outer : List PySem.Env) (s : Shared) (H : Hp) (E : XK), Room k (A.deeper (PyProof.Rows.envOfC qual (defScope st) s.heap.objs.size f cdv)) → SimB (cxOf CX0 P w K mg base N qual (defScope st) f cdv A outer s H E).nox noW (defBody st) b) :
    FnOk P w K mg base CX0 (k + 1) f fd ps (spD mg ms fun ds => (runF N.length ms b ds).calm) := by
  refine F.ok S (fun vs H Q E ⟨A, ds, qs, _, h, _⟩ => by rw [h.length, hm]) fun cdv A outer s H vs Q E hr ⟨Z, ds, qs, hd, ha, hq⟩ => ?_
  obtain ⟨t, p, h⟩ := hb cdv A outer s H E hr
  exact ⟨t, PSs.nox p, h _ Z H _ _ _ (ER.begins hd ha) (run_end (E := fun _ _ _ => False) ha (by
    dsimp only at hq
    cases er : runF N.length ms b ds with
    | ok c o => rw [er] at hq; exact hq
    | ex e o => rw [er] at hq; exact hq.elim
    | no => rw [er] at hq; exact hq) fun _ _ _ _ z => z)⟩
theorem law_fnD {y : Str} (F : FunD K x qual (defArgs st) (defBody st) (defScope st) dvs kws f fd) (S : FnScope N [y] (defScope st)) (hN : 1 ≤ N.length)
    (hb : ∀ (cdv : Value) (A : Around) (outer : List PySem.Env) (s : Shared) (H : Hp) (E : XK), Room k (A.deeper (PyProof.Rows.envOfC qual (defScope st) s.heap.objs.size f cdv)) → SimB (cxOf CX0 P w K mg base N qual (defScope st) f cdv A outer s H E).nox noW (defBody st) b)
    (hl : ∀ ns : List Int, ns.length ≤ 63 → ∃ ρ', b (some (.scr ns) :: List.replicate (N.length - 1) none) = .rt (.val (.bool true)) ρ') : FnOk P w K mg base CX0 (k + 1) f fd [y] (spLaw K) := by
  refine F.ok S (fun vs H Q E ⟨a, ns, h, _⟩ => by rw [h]; rfl) fun cdv A outer s H vs Q E hr ⟨a, ns, hv, hs, hn, q⟩ => ?_
  subst hv
  obtain ⟨t, p, h⟩ := hb cdv A outer s H E hr
  obtain ⟨ρ', e⟩ := hl ns hn
  refine ⟨t, PSs.nox p, h ⟨fun _ => False, H, []⟩ (fun _ => False) H _ _ _ (ER.scr (N := N) (vs := []) (ds := []) hs .nil (by simpa using hN)) ?_⟩
  have e' : (some (Sl.scr ns) :: (List.map (fun d => some (Sl.imm d)) ([] : List PD) ++ List.replicate (N.length - (([] : List PD).length + 1)) none)) = (some (.scr ns) :: List.replicate (N.length - 1) none) := by simp
  rw [e', e]
  intro A' H' σ' v _ _ R
  cases R
  exact q H'
theorem pool_fnD {y z : Str} (F : FunD K x qual (defArgs st) (defBody st) (defScope st) dvs kws f fd) (S : FnScope N [y, z] (defScope st)) (hN : 2 ≤ N.length)
    (hb : ∀ (cdv : Value) (A : Around) (outer : List PySem.Env) (s : Shared) (H : Hp) (E : XK), Room k (A.deeper (PyProof.Rows.envOfC qual (defScope st) s.heap.objs.size f cdv)) → SimB (cxOf CX0 P w K mg base N qual (defScope st) f cdv A outer s H E).nox noW (defBody st) b)
    (hl : ∀ (ns : List Int) (k : Int), ns.length ≤ 63 → 0 ≤ k → k < 64 → ∃ ρ', b (some (.scr ns) :: some (.imm (.int k)) :: List.replicate (N.length - 2) none) = .rt (.fresh (poolD ns k)) ρ') : FnOk P w K mg base CX0 (k + 1) f fd [y, z] (spPool K) := by
  refine F.ok S (fun vs H Q E ⟨a, ns, i, h, _⟩ => by rw [h]; rfl) fun cdv A outer s H vs Q E hr ⟨a, ns, i, hv, hs, hn, h0, h1, q⟩ => ?_
  subst hv
  obtain ⟨t, p, h⟩ := hb cdv A outer s H E hr
  obtain ⟨ρ', e⟩ := hl ns i hn h0 h1
  refine ⟨t, PSs.nox p, h ⟨fun _ => False, H, []⟩ (fun _ => False) H _ _ _ (ER.scr (N := N) (vs := [.int i]) (ds := [.int i]) hs (.cons (.int i) .nil) (by simpa using hN)) ?_⟩
  have e' : (some (Sl.scr ns) :: (List.map (fun d => some (Sl.imm d)) ([.int i] : List PD) ++ List.replicate (N.length - (([.int i] : List PD).length + 1)) none)) = (some (.scr ns) :: some (.imm (.int i)) :: List.replicate (N.length - 2) none) := by simp
  rw [e', e]
  intro A' H' σ' v E' _ R
  obtain ⟨pp, rfl, ⟨_, _, _, hz⟩, xs, hx, rx⟩ := R
  cases rx with
  | cons r1 rx =>
    cases rx with
    | cons r2 rx =>
      cases rx
      cases r1
      cases r2
      exact q pp H' (fun b o e => E'.kp b o e fun ⟨q, hq, _⟩ => by cases hq) hz hx
theorem binds_allD {bd : List Stmt} {sc : Scope} {ar : Arguments} (F : FunD K x qual ar bd sc dvs kws f fd) (n : Nat) (hd : dvs ≠ []) (hn : n = ps.length)
    (h : ∀ (T : Addr) (kV doc pm : Value) (an : Option Addr) (cdv ct : Value) (us its : List Value), us.length = n → its.length = dvs.length →
      ∃ k, bindArgs (PySem.W.fnOf x qual ar bd sc (.ref T) kV doc pm an cdv ct) ⟨us, []⟩ = seqItems? (.ref T) >>= k ∧ k (some its.toArray) = pure (ps.zip us)) : Binds K fd ps [] := by
  obtain ⟨ds, r, b⟩ := FunD.binds1 (ps := ps) F n dvs.length hd (by omega) fun T kV doc pm an cdv ct us its l1 l2 => by
    obtain ⟨k, e1, e2⟩ := h T kV doc pm an cdv ct us its l1 l2
    refine ⟨k, e1, ?_⟩
    rw [e2]
    have : its.drop dvs.length = [] := by simp [← l2]
    rw [this, List.append_nil]
  rw [List.drop_length] at r
  cases r
  exact b
theorem Scr.of {H : Hp} {a : Addr} {xs : List V} (hO : Only H) (hS : SqL K H a xs) : Scr K H a xs := fun H' h => by
  rcases hS with hr | hr
  · rcases hO a with e | ⟨o, ys, e⟩
    · rcases hr with q | ⟨o, q⟩ <;> rw [e] at q <;> cases q
    · rcases hr with q | ⟨o', q⟩
      · rw [e] at q; cases q
      · exact .inl (.inr ⟨o', h o' _ q⟩)
  · exact .inr hr
end
/-- an argument that is read and kept: its slot becomes data that stays -/
def eFz (f : M Rv) : M Rv := bnd f fun r => bnd (frz r) fun d => retM (.val d)
theorem sim_fz {X : Cx} {W : WX} {e : Expr} {fe : M Rv} (h : SimE X W e fe) : SimE X W e (eFz fe) := by
  obtain ⟨t, p, h⟩ := h
  refine ⟨t, p, fun F A H σ ρ E Q hp => h F A H σ ρ E Q (hp.split fun r ρ1 A1 H1 v E1 S1 R1 h1 => ?_)⟩
  obtain ⟨d, A2, ρ2, E2, S2, R2, h2⟩ := h1.frz E1 S1 R1
  exact h2 A2 H1 v E2 S2 R2
end DP
/-! DPG: defs that are called where nothing is being shown (no repr under way): the same calls, with that known. -/
namespace DP
open PySem PySem.Spec PyProof.Rows L2
def Quiet (A : Around) : Prop := A.guards = some []
theorem Quiet.deeper {A : Around} (h : Quiet A) (env : PySem.Env) : Quiet (A.deeper env) := h
/-- a def's promise, called where nothing is being shown -/
structure GFn (P : Program) (w : World) (K : PySem.W.Frag) (mg : Str → Option Value) (base : Heap) (CX : CXT) (k : Nat) (f : Addr) (fd : FuncData) (ps : List Str) (sp : Sp) : Prop where
  len : ∀ vals H Q E, sp vals H Q E → vals.length = ps.length
  run : ∀ (A : Around) (outer : List PySem.Env) (st : Shared) (H : Hp) (ag : Args) (us : List Value) (vals : List V) (Q : VK) (E : XK), Quiet A → Room k A → Env0 P w K mg base A outer st H → BindsTo st fd ag (ps.zip us) → Vals vals us → sp vals H Q E →
    codeAny (model P w) A (.call (.ref f) ag) (CR CX outer P w H st Q E) st
section
variable {X : Cx} {CX : CXT} {k : Nat} {f : Addr} {fd : FuncData} {ps : List Str} {sp : Sp} {E : L2.St → XK} {x : Str} {p pos : Pos} {e : Expr} {es : List Expr} {t : TA}
theorem pe_callG (F : GFn X.prog X.w X.K X.mg X.base CX k f fd ps sp) (hq : Quiet X.A) (hr : Room k X.A) (hg : Gl X x) (hm : X.mg x = some (.ref f)) (hk : PySem.W.keepIn X.K (.ref f) = true) (hb : Binds X.K fd ps []) (hx : ∀ σ, PassesAt CX X σ (E σ))
    (ha : PA X (e :: es) t) (hdb : (x == ("__debug__" : Str)) = false := by decide) (he : starEach (e :: es) X.env = (false, eval e X.env) :: starEach es X.env := by rfl) (hpl : (backTo pos (starEach es X.env)).any (·.1) = false := by rfl) : PE X (.Call (.Name x p) (e :: es) [] pos) (tCallS sp E t) := by
  constructor
  intro pins st σ H Q I h
  refine wpAny_Call_Name_kw (ld_glob I hg hm ?_ hdb)
  refine PySem.W.callWith_K (h₀ := X.base) I.ok.mod.kin hk (thn (ha.run pos pins st σ H _ I h) fun us st1 ⟨vals, H1, J, r, q⟩ => ⟨J.kIn, ?_⟩) he hpl
  have n1 : us.length = ps.length := r.length.symm.trans (F.len _ _ _ _ q)
  have b1 := hb st1 us J.kIn (by simpa using n1)
  rw [List.append_nil] at b1
  refine wpAny_call (codeAny_mono (F.run X.A X.stack st1 H1 ⟨us, []⟩ us vals Q (E σ) hq hr J.env0 b1 r q) fun res st2 z => ?_)
  match res, z with
  | .error ex, z => exact hx σ pins H1 st1 ex st2 J z
  | .ok (.ret u), z => exact J.after z
  | .ok .next, z => exact z.elim
  | .ok .brk, z => exact z.elim
  | .ok .cont, z => exact z.elim
end
section
variable {P : Program} {w : World} {K : PySem.W.Frag} {mg : Str → Option Value} {base : Heap} {x qual : Str} {f : Addr} {fd : FuncData} {N ps : List Str} {k : Nat} {dvs : List V} {kws : List (Str × V)} {params : Arguments} {body : List Stmt} {scope : Scope}
theorem gfn_of {CX : CXT} {sp : Sp} (F : FunD K x qual params body scope dvs kws f fd) (S : FnScope N ps scope) (len : ∀ vals H Q E, sp vals H Q E → vals.length = ps.length)
    (hbody : ∀ (cdv : Value) (A : Around) (outer : List PySem.Env) (st : Shared) (H : Hp) (vals : List V) (Q : VK) (E : XK), Quiet A → Room k (A.deeper (envOfC qual scope st.heap.objs.size f cdv)) → sp vals H Q E →
      ∃ t, PSs (cxOf CX P w K mg base N qual scope f cdv A outer st H E) body t ∧ t { nx := fun _ H' => Q .non H', rt := Q } (L2.start N vals) H) : GFn P w K mg base CX (k + 1) f fd ps sp := by
  obtain ⟨oc, od, dV, kV, doc, pm, an, cdv, ct, osl, rfl, lk, hcd, _, _⟩ := F.ex
  refine ⟨len, fun A outer st H ag us vals Q E hquiet hr e0 hb r hsp => ?_⟩
  have nl := len _ _ _ _ hsp
  have KX : K.In st.heap := e0.mod.kin.keeps fun b o z => (e0.bs b o z).1
  have lim : st.heap.NoLimit := e0.mod.nolimit.keeps fun b o z => (e0.bs b o z).1
  have kinds : ∀ y ∈ ps.zip us, scope.names.lookup y.1 = some .local ∨ (scope.names.lookup y.1 = some .cell ∧ ((cellsFrom (st.heap.objs.size + 1) scope.names []).lookup y.1).isSome = true) := by
    rintro ⟨nm, v⟩ hy
    exact (S.par nm (List.of_mem_zip hy).1).imp id fun q => ⟨q, PySem.W.cellsFrom_some _ _ _ (.inl q)⟩
  refine codeAny_call_function hr.depth (KX _ _ lk) rfl S.co S.gen rfl (PySem.W.codeRec_of KX hcd) (hb _ _ _ _ (wpAny_newFunctionEnv_cells S.kind kinds fun env he st1 inc => ?_))
  subst he
  refine ⟨lim.keeps inc.toInCall.keep, codeAny_func ?_⟩
  obtain ⟨t, ht, hq⟩ := hbody cdv A outer st H vals Q E hquiet (hr.deeper _) hsp
  have I0 : Inv (cxOf CX P w K mg base N qual scope f cdv A outer st H E) [] (L2.start N vals) H st1 := inv_start S hr.hd e0 nl r inc
  refine wpAny_mono (ht.run [] st1 (L2.start N vals) H _ I0 hq) (fun fl st2 z => ?_) fun _ _ z => z
  match fl, z with
  | .ret u, ⟨v, σ', H', J, rv, q⟩ => exact ⟨v, H', J.os, J.bare, J.base, J.hok, rv, q⟩
  | .next, ⟨σ', H', J, q⟩ => exact ⟨V.non, H', J.os, J.bare, J.base, J.hok, rfl, q⟩
  | .brk, ⟨_, _, _, q⟩ => exact q.elim
  | .cont, ⟨_, _, _, q⟩ => exact q.elim
end
/-! the law's end -/
section
variable {P : Program} {w : World} {K : PySem.W.Frag} {mg mb : Str → Option Value} {CX : CXT} {k : Nat} {fa a : Addr} {fd : FuncData} {x : Str} {sp : Sp} {t1 : Shared} {vs : List Value} {ns : List Int}
theorem law_atG (KX : K.In t1.heap) (hns : t1.heap.Ns mainGlobals mg) (hb : t1.heap.Ns builtinsNs mb) (hbb : ∀ y : Str, y ≠ "__name__" → mb y = bootBuiltins y) (hlim : t1.heap.NoLimit) (hg : t1.gens = #[])
    (ha : t1.heap.get? a = some { cls := .type "list", data := .seq vs.toArray }) (hr : Room k callerA)
    (F : ∀ base : Heap, K.In base → base.Ns mainGlobals mg → GFn P w K mg base CX k fa fd [x] sp) (hbind : ∀ (st : Shared) (u : Value), BindsTo st fd ⟨[u], []⟩ [(x, u)])
    (hCX : ∀ H e st, CX [] H t1 (fun _ _ _ => False) e st → False) (H : Hp) (hO : Only H) (hsp : sp [.ref a] H (fun v _ => v = .bl true) fun _ _ _ => False) (hok : HOk P w H t1.heap) (hA : ∀ b, H b ≠ none → b = a) (hK : H a ≠ none → K.lookup a = none) :
    codeAny (model P w) callerA (.call (.ref fa) ⟨[.ref a], []⟩) (fun r st => r = .ok (.ret (.bool true)) ∧ OldK t1.heap st.heap ∧ st.os = t1.os ∧ AllBare st.gens) t1 := by
  have atA : ∀ {b : Addr} {ho : HO}, H b = some ho → b = a := fun {b ho} z => hA b (by rw [z]; exact Option.some_ne_none _)
  have hid : ∀ {b : Addr} {o : Obj}, t1.heap.get? b = some o → H b = none → (hidT t1.heap H).get? b = some o := fun z n => hidT_get z n
  have dictFree : ∀ {b : Addr} {o : Obj} {es : Array DictEntry} {ep : Nat}, t1.heap.get? b = some o → o.data = .dict es ep → H b = none := by
    intro b o es ep z d
    cases q : H b with
    | none => rfl
    | some ho =>
      obtain rfl := atA q
      rw [ha] at z
      cases z
      have d' : Data.seq vs.toArray _ = Data.dict es ep := d
      cases d'
  have nsOf : ∀ {b : Addr} {m : Str → Option Value}, t1.heap.Ns b m → (hidT t1.heap H).Ns b m := fun ⟨o, es, ep, z, d, r⟩ => ⟨o, es, ep, hid z (dictFree z d), d, r⟩
  have KB : K.In (hidT t1.heap H) := by
    intro b o z
    refine hid (KX b o z) ?_
    cases q : H b with
    | none => rfl
    | some ho =>
      obtain rfl := atA q
      rw [hK (by rw [q]; exact Option.some_ne_none _)] at z
      cases z
  have lim' : (hidT t1.heap H).NoLimit := by
    obtain ⟨mc, h1, h2⟩ := hlim
    exact ⟨mc, nsOf h1, h2⟩
  have env0 : Env0 P w K mg (hidT t1.heap H) callerA [] t1 H := ⟨rfl, ⟨KB, nsOf hns, ⟨mb, nsOf hb, hbb⟩, lim'⟩, fun b o z => of_hidT z, Nat.le_of_eq (hidT_size _ _), trivial, fun b z => absurd (show b ∈ ([] : List Addr) from z) List.not_mem_nil, hok, .of_eq hg⟩
  refine codeAny_mono ((F _ KB (nsOf hns)).run callerA [] t1 H ⟨[.ref a], []⟩ [.ref a] [.ref a] _ _ rfl hr env0 (hbind t1 (.ref a)) (.cons rfl .nil) hsp) fun r st z => ?_
  match r, z with
  | .error e, z => exact (hCX H e st z).elim
  | .ok .next, z => exact z.elim
  | .ok .brk, z => exact z.elim
  | .ok .cont, z => exact z.elim
  | .ok (.ret u), ⟨v, H', os, bare, un, hok', r', q⟩ =>
    have q' : v = .bl true := q
    subst q'
    obtain rfl : u = Value.bool true := r'
    refine ⟨rfl, OldK.of_keep fun b o z => ?_, os, bare⟩
    rcases hO b with n | ⟨ob, xs, n⟩
    · exact un.keep b o z n (fun m => absurd (show b ∈ ([] : List Addr) from m) List.not_mem_nil) (by simp)
    · obtain ⟨e1, _⟩ := hok b _ n
      obtain ⟨e2, _⟩ := hok' b _ (un.frzs b ob _ n)
      rw [z] at e1
      cases e1
      exact e2
theorem law_callG (KX : K.In t1.heap) (hns : t1.heap.Ns mainGlobals mg) (hb : t1.heap.Ns builtinsNs mb) (hbb : ∀ y : Str, y ≠ "__name__" → mb y = bootBuiltins y) (hlim : t1.heap.NoLimit) (hg : t1.gens = #[])
    (ha : t1.heap.get? a = some { cls := .type "list", data := .seq vs.toArray }) (hi : IntsAre vs ns) (hl : ns.length ≤ sizeLine) (hr : Room k callerA)
    (F : ∀ base : Heap, K.In base → base.Ns mainGlobals mg → GFn P w K mg base CX k fa fd [x] sp) (hbind : ∀ (st : Shared) (u : Value), BindsTo st fd ⟨[u], []⟩ [(x, u)])
    (hsp : ∀ H : Hp, Only H → SqL K H a (ns.map V.int) → sp [.ref a] H (fun v _ => v = .bl true) fun _ _ _ => False) (hCX : ∀ H e st, CX [] H t1 (fun _ _ _ => False) e st → False) :
    codeAny (model P w) callerA (.call (.ref fa) ⟨[.ref a], []⟩) (fun r st => r = .ok (.ret (.bool true)) ∧ OldK t1.heap st.heap ∧ st.os = t1.os ∧ AllBare st.gens) t1 := by
  have rv := vals_ints hi
  have lenV := hi.length
  have go := law_atG KX hns hb hbb hlim hg ha hr F hbind hCX
  cases hk : K.lookup a with
  | some o =>
    have z := KX a o hk
    rw [ha] at z
    cases z
    have O : Only (fun _ => none) := fun _ => .inl rfl
    exact go (fun _ => none) O (hsp _ O (.inr ⟨_, vs.toArray, _, hk, rfl, rfl, rfl, by rw [List.size_toArray, lenV]; exact hl, by simpa using rv⟩)) (fun b u n => by cases n) (fun b n => absurd rfl n) fun n => absurd rfl n
  | none =>
    let G : Hp := fun b => if b = a then some (.frz { cls := .type "list", data := .seq vs.toArray } (.lst (ns.map V.int))) else none
    have gA : G a = some (.frz { cls := .type "list", data := .seq vs.toArray } (.lst (ns.map V.int))) := if_pos rfl
    have gN : ∀ {b : Addr}, b ≠ a → G b = none := fun n => if_neg n
    have O : Only G := fun b => by
      by_cases n : b = a
      · subst n; exact .inr ⟨_, _, gA⟩
      · exact .inl (gN n)
    refine go G O (hsp _ O (.inl (.inr ⟨_, gA⟩))) (fun b u n => ?_) (fun b n => ?_) fun _ => hk
    · by_cases m : b = a
      · subst m
        rw [gA] at n
        cases n
        exact ⟨ha, by rw [List.length_map]; exact hl, vs, _, rv, ha⟩
      · rw [gN m] at n; cases n
    · exact Classical.byContradiction fun m => n (gN m)
end
theorem walk_ofG {l : PySem.W.OpenLaw} {n k : Nat} {q : Program} {loose : List Str} {XP : (Str → Option Value) → Heap → Prop} {YP : World → Heap → Prop} {d : DefRec} {x : Str}
    (hn : l.most = some n) (hn2 : n ≤ sizeLine) (hdf : d.params.defaults = []) (hr : Room k callerA)
    (F : ∀ (w : World) (mg : Str → Option Value) (fa : Addr) (h : Heap), YP w h → h.Ns mainGlobals mg → mg d.name = some (.ref fa) →
      ∃ (K : PySem.W.Frag) (fd : FuncData) (sp : Sp), K.In h ∧ (∀ (st : Shared) (u : Value), BindsTo st fd ⟨[u], []⟩ [(x, u)]) ∧
        (∀ (H : Hp) (a : Addr) (ns : List Int), ns.length ≤ n → Only H → SqL K H a (ns.map V.int) → sp [.ref a] H (fun v _ => v = .bl true) fun _ _ _ => False) ∧ ∀ base : Heap, K.In base → base.Ns mainGlobals mg → GFn l.prog w K mg base CX0 k fa fd [x] sp) : PySem.W.WalkO q loose XP YP l.row.toRowW d [] (fun f vs => PySem.call f vs) := by
  refine Att.attach_call hn hdf fun w t0 t1 mg mb fa o pm cd doc a vs ns G Y ho hd hcd hmg hobj hints hlen hg => ?_
  obtain ⟨K, fd, sp, KX, hb, hsp, hF⟩ := F w mg fa _ Y G.T.g hmg
  exact law_callG KX G.T.g G.T.b G.T.builtins G.T.nolimit hg hobj hints (Nat.le_trans hlen hn2) hr hF hb (fun H hO hS => hsp H a ns hlen hO hS) fun H e st z => z
end DP
/-! DPH: defs, calls, the pool, the law over GFn; repr; isinstance. -/
namespace DP
open PySem L2
section
variable {P : Program} {w : World} {K : PySem.W.Frag} {mg : Str → Option Value} {base : Heap} {x qual : Str} {st : Stmt} {f : Addr} {fd : FuncData} {N ps : List Str} {k : Nat} {b : SM} {dvs : List V} {kws : List (Str × V)}
theorem fn_simG {ms : List Bool} (F : FunD K x qual (defArgs st) (defBody st) (defScope st) dvs kws f fd) (S : FnScope N ps (defScope st)) (hm : ms.length = ps.length)
    (hb : ∀ (cdv : Value) (A : Around) (outer : List PySem.Env) (s : Shared) (H : Hp) (E : XK), Quiet (A.deeper (PyProof.Rows.envOfC qual (defScope st) s.heap.objs.size f cdv)) → Room k (A.deeper (PyProof.Rows.envOfC qual (defScope st) s.heap.objs.size f cdv)) → SimB (cxOf CX0 P w K mg base N qual (defScope st) f cdv A outer s H E).nox noW (defBody st) b) :
    GFn P w K mg base CX0 (k + 1) f fd ps (spD mg ms fun ds => (runF N.length ms b ds).calm) := by
  refine gfn_of F S (fun vs H Q E ⟨A, ds, qs, _, h, _⟩ => by rw [h.length, hm]) fun cdv A outer s H vs Q E hz hr ⟨Z, ds, qs, hd, ha, hq⟩ => ?_
  obtain ⟨t, p, h⟩ := hb cdv A outer s H E hz hr
  exact ⟨t, PSs.nox p, h _ Z H _ _ _ (ER.begins hd ha) (run_end (E := fun _ _ _ => False) ha (by
    dsimp only at hq
    cases er : runF N.length ms b ds with
    | ok c o => rw [er] at hq; exact hq
    | ex e o => rw [er] at hq; exact hq.elim
    | no => rw [er] at hq; exact hq) fun _ _ _ _ z => z)⟩
theorem law_fnG {y : Str} (F : FunD K x qual (defArgs st) (defBody st) (defScope st) dvs kws f fd) (S : FnScope N [y] (defScope st)) (hN : 1 ≤ N.length)
    (hb : ∀ (cdv : Value) (A : Around) (outer : List PySem.Env) (s : Shared) (H : Hp) (E : XK), Quiet (A.deeper (PyProof.Rows.envOfC qual (defScope st) s.heap.objs.size f cdv)) → Room k (A.deeper (PyProof.Rows.envOfC qual (defScope st) s.heap.objs.size f cdv)) → SimB (cxOf CX0 P w K mg base N qual (defScope st) f cdv A outer s H E).nox noW (defBody st) b)
    (hl : ∀ ns : List Int, ns.length ≤ 63 → ∃ ρ', b (some (.scr ns) :: List.replicate (N.length - 1) none) = .rt (.val (.bool true)) ρ') : GFn P w K mg base CX0 (k + 1) f fd [y] (spLaw K) := by
  refine gfn_of F S (fun vs H Q E ⟨a, ns, h, _⟩ => by rw [h]; rfl) fun cdv A outer s H vs Q E hz hr ⟨a, ns, hv, hs, hn, q⟩ => ?_
  subst hv
  obtain ⟨t, p, h⟩ := hb cdv A outer s H E hz hr
  obtain ⟨ρ', e⟩ := hl ns hn
  refine ⟨t, PSs.nox p, h ⟨fun _ => False, H, []⟩ (fun _ => False) H _ _ _ (ER.scr (N := N) (vs := []) (ds := []) hs .nil (by simpa using hN)) ?_⟩
  have e' : (some (Sl.scr ns) :: (List.map (fun d => some (Sl.imm d)) ([] : List PD) ++ List.replicate (N.length - (([] : List PD).length + 1)) none)) = (some (.scr ns) :: List.replicate (N.length - 1) none) := by simp
  rw [e', e]
  intro A' H' σ' v _ _ R
  cases R
  exact q H'
theorem pool_fnG {y z : Str} (F : FunD K x qual (defArgs st) (defBody st) (defScope st) dvs kws f fd) (S : FnScope N [y, z] (defScope st)) (hN : 2 ≤ N.length)
    (hb : ∀ (cdv : Value) (A : Around) (outer : List PySem.Env) (s : Shared) (H : Hp) (E : XK), Quiet (A.deeper (PyProof.Rows.envOfC qual (defScope st) s.heap.objs.size f cdv)) → Room k (A.deeper (PyProof.Rows.envOfC qual (defScope st) s.heap.objs.size f cdv)) → SimB (cxOf CX0 P w K mg base N qual (defScope st) f cdv A outer s H E).nox noW (defBody st) b)
    (hl : ∀ (ns : List Int) (k : Int), ns.length ≤ 63 → 0 ≤ k → k < 64 → ∃ ρ', b (some (.scr ns) :: some (.imm (.int k)) :: List.replicate (N.length - 2) none) = .rt (.fresh (poolD ns k)) ρ') : GFn P w K mg base CX0 (k + 1) f fd [y, z] (spPool K) := by
  refine gfn_of F S (fun vs H Q E ⟨a, ns, i, h, _⟩ => by rw [h]; rfl) fun cdv A outer s H vs Q E hz hr ⟨a, ns, i, hv, hs, hn, h0, h1, q⟩ => ?_
  subst hv
  obtain ⟨t, p, h⟩ := hb cdv A outer s H E hz hr
  obtain ⟨ρ', e⟩ := hl ns i hn h0 h1
  refine ⟨t, PSs.nox p, h ⟨fun _ => False, H, []⟩ (fun _ => False) H _ _ _ (ER.scr (N := N) (vs := [.int i]) (ds := [.int i]) hs (.cons (.int i) .nil) (by simpa using hN)) ?_⟩
  have e' : (some (Sl.scr ns) :: (List.map (fun d => some (Sl.imm d)) ([.int i] : List PD) ++ List.replicate (N.length - (([.int i] : List PD).length + 1)) none)) = (some (.scr ns) :: some (.imm (.int i)) :: List.replicate (N.length - 2) none) := by simp
  rw [e', e]
  intro A' H' σ' v E' _ R
  obtain ⟨pp, rfl, ⟨_, _, _, hn'⟩, xs, hx, rx⟩ := R
  cases rx with
  | cons r1 rx =>
    cases rx with
    | cons r2 rx =>
      cases rx
      cases r1
      cases r2
      exact q pp H' (fun b o e => E'.kp b o e fun ⟨q, hq, _⟩ => by cases hq) hn' hx
end
structure CalG (P : Program) (w : World) (K : PySem.W.Frag) (mg : Str → Option Value) (base : Heap) (k : Nat) (x : Str) (ps : List Str) (ms : List Bool) (m : List PD → FR) : Prop where
  ex : ∃ (f : Addr) (fd : FuncData), GFn P w K mg base CX0 k f fd ps (spD mg ms m) ∧ mg x = some (.ref f) ∧ PySem.W.keepIn K (.ref f) = true ∧ Binds K fd ps []
section
variable {X : Cx} {W : WX} {k : Nat} {ps : List Str} {x : Str} {p pos : Pos} {e : Expr} {es : List Expr} {fs : M (List Rv)} {ms : List Bool} {m : List PD → FR}
theorem sim_callG (C : CalG X.prog X.w X.K X.mg X.base k x ps ms m) (hq : Quiet X.A) (hr : Room k X.A) (hg : Gl X x) (ha : SimA X W (e :: es) fs)
    (hdb : (x == ("__debug__" : Str)) = false := by decide) (he : starEach (e :: es) X.env = (false, eval e X.env) :: starEach es X.env := by rfl) (hpl : (backTo pos (starEach es X.env)).any (·.1) = false := by rfl) : SimE X W (.Call (.Name x p) (e :: es) [] pos) (eCall ms m fs) := by
  obtain ⟨f, fd, F, h1, h2, h3⟩ := C.ex
  obtain ⟨t, pa, ha⟩ := ha
  exact ⟨_, pe_callG (E := fun σ cls d H => W cls d σ H) F hq hr hg h1 h2 h3 (fun σ => pass0S σ _) pa hdb he hpl, call_run ha⟩
theorem sim_poolG {n : Expr} {fe : M Rv} {i : Nat} {f : Addr} {fd : FuncData} (F : GFn X.prog X.w X.K X.mg X.base CX0 k f fd ps (spPool X.K)) (hq : Quiet X.A) (hr : Room k X.A) (hg : Gl X x) (hm : X.mg x = some (.ref f)) (hk : PySem.W.keepIn X.K (.ref f) = true) (hb : Binds X.K fd ps []) (hv : PE X n (tVar i)) (he' : SimE X W e fe)
    (hdb : (x == ("__debug__" : Str)) = false := by decide) (he : starEach (n :: [e]) X.env = (false, eval n X.env) :: starEach [e] X.env := by rfl) (he2 : starEach (e :: []) X.env = (false, eval e X.env) :: starEach [] X.env := by rfl) (hpl : (backTo pos (starEach [e] X.env)).any (·.1) = false := by rfl) : SimE X W (.Call (.Name x p) (n :: [e]) [] pos) (ePool i fe) := by
  obtain ⟨t, pe, h0⟩ := he'
  refine ⟨_, pe_callG (E := fun _ _ _ _ => False) F hq hr hg hm hk hb (fun σ => pass0S σ _) (pa_cons hv (pa_cons pe pa_nil he2) he) hdb he hpl, fun F A H σ ρ E Q h => ?_⟩
  unfold ePool at h
  by_cases hsc : isScr ρ i = true
  case neg => rw [if_neg hsc] at h; exact h.elim
  rw [if_pos hsc] at h
  obtain ⟨ns0, e0⟩ : ∃ ns, ρ[i]? = some (some (.scr ns)) := by
    unfold isScr at hsc
    split at hsc
    · exact ⟨_, by assumption⟩
    · cases hsc
  obtain ⟨v, e2, a, rfl, sc⟩ := E.slot i _ e0
  refine ⟨.ref a, e2, ?_⟩
  refine h0 F A H σ ρ E _ (Pst.split (m := fe) h fun r ρ1 A1 H1 w E1 S1 R1 h1 => ?_)
  obtain ⟨d, e3, h2⟩ := h1.rd
  have hz := RvR.rt E1 R1 e3
  split at h2
  · rename_i ns k e4
    obtain ⟨v', e5, a', rfl, sc'⟩ := E1.slot i _ e4
    rw [e2] at e5
    cases e5
    split at h2
    · rename_i hc
      refine ⟨a, ns, k, by rw [hz.int], sc', hc.1, hc.2.1, hc.2.2, fun p H' kp hp hl => ?_⟩
      have nr : NewR A1 H1 H' (.ref p) (.fresh (poolD ns k)) := ⟨kp, p, rfl, hp, _, hl, .cons (.int _) (.cons (.int _) .nil)⟩
      obtain ⟨E', S', R'⟩ := nr.rv S1.live E1
      exact h2 A1 H' _ E' (S1.trans S') R'
    · exact h2.elim
  · exact h2.elim
/-! repr -/
def rReprD (K : PySem.W.Frag) : List V → Hp → VK → Prop := fun xs H Q => ∃ (a : Addr) (d : PyData), xs = [.ref a] ∧ Dp K H (.ref a) d ∧ d.showable = true ∧ d.hasDict = false ∧ d.depth ≤ 60 ∧ d.shown.length ≤ sizeLine ∧ Q (.str d.shown) H
theorem cr_repr (hq : Quiet X.A) (hu : X.A.units + 65 < cLine) : CallR X (.builtin "repr") (rReprD X.K) := by
  intro pins s σ H xs us Q I r h
  obtain ⟨a, d, rfl, hd, hs, hdi, hdp, hz, q⟩ := h
  obtain ⟨u, rfl, rfl⟩ := vals1 r
  obtain ⟨as, rr⟩ := Dp.reads I d (.ref a) (.ref a) hd rfl
  exact repr_of_reads' rr hs (fun z => by rw [hdi] at z; cases z) hq (by omega) (fun _ _ z => z) (fun h' t tk hk => ⟨.str d.shown, H, I.kept hk, ⟨_, rfl⟩, q⟩) hz
end
def isLT : PD → Bool
  | .list _ => true
  | .tuple _ => true
  | _ => false
def reprOk (d : PD) : Bool := d.showable && !d.hasDict && decide (d.depth ≤ 60) && smallL d.shown.length && d.canLay0 && isLT d
def gRepr : List PD → Option Rc
  | [d] => if reprOk d = true then some (.val (.str d.shown)) else none
  | _ => none
theorem on_repr (K : PySem.W.Frag) : OpN (rReprD K) gRepr := ⟨fun A H xs ds c Q _ hx e q => by
  unfold gRepr at e
  split at e
  · rename_i d
    split at e
    · rename_i ho
      cases e
      obtain ⟨v, rfl, r⟩ := hx.one
      unfold reprOk at ho
      simp only [Bool.and_eq_true, decide_eq_true_eq, Bool.not_eq_true'] at ho
      obtain ⟨⟨⟨⟨⟨h1, h2⟩, h3⟩, h4⟩, h5⟩, h6⟩ := ho
      have hd := r.dp (K := K) h5
      have ha : ∃ a, v = .ref a := by
        cases d with
        | list l => cases hd; exact ⟨_, rfl⟩
        | tuple l => cases hd; exact ⟨_, rfl⟩
        | _ => cases h6
      obtain ⟨a, rfl⟩ := ha
      exact ⟨a, d, rfl, hd, h1, h2, h3, smallL_le h4, q _ _ (nr_val (.str _))⟩
    · cases e
  · cases e⟩
/-! isinstance -/
def tyName : PD → String
  | .none => "NoneType"
  | .bool _ => "bool"
  | .int _ => "int"
  | .str _ => "str"
  | .list _ => "list"
  | .tuple _ => "tuple"
  | .dict _ => "dict"
theorem Rt.ty {K : PySem.W.Frag} {A : AS} {H H' : Hp} {v : V} {d : PD} (kp : ∀ b o, H b = some o → H' b = some o) (h : Rt A H v d) : TyX K H' v (.type (tyName d)) := by
  rcases h with h | ⟨p, rfl, o⟩
  · cases h with
    | non => exact .base .non
    | bl b => exact .base (.bl b)
    | int i => exact .base (.int i)
    | str x => exact .base (.str x)
    | lst ha hr r => exact .base (.lst (kp _ _ hr))
    | tup hr r => exact .base (.tup (kp _ _ hr))
    | dic ha hr r => exact .base (.dK (kp _ _ hr))
  · cases d <;> simp only [OwnObj] at o
    · obtain ⟨xs, e, _⟩ := o; exact .base (.lst (kp _ _ e))
    · obtain ⟨xs, e, _⟩ := o; exact .base (.dK (kp _ _ e))
def isiD (T : String) (d : PD) : Option Bool := kitB (tyName d) T
def eIsi (T : String) (f : M Rv) : M Rv := bnd f fun r => bnd (rdM r) fun d => fin ((isiD T d).map fun b => .val (.bool b))
def isiD2 (T U : String) (d : PD) : Option Bool := match isiD T d with
  | some true => some true
  | some false => isiD U d
  | none => none
def eIsi2 (T U : String) (f : M Rv) : M Rv := bnd f fun r => bnd (rdM r) fun d => fin ((isiD2 T U d).map fun b => .val (.bool b))
section
variable {X : Cx} {W : WX} {e : Expr} {fe : M Rv} {x y : Str} {T U : String} {p p2 p3 p4 pos : Pos} {kt : Nat}
theorem sim_isi (hgl : Gl X "isinstance") (hm : X.mg "isinstance" = none) (hv : bootBuiltins "isinstance" = some (.builtin "isinstance")) (hgl2 : Gl X x) (hm2 : X.mg x = none) (hv2 : bootBuiltins x = some (.type T)) (h : SimE X W e fe)
    (hn : x ≠ "__name__" := by decide) (hd : (x == ("__debug__" : Str)) = false := by decide) (he : starEach (e :: [.Name x p2]) X.env = (false, eval e X.env) :: starEach [.Name x p2] X.env := by rfl) (he2 : starEach (.Name x p2 :: []) X.env = (false, eval (.Name x p2) X.env) :: starEach [] X.env := by rfl) (hpl : (backTo pos (starEach [.Name x p2] X.env)).any (·.1) = false := by rfl) :
    SimE X W (.Call (.Name "isinstance" p) [e, .Name x p2] [] pos) (eIsi T fe) := by
  obtain ⟨t, pe, h0⟩ := h
  refine ⟨_, pe_callB call_isi hgl hm hv (pa_cons pe (pa_cons (pe_bltn (v := .ty T) hgl2 hm2 hv2 rfl hn hd) pa_nil he2) he) (by decide) (by decide) he hpl, fun F A H σ ρ E Q h => ?_⟩
  refine h0 F A H σ ρ E _ (Pst.split (m := fe) h fun r ρ1 A1 H1 v E1 S1 R1 h1 => ?_)
  obtain ⟨d, e3, h2⟩ := h1.rd
  obtain ⟨c, e4, h3⟩ := h2.fin S1 E1
  cases hk : isiD T d with
  | none => rw [hk] at e4; cases e4
  | some b =>
    rw [hk] at e4
    cases e4
    exact ⟨v, .ty T, .type (tyName d), .type T, b, rfl, .ty T, (RvR.rt E1 R1 e3).ty (fun _ _ z => z), kit_ty hk, h3 _ _ (nr_val (.bl b))⟩
theorem sim_isi2 (hgl : Gl X "isinstance") (hm : X.mg "isinstance" = none) (hv : bootBuiltins "isinstance" = some (.builtin "isinstance")) (hgl2 : Gl X x) (hm2 : X.mg x = none) (hv2 : bootBuiltins x = some (.type T)) (hgl3 : Gl X y) (hm3 : X.mg y = none) (hv3 : bootBuiltins y = some (.type U)) (h : SimE X W e fe)
    (hn : x ≠ "__name__" := by decide) (hd : (x == ("__debug__" : Str)) = false := by decide) (hn3 : y ≠ "__name__" := by decide) (hd3 : (y == ("__debug__" : Str)) = false := by decide)
    (he : starEach (e :: [.Tuple [.Name x p2, .Name y p3] kt p4]) X.env = (false, eval e X.env) :: starEach [.Tuple [.Name x p2, .Name y p3] kt p4] X.env := by rfl) (he2 : starEach (.Tuple [.Name x p2, .Name y p3] kt p4 :: []) X.env = (false, eval (.Tuple [.Name x p2, .Name y p3] kt p4) X.env) :: starEach [] X.env := by rfl)
    (hpl : (backTo pos (starEach [.Tuple [.Name x p2, .Name y p3] kt p4] X.env)).any (·.1) = false := by rfl)
    (hi : starEach (.Name x p2 :: [.Name y p3]) X.env = (false, eval (.Name x p2) X.env) :: starEach [.Name y p3] X.env := by rfl) (hi2 : starEach (.Name y p3 :: []) X.env = (false, eval (.Name y p3) X.env) :: starEach [] X.env := by rfl) :
    SimE X W (.Call (.Name "isinstance" p) [e, .Tuple [.Name x p2, .Name y p3] kt p4] [] pos) (eIsi2 T U fe) := by
  obtain ⟨t, pe, h0⟩ := h
  refine ⟨_, pe_callB call_isiT hgl hm hv (pa_cons pe (pa_cons (pe_tup (pa_cons (pe_bltn (v := .ty T) hgl2 hm2 hv2 rfl hn hd) (pa_cons (pe_bltn (v := .ty U) hgl3 hm3 hv3 rfl hn3 hd3) pa_nil hi2) hi)) pa_nil he2) he) (by decide) (by decide) he hpl, fun F A H σ ρ E Q h => ?_⟩
  refine h0 F A H σ ρ E _ (Pst.split (m := fe) h fun r ρ1 A1 H1 v E1 S1 R1 h1 => ?_)
  obtain ⟨d, e3, h2⟩ := h1.rd
  obtain ⟨c, e4, h3⟩ := h2.fin S1 E1
  cases hk : isiD2 T U d with
  | none => rw [hk] at e4; cases e4
  | some b =>
    rw [hk] at e4
    cases e4
    refine ⟨(by show 2 ≤ sizeLine; decide), fun q hq => ?_⟩
    have kp : ∀ b o, H1 b = some o → (upd H1 q (.tup [V.ty T, V.ty U])) b = some o := fun b o z => by
      rw [upd_ne (ne_of_none z hq)]
      exact z
    refine ⟨v, q, [.ty T, .ty U], .type (tyName d), [.type T, .type U], b, rfl, upd_same, .cons (.ty T) (.cons (.ty U) .nil), (RvR.rt E1 R1 e3).ty kp, ?_, h3 _ _ ⟨kp, .bl b⟩⟩
    unfold isiD2 at hk
    split at hk
    · rename_i h1
      cases hk
      exact kitAny_cons (kit_ty h1) (fun z => by cases z) fun _ => rfl
    · rename_i h1
      exact kitAny_cons (kit_ty h1) (fun _ => by
        cases b with
        | true => exact kitAny_cons (kit_ty hk) (fun z => by cases z) fun _ => rfl
        | false => exact kitAny_cons (kit_ty hk) (fun _ => kitAny_nil) fun z => by cases z) fun z => by cases z
    · cases hk
end
end DP
/-! DPI: calls by the parameters' names; zip; a list or tuple turned; repr of single values. -/
namespace DP
open PySem L2
def pick {α : Type} (pi : List Nat) (l : List α) : List α := pi.filterMap fun i => l[i]?
theorem vals_at : ∀ {vs : List V} {us : List Value} (i : Nat), Vals vs us → (vs[i]? = none ∧ us[i]? = none) ∨ ∃ v u, vs[i]? = some v ∧ us[i]? = some u ∧ RelV v u
  | _, _, _, .nil => .inl ⟨rfl, rfl⟩
  | _, _, 0, .cons r _ => .inr ⟨_, _, rfl, rfl, r⟩
  | _, _, i + 1, .cons _ h => by simpa using vals_at i h
theorem Vals.pick {vs : List V} {us : List Value} (h : Vals vs us) : ∀ pi : List Nat, Vals (DP.pick pi vs) (DP.pick pi us)
  | [] => .nil
  | i :: pi => by
    unfold DP.pick
    rw [List.filterMap_cons, List.filterMap_cons]
    rcases vals_at i h with ⟨e1, e2⟩ | ⟨v, u, e1, e2, r⟩
    · rw [e1, e2]; exact Vals.pick h pi
    · rw [e1, e2]; exact .cons r (Vals.pick h pi)
section
variable {F : Ent} {Z : Hp} {A : AS} {H : Hp} {σ : L2.St} {ρ : Dn}
theorem rvrs_at : ∀ {vs : List V} {us : List Rv} (i : Nat), RvRs F Z A H σ ρ vs us → (vs[i]? = none ∧ us[i]? = none) ∨ ∃ v u, vs[i]? = some v ∧ us[i]? = some u ∧ RvR F Z A H σ ρ v u
  | _, _, _, .nil => .inl ⟨rfl, rfl⟩
  | _, _, 0, .cons r _ => .inr ⟨_, _, rfl, rfl, r⟩
  | _, _, i + 1, .cons _ h => by simpa using rvrs_at i h
theorem RvRs.pick {vs : List V} {us : List Rv} (h : RvRs F Z A H σ ρ vs us) : ∀ pi : List Nat, RvRs F Z A H σ ρ (DP.pick pi vs) (DP.pick pi us)
  | [] => .nil
  | i :: pi => by
    unfold DP.pick
    rw [List.filterMap_cons, List.filterMap_cons]
    rcases rvrs_at i h with ⟨e1, e2⟩ | ⟨v, u, e1, e2, r⟩
    · rw [e1, e2]; exact RvRs.pick h pi
    · rw [e1, e2]; exact .cons r (RvRs.pick h pi)
end
/-- how a call by names alone binds -/
def KwB (K : PySem.W.Frag) (fd : FuncData) (ps ks : List Str) (pi : List Nat) : Prop := ∀ (st : Shared) (us : List Value), K.In st.heap → us.length = ks.length → BindsTo st fd ⟨[], ks.zip us⟩ (ps.zip (pick pi us))
section
variable {X : Cx} {W : WX} {CX : CXT} {k : Nat} {f : Addr} {fd : FuncData} {ps ks : List Str} {pi : List Nat} {sp : Sp} {E : L2.St → XK} {x : Str} {p pos : Pos} {kws : List Keyword} {tk : TA}
theorem pe_callK (F : GFn X.prog X.w X.K X.mg X.base CX k f fd ps sp) (hq : Quiet X.A) (hr : Room k X.A) (hg : Gl X x) (hm : X.mg x = some (.ref f)) (hk : PySem.W.keepIn X.K (.ref f) = true) (hb : KwB X.K fd ps ks pi) (hx : ∀ σ, PassesAt CX X σ (E σ))
    (hkw : PK X kws tk) (hn : kws.length = ks.length) (hall : (backToKw pos (keywordEach kws X.env)).all (·.1.isSome) = true := by rfl) (hks : (backToKw pos (keywordEach kws X.env)).filterMap (·.1) = ks := by rfl)
    (hdb : (x == ("__debug__" : Str)) = false := by decide) (hpl : ((backTo pos (starEach [] X.env)).any (·.1) || (backToKw pos (keywordEach kws X.env)).any (·.1.isNone)) = false := by rfl) :
    PE X (.Call (.Name x p) [] kws pos) (fun σ H Q => tk σ H fun vals H1 => vals.length = ks.length ∧ sp (pick pi vals) H1 Q (E σ)) := by
  constructor
  intro pins st σ H Q I h
  refine wpAny_Call_Name_kw (ld_glob I hg hm ?_ hdb)
  refine PySem.W.callWith_KW0 (h₀ := X.base) I.ok.mod.kin hk hall (thn (hkw.run pos pins st σ H _ I h) fun us st1 ⟨vals, H1, J, r, n1, q⟩ => ⟨J.kIn, ?_⟩) hpl
  rw [hks]
  refine wpAny_call (codeAny_mono (F.run X.A X.stack st1 H1 ⟨[], ks.zip us⟩ (pick pi us) (pick pi vals) Q (E σ) hq hr J.env0 (hb st1 us J.kIn (r.length.symm.trans n1)) (DP.Vals.pick r pi) q) fun res st2 z => ?_)
  match res, z with
  | .error ex, z => exact hx σ pins H1 st1 ex st2 J z
  | .ok (.ret u), z => exact J.after z
  | .ok .next, z => exact z.elim
  | .ok .brk, z => exact z.elim
  | .ok .cont, z => exact z.elim
def SimK (X : Cx) (W : WX) (kws : List Keyword) (f : M (List Rv)) : Prop := ∃ t : TA, PK X kws t ∧ ∀ F A H σ ρ, ER X.K F A H σ ρ → ∀ Q : List V → Hp → Prop, Pst X.K X.mg W F A H σ ρ (RA F H σ) Q (f ρ) → t σ H Q
theorem sim_knil : SimK X W [] aNil := ⟨_, pk_nil, fun F A H σ ρ E Q h => h A H [] E Step.refl .nil⟩
theorem sim_kcons {e : Expr} {nm : Option Str} {kpos : Pos} {fe : M Rv} {fs : M (List Rv)} (h : SimE X W e fe) (hs : SimK X W kws fs) : SimK X W (⟨nm, e, kpos⟩ :: kws) (aCons fe fs) := by
  obtain ⟨t, pe, h⟩ := h
  obtain ⟨u, pk, hs⟩ := hs
  refine ⟨_, pk_cons pe pk, fun F A H σ ρ E Q hq => ?_⟩
  refine h F A H σ ρ E _ (Pst.split (m := fe) hq fun r ρ1 A1 H1 v E1 S1 R1 h1 => ?_)
  have h1' : Pst X.K X.mg W F A1 H1 σ ρ1 (RA F H σ) Q (bnd fs (fun xs => retM (r :: xs)) ρ1) := h1.after S1
  refine hs F A1 H1 σ ρ1 E1 _ (Pst.split (m := fs) h1' fun rs ρ2 A2 H2 vs E2 S2 R2 h2 => ?_)
  exact h2 A2 H2 (v :: vs) E2 S2 (.cons (R1.step E1 S2) (R2.back S1.live))
def eCallK (ms : List Bool) (m : List PD → FR) (n : Nat) (pi : List Nat) (fk : M (List Rv)) : M Rv := eCall ms m (bnd fk fun rs => bnd (chk (rs.length == n)) fun _ => retM (pick pi rs))
theorem RvRs.length' {F : Ent} {Z : Hp} {A : AS} {H : Hp} {σ : L2.St} {ρ : Dn} : ∀ {vs : List V} {rs : List Rv}, RvRs F Z A H σ ρ vs rs → vs.length = rs.length
  | _, _, .nil => rfl
  | _, _, .cons _ h => by simp [RvRs.length' h]
structure CalK (P : Program) (w : World) (K : PySem.W.Frag) (mg : Str → Option Value) (base : Heap) (k : Nat) (x : Str) (ps ks : List Str) (pi : List Nat) (ms : List Bool) (m : List PD → FR) : Prop where
  ex : ∃ (f : Addr) (fd : FuncData), GFn P w K mg base CX0 k f fd ps (spD mg ms m) ∧ mg x = some (.ref f) ∧ PySem.W.keepIn K (.ref f) = true ∧ KwB K fd ps ks pi
theorem sim_callK {ms : List Bool} {m : List PD → FR} {fk : M (List Rv)} {n : Nat} (C : CalK X.prog X.w X.K X.mg X.base k x ps ks pi ms m) (hq : Quiet X.A) (hr : Room k X.A) (hg : Gl X x) (ha : SimK X W kws fk) (hn : kws.length = ks.length) (hlen : ks.length = n)
    (hall : (backToKw pos (keywordEach kws X.env)).all (·.1.isSome) = true := by rfl) (hks : (backToKw pos (keywordEach kws X.env)).filterMap (·.1) = ks := by rfl)
    (hdb : (x == ("__debug__" : Str)) = false := by decide) (hpl : ((backTo pos (starEach [] X.env)).any (·.1) || (backToKw pos (keywordEach kws X.env)).any (·.1.isNone)) = false := by rfl) :
    SimE X W (.Call (.Name x p) [] kws pos) (eCallK ms m n pi fk) := by
  subst hlen
  obtain ⟨f, fd, F, h1, h2, h3⟩ := C.ex
  obtain ⟨t, pk, h0⟩ := ha
  refine ⟨_, pe_callK (E := fun σ cls d H => W cls d σ H) F hq hr hg h1 h2 h3 (fun σ => pass0S σ _) pk hn hall hks hdb hpl, ?_⟩
  refine call_run (t := fun σ H Q => t σ H fun vals H1 => vals.length = ks.length ∧ Q (pick pi vals) H1) fun F A H σ ρ E Q h => ?_
  refine h0 F A H σ ρ E _ (Pst.split (m := fk) h fun rs ρ1 A1 H1 vs E1 S1 R1 h1 => ?_)
  obtain ⟨hz, h2⟩ := h1.chk
  exact ⟨by rw [R1.length']; simpa using hz, h2 A1 H1 _ E1 S1 (R1.pick pi)⟩
/-! repr of single values -/
def rReprS : List V → Hp → VK → Prop := fun xs H Q => (xs = [.non] ∧ Q (.str "None") H) ∨ (∃ b, xs = [.bl b] ∧ Q (.str (if b then "True" else "False")) H) ∨ (∃ i, xs = [.int i] ∧ i.natAbs.log2 < 1920 ∧ Q (.str (toString i)) H) ∨ ∃ z, xs = [.str z] ∧ (reprText z).length ≤ sizeLine ∧ Q (.str (reprText z)) H
theorem cr_reprS : CallR X (.builtin "repr") rReprS := by
  intro pins s σ H xs us Q I r h
  rcases h with ⟨rfl, q⟩ | ⟨b, rfl, q⟩ | ⟨i, rfl, hz, q⟩ | ⟨z, rfl, hz, q⟩
  · obtain ⟨u, rfl, rfl⟩ := vals1 r
    exact PySem.P.repr_of_none ⟨.str "None", H, I.tok _, ⟨_, rfl⟩, q⟩
  · obtain ⟨u, rfl, rfl⟩ := vals1 r
    exact PySem.P.repr_of_bool ⟨.str _, H, I.tok _, ⟨_, rfl⟩, q⟩
  · obtain ⟨u, rfl, t, rfl⟩ := vals1 r
    exact PySem.P.repr_of_int hz ⟨.str _, H, I.tok _, ⟨_, rfl⟩, q⟩
  · obtain ⟨u, rfl, t, rfl⟩ := vals1 r
    exact PySem.P.repr_of_str ⟨.str _, H, I.tok _, ⟨_, rfl⟩, q⟩ hz
end
def reprAOk (d : PD) : Bool := match d with
  | .none => true
  | .bool _ => true
  | .int i => decide (i.natAbs.log2 < 1920)
  | .str z => smallL (reprText z).length
  | .list _ => reprOk d
  | .tuple _ => reprOk d
  | .dict _ => false
def gReprA : List PD → Option Rc
  | [d] => if reprAOk d = true then some (.val (.str d.shown)) else none
  | _ => none
theorem on_reprA (K : PySem.W.Frag) : OpN (fun xs H Q => rReprD K xs H Q ∨ rReprS xs H Q) gReprA := ⟨fun A H xs ds c Q hd0 hx e q => by
  unfold gReprA at e
  split at e
  · rename_i d
    split at e
    · rename_i ho
      cases e
      have big : reprOk d = true → rReprD K xs H Q := fun h => (on_repr K).run A H xs [d] _ Q hd0 hx (by simp [gRepr, h]) q
      obtain ⟨v, rfl, r⟩ := hx.one
      have q' : Q (.str d.shown) H := q _ _ (nr_val (.str _))
      cases d with
      | list l => exact .inl (big ho)
      | tuple l => exact .inl (big ho)
      | none =>
        right; left
        rw [r.none]
        exact ⟨rfl, by simpa only [PyData.shown] using q'⟩
      | bool b =>
        right; right; left
        rw [r.bool]
        exact ⟨b, rfl, by simpa only [PyData.shown] using q'⟩
      | int i =>
        right; right; right; left
        rw [r.int]
        exact ⟨i, rfl, by simpa [reprAOk] using ho, by simpa only [PyData.shown] using q'⟩
      | str z =>
        right; right; right; right
        rw [r.str]
        exact ⟨z, rfl, smallL_le (by simpa [reprAOk] using ho), by simpa only [PyData.shown] using q'⟩
      | dict l => cases ho
    · cases e
  · cases e⟩
end DP
/-! DPJ: zip, enumerate; lists turned; x += e; removes. -/
namespace DP
open PySem L2 RZ
def zipL (xs ys : List PD) : List PD := List.zipWith (fun x y => PyData.tuple [x, y]) xs ys
def zipM : List PD → M (List PD)
  | [.list xs, .list ys] => retM (zipL xs ys)
  | [.tuple xs, .tuple ys] => retM (zipL xs ys)
  | _ => noM
def iZipM (fa : M (List Rv)) : M (List PD) := bnd fa fun rs => bnd (frzs rs) zipM
theorem zipL_at {xs ys : List PD} {i : Nat} {d : PD} (h : (zipL xs ys)[i]? = some d) : ∃ x y, xs[i]? = some x ∧ ys[i]? = some y ∧ d = .tuple [x, y] := by
  unfold zipL at h
  rw [List.getElem?_zipWith] at h
  cases e1 : xs[i]? with
  | none => rw [e1] at h; cases h
  | some x =>
    cases e2 : ys[i]? with
    | none => rw [e1, e2] at h; cases h
    | some y =>
      rw [e1, e2] at h
      exact ⟨x, y, rfl, rfl, (Option.some.inj h).symm⟩
theorem pair_new {A : AS} {H : Hp} {T : Addr} {x y : V} {d e : PD} (hn : H T = none) (r1 : Rp A H x d) (r2 : Rp A H y e) : (∀ b o, H b = some o → (upd H T (.tup [x, y])) b = some o) ∧ Rp A (upd H T (.tup [x, y])) (.ref T) (.tuple [d, e]) := by
  have kp : ∀ b o, H b = some o → (upd H T (.tup [x, y])) b = some o := fun b o z => by
    rw [upd_ne (ne_of_none z hn)]
    exact z
  exact ⟨kp, .tup upd_same (.cons (r1.kp (Kp.ext kp)) (.cons (r2.kp (Kp.ext kp)) .nil))⟩
theorem It_zip {K : PySem.W.Frag} {A : AS} {H : Hp} {a b : Addr} {xs ys : List V} {ds es : List PD} (ha : A a) (h : H a = some (.lst xs)) (r : RpAll A H xs ds) (hb : A b) (h2 : H b = some (.lst ys)) (r2 : RpAll A H ys es) : ItR A H (Itz K a b) (zipL ds es) := by
  intro A' H' k dom
  have q1 : SqL K H' a xs := SqL.of (k.obj _ _ ha h)
  have q2 : SqL K H' b ys := SqL.of (k.obj _ _ hb h2)
  have p1 := r.kp k
  have p2 := r2.kp k
  refine ⟨⟨xs, ys, q1, q2, by rw [r.length, r2.length]; unfold zipL; rw [List.length_zipWith]; omega⟩, fun i d hd => ?_⟩
  obtain ⟨dx, dy, e1, e2, rfl⟩ := zipL_at hd
  obtain ⟨x, f1, g1⟩ := RpAll.get p1 e1
  obtain ⟨y, f2, g2⟩ := RpAll.get p2 e2
  refine ⟨⟨xs, ys, x, y, q1, q2, f1, f2⟩, ?_⟩
  rintro v H'' ⟨T, x', y', rfl, hn, rfl, hx, hy⟩
  have z1 := hx xs q1
  have z2 := hy ys q2
  rw [f1] at z1
  rw [f2] at z2
  cases z1
  cases z2
  exact pair_new hn g1 g2
theorem It_zipT {K : PySem.W.Frag} {A : AS} {H : Hp} {a b : Addr} {xs ys : List V} {ds es : List PD} (h : H a = some (.tup xs)) (r : RpAll A H xs ds) (h2 : H b = some (.tup ys)) (r2 : RpAll A H ys es) : ItR A H (ItzT K a b) (zipL ds es) := by
  intro A' H' k dom
  have q1 : SqT K H' a xs := SqT.of (k.tup _ _ h)
  have q2 : SqT K H' b ys := SqT.of (k.tup _ _ h2)
  have p1 := r.kp k
  have p2 := r2.kp k
  refine ⟨⟨xs, ys, q1, q2, by rw [r.length, r2.length]; unfold zipL; rw [List.length_zipWith]; omega⟩, fun i d hd => ?_⟩
  obtain ⟨dx, dy, e1, e2, rfl⟩ := zipL_at hd
  obtain ⟨x, f1, g1⟩ := RpAll.get p1 e1
  obtain ⟨y, f2, g2⟩ := RpAll.get p2 e2
  refine ⟨⟨xs, ys, x, y, q1, q2, f1, f2⟩, ?_⟩
  rintro v H'' ⟨T, x', y', rfl, hn, rfl, hx, hy⟩
  have z1 := hx xs q1
  have z2 := hy ys q2
  rw [f1] at z1
  rw [f2] at z2
  cases z1
  cases z2
  exact pair_new hn g1 g2
section
variable {X : Cx} {W : WX} {e e2 : Expr} {fs : M (List Rv)} {fe : M Rv} {p pos tpos : Pos} {elts : List Expr} {kk : Nat}
theorem sim_izip (hg : Gl X "zip") (hm : X.mg "zip" = none) (h : SimA X W [e, e2] fs) (hs : starEach [e, e2] X.env = (false, eval e X.env) :: starEach [e2] X.env := by rfl) (hpl : (backTo pos (starEach [e2] X.env)).any (·.1) = false := by rfl) :
    SimI X W (.Tuple elts kk tpos) (.Call (.Name "zip" p) [e, e2] [] pos) (iZipM fs) := by
  obtain ⟨t, pa, h⟩ := h
  refine ⟨_, pi_zipA hg hm pa hs hpl, fun F A H σ ρ E R hp => ?_⟩
  refine h F A H σ ρ E _ (hp.split fun rs ρ1 A1 H1 vs E1 S1 R1 h1 => ?_)
  obtain ⟨ds, A2, ρ2, E2, S2, R2, h2⟩ := h1.frzs E1 S1 R1
  unfold zipM at h2
  split at h2
  · cases R2 with
    | cons r1 R2 => cases R2 with
      | cons r2 R2 =>
        cases R2
        cases r1 with
        | lst ha ea ra => cases r2 with
          | lst hb eb rb => exact ⟨_, _, _, _, rfl, .inl ⟨SqL.of ea, SqL.of eb, h2 A2 H1 _ E2 S2 (It_zip ha ea ra hb eb rb)⟩⟩
  · cases R2 with
    | cons r1 R2 => cases R2 with
      | cons r2 R2 =>
        cases R2
        cases r1 with
        | tup ea ra => cases r2 with
          | tup eb rb => exact ⟨_, _, _, _, rfl, .inr ⟨SqT.of ea, SqT.of eb, h2 A2 H1 _ E2 S2 (It_zipT ea ra eb rb)⟩⟩
  · exact h2.elim
/-! enumerate -/
def enumL (xs : List PD) : List PD := xs.mapIdx fun i x => PyData.tuple [.int i, x]
def enumM : List PD → M (List PD)
  | [.list xs] => retM (enumL xs)
  | _ => noM
def iEnumM (fa : M (List Rv)) : M (List PD) := bnd fa fun rs => bnd (frzs rs) enumM
theorem It_enum {K : PySem.W.Frag} {A : AS} {H : Hp} {a : Addr} {xs : List V} {ds : List PD} (ha : A a) (h : H a = some (.lst xs)) (r : RpAll A H xs ds) : ItR A H (Ite K a) (enumL ds) := by
  intro A' H' k dom
  have q1 : SqL K H' a xs := SqL.of (k.obj _ _ ha h)
  have p1 := r.kp k
  refine ⟨⟨xs, q1, by rw [r.length]; unfold enumL; simp⟩, fun i d hd => ?_⟩
  unfold enumL at hd
  rw [List.getElem?_mapIdx] at hd
  cases e1 : ds[i]? with
  | none => rw [e1] at hd; cases hd
  | some dx =>
    rw [e1] at hd
    obtain rfl : PyData.tuple [.int i, dx] = d := Option.some.inj hd
    obtain ⟨x, f1, g1⟩ := RpAll.get p1 e1
    refine ⟨⟨xs, x, q1, f1⟩, ?_⟩
    rintro v H'' ⟨T, x', rfl, hn, rfl, hx⟩
    have z1 := hx xs q1
    rw [f1] at z1
    cases z1
    exact pair_new hn (.int _) g1
theorem sim_ienum (hg : Gl X "enumerate") (hm : X.mg "enumerate" = none) (h : SimA X W [e] fs) (hs : starEach [e] X.env = [(false, eval e X.env)] := by rfl) :
    SimI X W (.Tuple elts kk tpos) (.Call (.Name "enumerate" p) [e] [] pos) (iEnumM fs) := by
  obtain ⟨t, pa, h⟩ := h
  refine ⟨_, pi_enum hg hm pa hs, fun F A H σ ρ E R hp => ?_⟩
  refine h F A H σ ρ E _ (hp.split fun rs ρ1 A1 H1 vs E1 S1 R1 h1 => ?_)
  obtain ⟨ds, A2, ρ2, E2, S2, R2, h2⟩ := h1.frzs E1 S1 R1
  unfold enumM at h2
  split at h2
  · cases R2 with
    | cons r1 R2 =>
      cases R2
      cases r1 with
      | lst ha ea ra => exact ⟨_, _, rfl, SqL.of ea, h2 A2 H1 _ E2 S2 (It_enum ha ea ra)⟩
  · exact h2.elim
/-! xs[::-1], a list -/
def eRevL (f : M Rv) : M Rv := bnd f fun r => bnd (rdM r) fun d => match d with
  | .list ds => retM (.fresh (.list ds.reverse))
  | _ => noM
theorem RpAll.rev {A : AS} {H : Hp} : ∀ {vs : List V} {ds : List PD}, RpAll A H vs ds → RpAll A H vs.reverse ds.reverse
  | _, _, .nil => .nil
  | _, _, .cons r h => by
    rw [List.reverse_cons, List.reverse_cons]
    exact (RpAll.rev h).snoc r
theorem sim_revL {k : Nat} {p1 p2 p3 : Pos} (h : SimE X W e fe) : SimE X W (.Subscript e (.Slice none none (some (.UnaryOp .USub (.Constant (.int 1) k p1) p2)) p3) pos) (eRevL fe) := by
  obtain ⟨t, pe, h⟩ := h
  refine ⟨_, pe_revL pe, fun F A H σ ρ E Q hp => ?_⟩
  refine h F A H σ ρ E _ (Pst.split (m := fe) hp fun r ρ1 A1 H1 v E1 S1 R1 h1 => ?_)
  obtain ⟨d, e3, h2⟩ := h1.rd
  have hz := RvR.rt E1 R1 e3
  cases d with
  | list ds =>
    obtain ⟨q, us, rfl, hq, rr⟩ := hz.list
    refine ⟨q, us, rfl, SqL.of hq, fun p' hp' => ?_⟩
    obtain ⟨E', S', R'⟩ := (nr_lst hp' rr.rev).rv S1.live E1
    exact h2 A1 _ _ E' (S1.trans S') R'
  | _ => exact h2.elim
end
section
variable {K : PySem.W.Frag} {x qual : Str} {ar : Arguments} {bd : List Stmt} {sc : Scope} {dvs : List V} {kws : List (Str × V)} {f : Addr} {fd : FuncData} {ps ks : List Str} {pi : List Nat}
theorem kwb_of (F : FunD K x qual ar bd sc [] kws f fd)
    (h : ∀ (kV doc pm : Value) (an : Option Addr) (cdv ct : Value) (us : List Value), us.length = ks.length → bindArgs (PySem.W.fnOf x qual ar bd sc .none kV doc pm an cdv ct) ⟨[], ks.zip us⟩ = pure (ps.zip (pick pi us))) : KwB K fd ps ks pi := by
  obtain ⟨oc, od, dV, kV, doc, pm, an, cdv, ct, osl, rfl, lk, hcd, hD, hK⟩ := F.ex
  rcases hD with ⟨_, rfl⟩ | ⟨e, _⟩
  · exact fun st us _ hl => BindsTo.of_eq (h kV doc pm an cdv ct us hl)
  · exact absurd rfl e
theorem kwb_ofD (F : FunD K x qual ar bd sc dvs kws f fd) (hd : dvs ≠ [])
    (h : ∀ (T : Addr) (kV doc pm : Value) (an : Option Addr) (cdv ct : Value) (us its : List Value), us.length = ks.length → its.length = dvs.length →
      ∃ k, bindArgs (PySem.W.fnOf x qual ar bd sc (.ref T) kV doc pm an cdv ct) ⟨[], ks.zip us⟩ = seqItems? (.ref T) >>= k ∧ k (some its.toArray) = pure (ps.zip (pick pi us))) : KwB K fd ps ks pi := by
  obtain ⟨oc, od, dV, kV, doc, pm, an, cdv, ct, osl, rfl, lk, hcd, hD, hK⟩ := F.ex
  rcases hD with ⟨e, _⟩ | ⟨_, T, o, its, m, rfl, lT, oT, rT⟩
  · exact absurd e hd
  · intro st us X hl
    obtain ⟨k, e1, e2⟩ := h T kV doc pm an cdv ct us its hl rT.length.symm
    refine BindsTo.of_looks fun M => ?_
    rw [e1]
    exact looks_items X lT oT (.of_pure e2)
end
end DP
/-! DPK: a tuple turned. -/
namespace DP
open PySem PySem.Spec PyProof.Rows L2 HT
section
variable {prog : Program} {w : World} {A : Around} {E : Value → Shared → Prop} {s : Shared}
theorem fm_some {α β : Type} {f : α → Option β} {g : α → β} : ∀ {l : List α}, (∀ m ∈ l, f m = some (g m)) → l.filterMap f = l.map g
  | [], _ => rfl
  | x :: l, h => by
    rw [List.filterMap_cons, h x (List.mem_cons_self ..), List.map_cons, fm_some fun m hm => h m (List.mem_cons_of_mem _ hm)]
theorem rev_adjust (n : Nat) : Builtin.Slice.sliceAdjust none none (-1) (n : Int) = ((n : Int) - 1, (-1 : Int)) := by
  unfold Builtin.Slice.sliceAdjust
  simp
theorem rev_places (n : Nat) : Builtin.Slice.slicePlaces ((n : Int) - 1) (-1) (-1) = n := by
  unfold Builtin.Slice.slicePlaces
  simp
  try omega
theorem rev_pick (xs : Array Value) : ((List.range xs.size).filterMap fun (m : Nat) => xs[(((xs.size : Int) - 1) + (m : Int) * (-1)).toNat]?).toArray = xs.toList.reverse.toArray := by
  congr 1
  have e : ∀ m ∈ List.range xs.size, (fun (m : Nat) => xs[(((xs.size : Int) - 1) + (m : Int) * (-1)).toNat]?) m = some ((fun (m : Nat) => xs.toList.reverse.getD m Value.none) m) := by
    intro m hm
    rw [List.mem_range] at hm
    have h1 : (((xs.size : Int) - 1) + (m : Int) * (-1)).toNat = xs.size - 1 - m := by omega
    dsimp only
    rw [h1, List.getD_eq_getElem?_getD, List.getElem?_reverse (by simpa using hm)]
    have h2 : xs.size - 1 - m < xs.size := by omega
    simp [h2]
  rw [fm_some e]
  apply List.ext_getElem?
  intro i
  rw [List.getElem?_map]
  by_cases h : i < xs.size
  · rw [List.getElem?_range h]
    simp only [Option.map_some, List.getD_eq_getElem?_getD]
    rw [List.getElem?_eq_getElem (by simpa using h)]
    rfl
  · rw [List.getElem?_eq_none (by simpa using h), List.getElem?_eq_none (by simpa using h)]
    rfl
theorem applied_rev {sl : Addr} {vs : Value} {n : Nat} {Q : Int × Int × Nat → Shared → Prop} (hs : s.heap.IsSliceOf sl .none .none vs) (ps : IsPart vs (some (-1))) (h : Q ((n : Int) - 1, -1, n) s) : wpAny (model prog w) A (Builtin.Slice.sliceApplied (.ref sl) (pure (n : Int))) Q E s := by
  obtain ⟨os, hos, hcs, hds⟩ := id hs
  unfold Builtin.Slice.sliceApplied Builtin.Slice.sliceFields
  refine wpAny_bind (wpAny_bind (wpAny_field hos hds (x := .none) rfl (wpAny_bind (wpAny_field hos hds (x := .none) rfl (wpAny_bind (wpAny_field hos hds (x := vs) rfl (wpAny_pure ?_)))))))
  refine wpAny_bind (slicePart_ ps ?_)
  show wpAny _ _ (if ((-1 : Int) == 0) = true then _ else _) _ _ s
  rw [if_neg (by decide)]
  refine wpAny_bind (slicePart_ .none (wpAny_bind (slicePart_ .none (wpAny_bind (wpAny_pure ?_)))))
  show wpAny _ _ (match Builtin.Slice.sliceAdjust none none (-1) (n : Int) with | (lo, hi) => pure (lo, (-1 : Int), Builtin.Slice.slicePlaces lo hi (-1))) _ _ s
  rw [rev_adjust n]
  show wpAny _ _ (pure ((n : Int) - 1, (-1 : Int), Builtin.Slice.slicePlaces ((n : Int) - 1) (-1) (-1))) _ _ s
  rw [rev_places]
  exact wpAny_pure h
theorem tuple_turned {t sl : Addr} {items : Array Value} {vs : Value} {Q : Value → Shared → Prop} (ht : IsTup s.heap t items) (hs : s.heap.IsSliceOf sl .none .none vs) (ps : IsPart vs (some (-1)))
    (h : Q (.ref s.heap.objs.size) { s with heap := s.heap.push { cls := .type "tuple", data := .seq items.toList.reverse.toArray } }) (hsz : items.size ≤ sizeLine) : wpAny (model prog w) A (getItem (.ref t) (.ref sl)) Q E s := by
  have small : sizeOk (.seq items.toList.reverse.toArray) := by
    show items.toList.reverse.toArray.size ≤ sizeLine
    simpa using hsz
  obtain ⟨os, hos, hcs, hds⟩ := id hs
  have hTs : s.TypeIs (.ref sl) "slice" := ⟨os, hos, hcs⟩
  unfold getItem
  try with_reducible refine wpAny_holding ?_
  first | refine wpAny_bind (wpAny_pure ?_) | skip
  refine wpAny_bind (wpAny_sequenceKey ht.typeIs (by decide) ?_)
  refine wpAny_bind (wpAny_callSpecial?_slot (name := Str.ofString "__getitem__") ht.typeIs PyProof.Rows.slot_tuple_getitem (wpAny_call_entry PyProof.Rows.slot_tuple_getitem ht.typeIs entry_tuple_getitem ?_ (args_tuple_getitem _ _)))
  show wpAny _ _ (Builtin.Tuple.tupleItemsOf (.ref t) >>= _) _ _ s
  refine wpAny_bind (tupleItemsOf_ ht ?_)
  refine wpAny_bind (wpAny_typeOf hTs ?_)
  rw [if_pos (by decide)]
  refine wpAny_bind (applied_rev hs ps ?_)
  show wpAny _ _ (if (((items.size : Int) - 1) == 0 && (-1 : Int) == 1 && items.size == items.size) = true then _ else _) _ _ s
  rw [if_neg (by simp), rev_pick]
  first
    | exact wpAny_bind (m := Builtin.Tuple.tupleExact _) (wpAny_newObj_type (wpAny_pure ⟨_, rfl, wpAny_pure h⟩) small)
    | exact wpAny_bind (m := Builtin.Tuple.tupleExact _) (wpAny_newObj_type (wpAny_bind (wpAny_pure (wpAny_pure ⟨_, rfl, wpAny_pure h⟩))) small)
    | exact wpAny_bind (wpAny_bind (m := Builtin.Tuple.tupleExact _) (wpAny_newObj_type (wpAny_pure (wpAny_pure ⟨_, rfl, wpAny_pure h⟩)) small))
    | exact wpAny_bind (wpAny_bind (m := Builtin.Tuple.tupleExact _) (wpAny_newObj_type (wpAny_pure ⟨_, rfl, wpAny_pure h⟩) small))
end
def tRevT (K : PySem.W.Frag) (te : TE) : TE := fun σ H Q => te σ H fun x H1 => ∃ a xs, x = .ref a ∧ SqT K H1 a xs ∧ ∀ p, H1 p = none → Q (.ref p) (upd H1 p (.tup xs.reverse))
theorem pe_revT {X : Cx} {e : Expr} {te : TE} {k : Nat} {p1 p2 p3 pos : Pos} (he : PE X e te) : PE X (.Subscript e (.Slice none none (some (.UnaryOp .USub (.Constant (.int 1) k p1) p2)) p3) pos) (tRevT X.K te) := by
  constructor
  intro pins st σ H Q I h
  refine Subscript_ (thn (he.run pins st σ H _ I h) fun v t1 ⟨x, H1, I1, r1, a, xs, ex, hx, q⟩ => ?_)
  subst ex
  cases r1
  have minus1 : PO X (some (.UnaryOp .USub (.Constant (.int 1) k p1) p2)) (tPart (tUn (rU fun i => .int (-i)) (tC (.int 1)))) := po_some (pe_un un_neg pe_int)
  refine wpAny_Slice (thn (po_none.run pins t1 σ H1 (fun o G => o = none ∧ G = H1) I1 ⟨rfl, rfl⟩) fun vl t2 ⟨l, H2, I2, pl, el, e2⟩ => ?_)
  subst el e2
  refine thn (po_none.run pins t2 σ H2 (fun o G => o = none ∧ G = H2) I2 ⟨rfl, rfl⟩) fun vu t3 ⟨u, H3, I3, pu, eu, e3⟩ => ?_
  subst eu e3
  refine thn (minus1.run pins t3 σ H3 (fun o G => o = some (-1) ∧ G = H3) I3 ⟨1, rfl, -1, rfl, rfl, rfl⟩) fun vs t4 ⟨o, H4, I4, ps, eo, e4⟩ => ?_
  subst eo e4
  cases pl
  cases pu
  have I5 : Inv X pins σ H4 { t4 with heap := t4.heap.push { cls := .type "slice", data := .fields #[.none, .none, vs] } } := I4.kept (t' := t4.toks) fun b ob z => Heap.get?_push_of_some _ z
  obtain ⟨its, r, ht, hz⟩ := I5.tuple hx
  have hlen := r.length
  show wpAny (model X.prog X.w) X.A (subscriptTail e (.Slice none none (some (.UnaryOp .USub (.Constant (.int 1) k p1) p2)) p3) (.ref a) (.ref t4.heap.objs.size)) (EP X pins σ Q) X.xe { t4 with heap := t4.heap.push { cls := .type "slice", data := .fields #[.none, .none, vs] } }
  refine tail_any (ops := [.ref a, .ref t4.heap.objs.size]) ht.typeIs (PyProof.Rows.slot_tuple_getitem.lookup) ?_ (by with_unfolding_all rfl)
  refine tuple_turned ht (Heap.IsSliceOf.new _ .none .none vs) ps ?_ (by rw [List.size_toArray]; omega)
  refine ⟨.ref _, _, I5.laid (t' := t4.toks) (o := .tup xs.reverse) (fun b ob z => Heap.get?_push_of_some _ z) (Nat.le_refl _) ?_, rfl, q _ (I5.hok.fresh (Nat.le_refl _))⟩
  exact ⟨by rw [List.length_reverse]; exact hz, _, r.reverse, ⟨_, Heap.get?_push_size _ rfl, rfl, _, rfl⟩⟩
def eRevT (f : M Rv) : M Rv := bnd f fun r => bnd (rdM r) fun d => match d with
  | .tuple ds => retM (.val (.tuple ds.reverse))
  | _ => noM
theorem sim_revT {X : Cx} {W : WX} {e : Expr} {fe : M Rv} {pos : Pos} {k : Nat} {p1 p2 p3 : Pos} (h : SimE X W e fe) : SimE X W (.Subscript e (.Slice none none (some (.UnaryOp .USub (.Constant (.int 1) k p1) p2)) p3) pos) (eRevT fe) := by
  obtain ⟨t, pe, h⟩ := h
  refine ⟨_, pe_revT pe, fun F A H σ ρ E Q hp => ?_⟩
  refine h F A H σ ρ E _ (Pst.split (m := fe) hp fun r ρ1 A1 H1 v E1 S1 R1 h1 => ?_)
  obtain ⟨d, e3, h2⟩ := h1.rd
  have hz := RvR.rt E1 R1 e3
  cases d with
  | tuple ds =>
    obtain ⟨q, us, rfl, hq, rr⟩ := hz.tup
    refine ⟨q, us, rfl, SqT.of hq, fun p' hp' => ?_⟩
    obtain ⟨E', S', R'⟩ := (nr_tup hp' rr.rev).rv S1.live E1
    exact h2 A1 _ _ E' (S1.trans S') R'
  | _ => exact h2.elim
/-! texts that are shown, compared -/
def gEqS (neg : Bool) : PD → PD → Option Rc
  | .str x, .str y => some (.val (.bool (if neg = true then !decide (x = y) else decide (x = y))))
  | _, _ => none
theorem dec_str (x y : Str) : decide (V.str x = V.str y) = decide (x = y) := by
  rw [Bool.eq_iff_iff]
  simp
theorem o2_eqS : Op2 rEq (gEqS false) := ⟨fun A H x y d1 d2 c Q _ hx hy e q => by
  unfold gEqS at e
  split at e
  · rename_i a b
    cases e
    rw [hx.str, hy.str]
    refine ⟨rfl, ?_⟩
    rw [dec_str]
    exact q _ _ (nr_val (.bl _))
  · cases e⟩
theorem o2_neS : Op2 rNe (gEqS true) := ⟨fun A H x y d1 d2 c Q _ hx hy e q => by
  unfold gEqS at e
  split at e
  · rename_i a b
    cases e
    rw [hx.str, hy.str]
    refine ⟨rfl, ?_⟩
    rw [dec_str]
    exact q _ _ (nr_val (.bl _))
  · cases e⟩
end DP
namespace LW
open PySem L2 DP
def top (i : Nat) : Stmt := PySem.Challenge.pw_leastbroken_k07_sums_or_none.main.body.getD i (.Pass ⟨0, 0, 0, 0⟩)

structure Txt (K : PySem.W.Frag) (mg : Str → Option Value) : Prop where
  b_abs : mg "abs" = none
  b_all : mg "all" = none
  b_bool : mg "bool" = none
  b_int : mg "int" = none
  b_isinstance : mg "isinstance" = none
  b_len : mg "len" = none
  b_list : mg "list" = none
  b_max : mg "max" = none
  b_min : mg "min" = none
  b_range : mg "range" = none
  b_repr : mg "repr" = none
  b_sorted : mg "sorted" = none
  b_sum : mg "sum" = none
  b_tuple : mg "tuple" = none
  b_zip : mg "zip" = none
theorem bt_abs : bootBuiltins "abs" = some (.builtin "abs") := by decide +kernel
theorem bt_all : bootBuiltins "all" = some (.builtin "all") := by decide +kernel
theorem bt_bool : bootBuiltins "bool" = some (.type "bool") := by decide +kernel
theorem bt_int : bootBuiltins "int" = some (.type "int") := by decide +kernel
theorem bt_isinstance : bootBuiltins "isinstance" = some (.builtin "isinstance") := by decide +kernel
theorem bt_len : bootBuiltins "len" = some (.builtin "len") := by decide +kernel
theorem bt_list : bootBuiltins "list" = some (.type "list") := by decide +kernel
theorem bt_max : bootBuiltins "max" = some (.builtin "max") := by decide +kernel
theorem bt_min : bootBuiltins "min" = some (.builtin "min") := by decide +kernel
theorem bt_repr : bootBuiltins "repr" = some (.builtin "repr") := by decide +kernel
theorem bt_sorted : bootBuiltins "sorted" = some (.builtin "sorted") := by decide +kernel
theorem bt_sum : bootBuiltins "sum" = some (.builtin "sum") := by decide +kernel
theorem bt_tuple : bootBuiltins "tuple" = some (.type "tuple") := by decide +kernel
section
variable {P : Program} {w : World} {K : PySem.W.Frag} {mg : Str → Option Value} {base : Heap}
/-! is_whole -/
abbrev st_is_whole : Stmt := top 1
abbrev N_is_whole : List Str := ["thing"]
theorem sc_is_whole : FnScope N_is_whole ["thing"] (defScope st_is_whole) := ⟨rfl, rfl, rfl, by decide +kernel, rfl, by decide +kernel, by decide +kernel⟩
def b_is_whole : SM := (sRet (eAndV (eIsi "int" (eVar 0)) (eNotV (eIsi "bool" (eVar 0)))))
def m_is_whole : List PD → FR := fun ds => (runF N_is_whole.length [false] b_is_whole ds).calm
theorem me_is_whole (ds : List PD) : m_is_whole ds = (runF 1 [false] b_is_whole ds).calm := Eq.trans rfl rfl
theorem ok_is_whole {f : Addr} {fd : FuncData} {dvs : List V} (F : FnP K "is_whole" st_is_whole dvs f fd) (T : Txt K mg)  : GFn P w K mg base CX0 1 f fd ["thing"] (spD mg [false] m_is_whole) := fn_simG (b := b_is_whole) F sc_is_whole rfl (fun cdv A outer s H E hq hr => (sim_one (sim_ret (sim_vand (sim_isi (by rfl) T.b_isinstance bt_isinstance (by rfl) T.b_int bt_int (sim_var (pv 0))) (sim_vone (sim_vnot (sim_isi (by rfl) T.b_isinstance bt_isinstance (by rfl) T.b_bool bt_bool (sim_var (pv 0)))))))))
/-! is_mark -/
abbrev st_is_mark : Stmt := top 2
abbrev N_is_mark : List Str := ["thing", "many"]
theorem sc_is_mark : FnScope N_is_mark ["thing", "many"] (defScope st_is_mark) := ⟨rfl, rfl, rfl, by decide +kernel, rfl, by decide +kernel, by decide +kernel⟩
def b_is_mark : SM := (sRet (eAndV (eCall [false] m_is_whole (aCons (eVar 0) aNil)) (eChain gLe gLe (eC (.int 1)) (eOpN gAbs (aCons (eVar 0) aNil)) (eVar 1))))
def m_is_mark : List PD → FR := fun ds => (runF N_is_mark.length [false, false] b_is_mark ds).calm
theorem me_is_mark (ds : List PD) : m_is_mark ds = (runF 2 [false, false] b_is_mark ds).calm := Eq.trans rfl rfl
theorem ok_is_mark {f : Addr} {fd : FuncData} {dvs : List V} (F : FnP K "is_mark" st_is_mark dvs f fd) (T : Txt K mg) (C_is_whole : CalG P w K mg base 1 "is_whole" ["thing"] [false] m_is_whole) : GFn P w K mg base CX0 2 f fd ["thing", "many"] (spD mg [false, false] m_is_mark) := fn_simG (b := b_is_mark) F sc_is_mark rfl (fun cdv A outer s H E hq hr => (sim_one (sim_ret (sim_vand (sim_callG C_is_whole hq (hr.mono (by decide)) (by rfl) (sim_acons (sim_var (pv 0)) sim_anil)) (sim_vone (sim_chain op_le op_le o2_le o2_le sim_int (sim_callB call_abs on_abs (by rfl) T.b_abs bt_abs (sim_acons (sim_var (pv 0)) sim_anil)) (sim_var (pv 1))))))))
/-! is_rising -/
abbrev st_is_rising : Stmt := top 3
abbrev N_is_rising : List Str := ["numbers", "one", "other"]
theorem sc_is_rising : FnScope N_is_rising ["numbers"] (defScope st_is_rising) := ⟨rfl, rfl, rfl, by decide +kernel, rfl, by decide +kernel, by decide +kernel⟩
def b_is_rising : SM := (sRet (eOpN gAll (aCons (eComp (iZipM (aCons (eVar 0) (aCons (eSl (eVar 0) (some (eC (.int 1))) none) aNil))) (gTupM (gsCons (gNm 1) (gsCons (gNm 2) gsNil))) [1, 2] (retM true) (eOp2 gLt (eVar 1) (eVar 2))) aNil)))
def m_is_rising : List PD → FR := fun ds => (runF N_is_rising.length [false] b_is_rising ds).calm
theorem me_is_rising (ds : List PD) : m_is_rising ds = (runF 3 [false] b_is_rising ds).calm := Eq.trans rfl rfl
theorem ok_is_rising {f : Addr} {fd : FuncData} {dvs : List V} (F : FnP K "is_rising" st_is_rising dvs f fd) (T : Txt K mg)  : GFn P w K mg base CX0 1 f fd ["numbers"] (spD mg [false] m_is_rising) := fn_simG (b := b_is_rising) F sc_is_rising rfl (fun cdv A outer s H E hq hr => (sim_one (sim_ret (sim_callB (cr_all rfl) (on_all _) (by rfl) T.b_all bt_all (sim_acons (sim_lc [("one", 1), ("other", 2)] rfl sc_is_rising.nd (sim_izip (by rfl) T.b_zip (sim_acons (sim_var (pv 0)) (sim_acons (sim_slice (sim_var (pv 0)) (sim_osome sim_int) sim_onone) sim_anil))) (blkOk_by (N := N_is_rising) (sc := defScope st_is_rising) (by decide +kernel)) (fun _ _ _ _ _ => (sim_gtup rfl (sim_gscons (sim_gname (i := 1) sc_is_rising.nd rfl (.inl rfl)) (sim_gscons (sim_gname (i := 2) sc_is_rising.nd rfl (.inl rfl)) sim_gsnil)) (gs_lenc (gs_lenc gs_len0)))) (fun _ _ _ _ _ => sim_tsnil) (fun _ _ _ _ _ => (sim_cmp op_lt o2_lt (sim_var (pv 1)) (sim_var (pv 2)) (nomark _))) (by decide)) sim_anil)))))
/-! is_so -/
abbrev st_is_so : Stmt := top 4
abbrev N_is_so : List Str := ["mark", "filling"]
theorem sc_is_so : FnScope N_is_so ["mark", "filling"] (defScope st_is_so) := ⟨rfl, rfl, rfl, by decide +kernel, rfl, by decide +kernel, by decide +kernel⟩
def b_is_so : SM := (sRet (eOp2 (gEq false) (eOp2 gIx (eVar 1) (eOp2 gSub (eOpN gAbs (aCons (eVar 0) aNil)) (eC (.int 1)))) (eOp2 gGt (eVar 0) (eC (.int 0)))))
def m_is_so : List PD → FR := fun ds => (runF N_is_so.length [false, false] b_is_so ds).calm
theorem me_is_so (ds : List PD) : m_is_so ds = (runF 2 [false, false] b_is_so ds).calm := Eq.trans rfl rfl
theorem ok_is_so {f : Addr} {fd : FuncData} {dvs : List V} (F : FnP K "is_so" st_is_so dvs f fd) (T : Txt K mg)  : GFn P w K mg base CX0 1 f fd ["mark", "filling"] (spD mg [false, false] m_is_so) := fn_simG (b := b_is_so) F sc_is_so rfl (fun cdv A outer s H E hq hr => (sim_one (sim_ret (sim_cmp (op_eqD hr.units) (o2_eq _) (sim_ix (ir_all (hu_of hr)) (o2_ix _) (sim_var (pv 1)) (sim_op op_sub o2_sub (sim_callB call_abs on_abs (by rfl) T.b_abs bt_abs (sim_acons (sim_var (pv 0)) sim_anil)) sim_int) (fun _ _ => rfl)) (sim_cmp op_gt o2_gt (sim_var (pv 0)) sim_int (nomark _)) (nomark _)))))
/-! is_term -/
abbrev st_is_term : Stmt := top 6
abbrev N_is_term : List Str := ["thing", "many"]
theorem sc_is_term : FnScope N_is_term ["thing", "many"] (defScope st_is_term) := ⟨rfl, rfl, rfl, by decide +kernel, rfl, by decide +kernel, by decide +kernel⟩
def b_is_term : SM := (sSeq (sIf (tOrM (tNotM (tBool (eIsi "tuple" (eVar 0)))) (tOrM (tBool (eOp2 (gEq true) (eOpN gLen (aCons (eVar 0) aNil)) (eC (.int 2)))) (tNotM (tBool (eCall [false] m_is_whole (aCons (eOp2 gIx (eVar 0) (eC (.int 0))) aNil)))))) (sRet (eC (.bool false))) sNil)
    (sRet (eAndV (eOp2 gGe (eOp2 gIx (eVar 0) (eC (.int 0))) (eC (.int 1))) (eCall [false, false] m_is_mark (aCons (eOp2 gIx (eVar 0) (eC (.int 1))) (aCons (eVar 1) aNil))))))
def m_is_term : List PD → FR := fun ds => (runF N_is_term.length [false, false] b_is_term ds).calm
theorem me_is_term (ds : List PD) : m_is_term ds = (runF 2 [false, false] b_is_term ds).calm := Eq.trans rfl rfl
theorem ok_is_term {f : Addr} {fd : FuncData} {dvs : List V} (F : FnP K "is_term" st_is_term dvs f fd) (T : Txt K mg) (C_is_whole : CalG P w K mg base 1 "is_whole" ["thing"] [false] m_is_whole) (C_is_mark : CalG P w K mg base 2 "is_mark" ["thing", "many"] [false, false] m_is_mark) : GFn P w K mg base CX0 3 f fd ["thing", "many"] (spD mg [false, false] m_is_term) := fn_simG (b := b_is_term) F sc_is_term rfl (fun cdv A outer s H E hq hr => (sim_seq (sim_if (SimW.t (sim_wor (sim_tnot (sim_tval (sim_isi (by rfl) T.b_isinstance bt_isinstance (by rfl) T.b_tuple bt_tuple (sim_var (pv 0))))) (sim_wor (sim_tcmp (op_neD hr.units) (o2_ne _) (sim_callB call_len (on_len _) (by rfl) T.b_len bt_len (sim_acons (sim_var (pv 0)) sim_anil)) sim_int (nomark _)) (sim_wor1 (sim_tnot (sim_tval (sim_callG C_is_whole hq (hr.mono (by decide)) (by rfl) (sim_acons (sim_ix (ir_all (hu_of hr)) (o2_ix _) (sim_var (pv 0)) sim_int (fun _ _ => rfl)) sim_anil)))))))) (sim_one (sim_ret sim_bl)) sim_nil)
    (sim_one (sim_ret (sim_vand (sim_cmp op_ge o2_ge (sim_ix (ir_all (hu_of hr)) (o2_ix _) (sim_var (pv 0)) sim_int (fun _ _ => rfl)) sim_int (nomark _)) (sim_vone (sim_callG C_is_mark hq (hr.mono (by decide)) (by rfl) (sim_acons (sim_ix (ir_all (hu_of hr)) (o2_ix _) (sim_var (pv 0)) sim_int (fun _ _ => rfl)) (sim_acons (sim_var (pv 1)) sim_anil)))))))))
/-! is_sum -/
abbrev st_is_sum : Stmt := top 7
abbrev N_is_sum : List Str := ["thing", "many", "one", "factor", "mark"]
theorem sc_is_sum : FnScope N_is_sum ["thing", "many"] (defScope st_is_sum) := ⟨rfl, rfl, rfl, by decide +kernel, rfl, by decide +kernel, by decide +kernel⟩
def b_is_sum : SM := (sSeq (sIf (tOrM (tNotM (tBool (eIsi "tuple" (eVar 0)))) (tOrM (tBool (eOp2 (gEq true) (eOpN gLen (aCons (eVar 0) aNil)) (eC (.int 2)))) (tOrM (tNotM (tBool (eIsi "tuple" (eOp2 gIx (eVar 0) (eC (.int 0)))))) (tNotM (tBool (eCall [false] m_is_whole (aCons (eOp2 gIx (eVar 0) (eC (.int 1))) aNil))))))) (sRet (eC (.bool false))) sNil)
    (sSeq (sIf (tNotM (tBool (eOpN gAll (aCons (eComp (iSeqM (eOp2 gIx (eVar 0) (eC (.int 0)))) (gNm 2) [2] (retM true) (eCall [false, false] m_is_term (aCons (eVar 2) (aCons (eVar 1) aNil)))) aNil)))) (sRet (eC (.bool false))) sNil)
    (sRet (eCall [false] m_is_rising (aCons (eComp (iSeqM (eOp2 gIx (eVar 0) (eC (.int 0)))) (gTupM (gsCons (gNm 3) (gsCons (gNm 4) gsNil))) [3, 4] (retM true) (eOpN gAbs (aCons (eVar 4) aNil))) aNil)))))
def m_is_sum : List PD → FR := fun ds => (runF N_is_sum.length [false, false] b_is_sum ds).calm
theorem me_is_sum (ds : List PD) : m_is_sum ds = (runF 5 [false, false] b_is_sum ds).calm := Eq.trans rfl rfl
theorem ok_is_sum {f : Addr} {fd : FuncData} {dvs : List V} (F : FnP K "is_sum" st_is_sum dvs f fd) (T : Txt K mg) (C_is_whole : CalG P w K mg base 1 "is_whole" ["thing"] [false] m_is_whole) (C_is_term : CalG P w K mg base 3 "is_term" ["thing", "many"] [false, false] m_is_term) (C_is_rising : CalG P w K mg base 1 "is_rising" ["numbers"] [false] m_is_rising) : GFn P w K mg base CX0 4 f fd ["thing", "many"] (spD mg [false, false] m_is_sum) := fn_simG (b := b_is_sum) F sc_is_sum rfl (fun cdv A outer s H E hq hr => (sim_seq (sim_if (SimW.t (sim_wor (sim_tnot (sim_tval (sim_isi (by rfl) T.b_isinstance bt_isinstance (by rfl) T.b_tuple bt_tuple (sim_var (pv 0))))) (sim_wor (sim_tcmp (op_neD hr.units) (o2_ne _) (sim_callB call_len (on_len _) (by rfl) T.b_len bt_len (sim_acons (sim_var (pv 0)) sim_anil)) sim_int (nomark _)) (sim_wor (sim_tnot (sim_tval (sim_isi (by rfl) T.b_isinstance bt_isinstance (by rfl) T.b_tuple bt_tuple (sim_ix (ir_all (hu_of hr)) (o2_ix _) (sim_var (pv 0)) sim_int (fun _ _ => rfl))))) (sim_wor1 (sim_tnot (sim_tval (sim_callG C_is_whole hq (hr.mono (by decide)) (by rfl) (sim_acons (sim_ix (ir_all (hu_of hr)) (o2_ix _) (sim_var (pv 0)) sim_int (fun _ _ => rfl)) sim_anil))))))))) (sim_one (sim_ret sim_bl)) sim_nil)
    (sim_seq (sim_if (sim_tnot (sim_tval (sim_callB (cr_all rfl) (on_all _) (by rfl) T.b_all bt_all (sim_acons (sim_lc [("one", 2)] rfl sc_is_sum.nd (sim_iseq (sim_ix (ir_all (hu_of hr)) (o2_ix _) (sim_var (pv 0)) sim_int (fun _ _ => rfl))) (blkOk_by (N := N_is_sum) (sc := defScope st_is_sum) (by decide +kernel)) (fun _ _ _ _ _ => (sim_gname (i := 2) sc_is_sum.nd rfl (.inl rfl))) (fun _ _ _ _ _ => sim_tsnil) (fun _ _ _ _ _ => (sim_callG C_is_term hq (hr.mono (by decide)) (by rfl) (sim_acons (sim_var (pv 2)) (sim_acons (sim_var (pv 1)) sim_anil)))) (by decide)) sim_anil)))) (sim_one (sim_ret sim_bl)) sim_nil)
    (sim_one (sim_ret (sim_callG C_is_rising hq (hr.mono (by decide)) (by rfl) (sim_acons (sim_lc [("factor", 3), ("mark", 4)] rfl sc_is_sum.nd (sim_iseq (sim_ix (ir_all (hu_of hr)) (o2_ix _) (sim_var (pv 0)) sim_int (fun _ _ => rfl))) (blkOk_by (N := N_is_sum) (sc := defScope st_is_sum) (by decide +kernel)) (fun _ _ _ _ _ => (sim_gtup rfl (sim_gscons (sim_gname (i := 3) sc_is_sum.nd rfl (.inl rfl)) (sim_gscons (sim_gname (i := 4) sc_is_sum.nd rfl (.inl rfl)) sim_gsnil)) (gs_lenc (gs_lenc gs_len0)))) (fun _ _ _ _ _ => sim_tsnil) (fun _ _ _ _ _ => (sim_callB call_abs on_abs (by rfl) T.b_abs bt_abs (sim_acons (sim_var (pv 4)) sim_anil))) (by decide)) sim_anil)))))))
/-! weight -/
abbrev st_weight : Stmt := top 8
abbrev N_weight : List Str := ["one", "filling", "factor", "mark"]
theorem sc_weight : FnScope N_weight ["one", "filling"] (defScope st_weight) := ⟨rfl, rfl, rfl, by decide +kernel, rfl, by decide +kernel, by decide +kernel⟩
def b_weight : SM := (sRet (eOpN gSum (aCons (eComp (iSeqM (eOp2 gIx (eVar 0) (eC (.int 0)))) (gTupM (gsCons (gNm 2) (gsCons (gNm 3) gsNil))) [2, 3] (tBool (eCall [false, false] m_is_so (aCons (eVar 3) (aCons (eVar 1) aNil)))) (eVar 2)) aNil)))
def m_weight : List PD → FR := fun ds => (runF N_weight.length [false, false] b_weight ds).calm
theorem me_weight (ds : List PD) : m_weight ds = (runF 4 [false, false] b_weight ds).calm := Eq.trans rfl rfl
theorem ok_weight {f : Addr} {fd : FuncData} {dvs : List V} (F : FnP K "weight" st_weight dvs f fd) (T : Txt K mg) (C_is_so : CalG P w K mg base 1 "is_so" ["mark", "filling"] [false, false] m_is_so) : GFn P w K mg base CX0 2 f fd ["one", "filling"] (spD mg [false, false] m_weight) := fn_simG (b := b_weight) F sc_weight rfl (fun cdv A outer s H E hq hr => (sim_one (sim_ret (sim_callB (cr_sum rfl) (on_sum _) (by rfl) T.b_sum bt_sum (sim_acons (sim_lc [("factor", 2), ("mark", 3)] rfl sc_weight.nd (sim_iseq (sim_ix (ir_all (hu_of hr)) (o2_ix _) (sim_var (pv 0)) sim_int (fun _ _ => rfl))) (blkOk_by (N := N_weight) (sc := defScope st_weight) (by decide +kernel)) (fun _ _ _ _ _ => (sim_gtup rfl (sim_gscons (sim_gname (i := 2) sc_weight.nd rfl (.inl rfl)) (sim_gscons (sim_gname (i := 3) sc_weight.nd rfl (.inl rfl)) sim_gsnil)) (gs_lenc (gs_lenc gs_len0)))) (fun _ _ _ _ _ => (sim_tsone (sim_tval (sim_callG C_is_so hq (hr.mono (by decide)) (by rfl) (sim_acons (sim_var (pv 3)) (sim_acons (sim_var (pv 1)) sim_anil)))))) (fun _ _ _ _ _ => (sim_var (pv 2))) (by decide)) sim_anil)))))
/-! reach -/
abbrev st_reach : Stmt := top 9
abbrev N_reach : List Str := ["one", "factor", "mark"]
theorem sc_reach : FnScope N_reach ["one"] (defScope st_reach) := ⟨rfl, rfl, rfl, by decide +kernel, rfl, by decide +kernel, by decide +kernel⟩
def b_reach : SM := (sRet (eOpN gSum (aCons (eComp (iSeqM (eOp2 gIx (eVar 0) (eC (.int 0)))) (gTupM (gsCons (gNm 1) (gsCons (gNm 2) gsNil))) [1, 2] (retM true) (eVar 1)) aNil)))
def m_reach : List PD → FR := fun ds => (runF N_reach.length [false] b_reach ds).calm
theorem me_reach (ds : List PD) : m_reach ds = (runF 3 [false] b_reach ds).calm := Eq.trans rfl rfl
theorem ok_reach {f : Addr} {fd : FuncData} {dvs : List V} (F : FnP K "reach" st_reach dvs f fd) (T : Txt K mg)  : GFn P w K mg base CX0 1 f fd ["one"] (spD mg [false] m_reach) := fn_simG (b := b_reach) F sc_reach rfl (fun cdv A outer s H E hq hr => (sim_one (sim_ret (sim_callB (cr_sum rfl) (on_sum _) (by rfl) T.b_sum bt_sum (sim_acons (sim_lc [("factor", 1), ("mark", 2)] rfl sc_reach.nd (sim_iseq (sim_ix (ir_all (hu_of hr)) (o2_ix _) (sim_var (pv 0)) sim_int (fun _ _ => rfl))) (blkOk_by (N := N_reach) (sc := defScope st_reach) (by decide +kernel)) (fun _ _ _ _ _ => (sim_gtup rfl (sim_gscons (sim_gname (i := 1) sc_reach.nd rfl (.inl rfl)) (sim_gscons (sim_gname (i := 2) sc_reach.nd rfl (.inl rfl)) sim_gsnil)) (gs_lenc (gs_lenc gs_len0)))) (fun _ _ _ _ _ => sim_tsnil) (fun _ _ _ _ _ => (sim_var (pv 1))) (by decide)) sim_anil)))))
/-! is_held -/
abbrev st_is_held : Stmt := top 10
abbrev N_is_held : List Str := ["one", "filling"]
theorem sc_is_held : FnScope N_is_held ["one", "filling"] (defScope st_is_held) := ⟨rfl, rfl, rfl, by decide +kernel, rfl, by decide +kernel, by decide +kernel⟩
def b_is_held : SM := (sRet (eOp2 gGe (eCall [false, false] m_weight (aCons (eVar 0) (aCons (eVar 1) aNil))) (eOp2 gIx (eVar 0) (eC (.int 1)))))
def m_is_held : List PD → FR := fun ds => (runF N_is_held.length [false, false] b_is_held ds).calm
theorem me_is_held (ds : List PD) : m_is_held ds = (runF 2 [false, false] b_is_held ds).calm := Eq.trans rfl rfl
theorem ok_is_held {f : Addr} {fd : FuncData} {dvs : List V} (F : FnP K "is_held" st_is_held dvs f fd) (T : Txt K mg) (C_weight : CalG P w K mg base 2 "weight" ["one", "filling"] [false, false] m_weight) : GFn P w K mg base CX0 3 f fd ["one", "filling"] (spD mg [false, false] m_is_held) := fn_simG (b := b_is_held) F sc_is_held rfl (fun cdv A outer s H E hq hr => (sim_one (sim_ret (sim_cmp op_ge o2_ge (sim_callG C_weight hq (hr.mono (by decide)) (by rfl) (sim_acons (sim_var (pv 0)) (sim_acons (sim_var (pv 1)) sim_anil))) (sim_ix (ir_all (hu_of hr)) (o2_ix _) (sim_var (pv 0)) sim_int (fun _ _ => rfl)) (nomark _)))))
/-! sum_of -/
abbrev st_sum_of : Stmt := top 11
abbrev N_sum_of : List Str := ["want", "mark"]
theorem sc_sum_of : FnScope N_sum_of ["want"] (defScope st_sum_of) := ⟨rfl, rfl, rfl, by decide +kernel, rfl, by decide +kernel, by decide +kernel⟩
def b_sum_of : SM := (sRet (eTup (aCons (eOpN gTuple (aCons (eComp (iSeqM (eVar 0)) (gNm 1) [1] (retM true) (eTup (aCons (eC (.int 1)) (aCons (eVar 1) aNil)))) aNil)) (aCons (eC (.int 1)) aNil))))
def m_sum_of : List PD → FR := fun ds => (runF N_sum_of.length [false] b_sum_of ds).calm
theorem me_sum_of (ds : List PD) : m_sum_of ds = (runF 2 [false] b_sum_of ds).calm := Eq.trans rfl rfl
theorem ok_sum_of {f : Addr} {fd : FuncData} {dvs : List V} (F : FnP K "sum_of" st_sum_of dvs f fd) (T : Txt K mg)  : GFn P w K mg base CX0 1 f fd ["want"] (spD mg [false] m_sum_of) := fn_simG (b := b_sum_of) F sc_sum_of rfl (fun cdv A outer s H E hq hr => (sim_one (sim_ret (sim_tup (sim_acons (sim_callTy call_tuple_of (on_tuple _) (by rfl) T.b_tuple bt_tuple (sim_acons (sim_lc [("mark", 1)] rfl sc_sum_of.nd (sim_iseq (sim_var (pv 0))) (blkOk_by (N := N_sum_of) (sc := defScope st_sum_of) (by decide +kernel)) (fun _ _ _ _ _ => (sim_gname (i := 1) sc_sum_of.nd rfl (.inl rfl))) (fun _ _ _ _ _ => sim_tsnil) (fun _ _ _ _ _ => (sim_tup (sim_acons sim_int (sim_acons (sim_var (pv 1)) sim_anil)))) (by decide)) sim_anil)) (sim_acons sim_int sim_anil))))))
/-! contrary -/
abbrev st_contrary : Stmt := top 12
abbrev N_contrary : List Str := ["one", "factor", "mark"]
theorem sc_contrary : FnScope N_contrary ["one"] (defScope st_contrary) := ⟨rfl, rfl, rfl, by decide +kernel, rfl, by decide +kernel, by decide +kernel⟩
def b_contrary : SM := (sRet (eTup (aCons (eOpN gTuple (aCons (eComp (iSeqM (eOp2 gIx (eVar 0) (eC (.int 0)))) (gTupM (gsCons (gNm 1) (gsCons (gNm 2) gsNil))) [1, 2] (retM true) (eTup (aCons (eVar 1) (aCons (eOp1 gNeg (eVar 2)) aNil)))) aNil)) (aCons (eOp2 gAdd (eOp2 gSub (eCall [false] m_reach (aCons (eVar 0) aNil)) (eOp2 gIx (eVar 0) (eC (.int 1)))) (eC (.int 1))) aNil))))
def m_contrary : List PD → FR := fun ds => (runF N_contrary.length [false] b_contrary ds).calm
theorem me_contrary (ds : List PD) : m_contrary ds = (runF 3 [false] b_contrary ds).calm := Eq.trans rfl rfl
theorem ok_contrary {f : Addr} {fd : FuncData} {dvs : List V} (F : FnP K "contrary" st_contrary dvs f fd) (T : Txt K mg) (C_reach : CalG P w K mg base 1 "reach" ["one"] [false] m_reach) : GFn P w K mg base CX0 2 f fd ["one"] (spD mg [false] m_contrary) := fn_simG (b := b_contrary) F sc_contrary rfl (fun cdv A outer s H E hq hr => (sim_one (sim_ret (sim_tup (sim_acons (sim_callTy call_tuple_of (on_tuple _) (by rfl) T.b_tuple bt_tuple (sim_acons (sim_lc [("factor", 1), ("mark", 2)] rfl sc_contrary.nd (sim_iseq (sim_ix (ir_all (hu_of hr)) (o2_ix _) (sim_var (pv 0)) sim_int (fun _ _ => rfl))) (blkOk_by (N := N_contrary) (sc := defScope st_contrary) (by decide +kernel)) (fun _ _ _ _ _ => (sim_gtup rfl (sim_gscons (sim_gname (i := 1) sc_contrary.nd rfl (.inl rfl)) (sim_gscons (sim_gname (i := 2) sc_contrary.nd rfl (.inl rfl)) sim_gsnil)) (gs_lenc (gs_lenc gs_len0)))) (fun _ _ _ _ _ => sim_tsnil) (fun _ _ _ _ _ => (sim_tup (sim_acons (sim_var (pv 1)) (sim_acons (sim_un un_neg o1_neg (sim_var (pv 2))) sim_anil)))) (by decide)) sim_anil)) (sim_acons (sim_op or_add (o2_add _) (sim_op op_sub o2_sub (sim_callG C_reach hq (hr.mono (by decide)) (by rfl) (sim_acons (sim_var (pv 0)) sim_anil)) (sim_ix (ir_all (hu_of hr)) (o2_ix _) (sim_var (pv 0)) sim_int (fun _ _ => rfl))) sim_int) sim_anil))))))
/-! _law_pool -/
abbrev st__law_pool : Stmt := top 14
abbrev N__law_pool : List Str := ["_law_script", "_law_k", "_law_cell", "_law_great", "_law_mixed"]
theorem sc__law_pool : FnScope N__law_pool ["_law_script", "_law_k"] (defScope st__law_pool) := ⟨rfl, rfl, rfl, by decide +kernel, rfl, by decide +kernel, by decide +kernel⟩
def b__law_pool : SM := (sSeq (sSet 2 (eOp2 gAdd (eOp2 gMul (eC (.int 11)) (eOpN gSum (aCons (eSlScr 0 63) aNil))) (eVar 1)))
    (sSeq (sIf (tBool (eOp2 gLt (eVar 1) (eLenScr 0))) (sSet 2 (eIxScr' 0 (eVar 1))) sNil)
    (sSeq (sSet 3 (eOpN gAbs (aCons (eVar 2) aNil)))
    (sSeq (sSet 4 (eOp2 gMod (eOp2 gMul (eOp2 gAdd (eOp2 gAdd (eOp2 gAdd (eOp2 gMod (eVar 3) (eC (.int 2147483629))) (eOp2 gMul (eOp2 gMul (eC (.int 7919)) (eVar 1)) (eVar 1))) (eOp2 gMul (eC (.int 31)) (eVar 1))) (eC (.int 17))) (eC (.int 48271))) (eC (.int 2147483647))))
    (sRet (eLst (aCons (eOp2 gMul (eVar 3) (eOpN gInt (aCons (eOp2 gGe (eVar 3) (eOp2 gPow (eC (.int 10)) (eC (.int 18)))) aNil))) (aCons (eOp2 gMod (eOp2 gMul (eVar 4) (eVar 4)) (eC (.int 2147483629))) aNil))))))))
theorem ok__law_pool {f : Addr} {fd : FuncData} {dvs : List V} (F : FnP K "_law_pool" st__law_pool dvs f fd) (T : Txt K mg) (hl : ∀ (ns : List Int) (k : Int), ns.length ≤ 63 → 0 ≤ k → k < 64 → ∃ ρ', b__law_pool (some (.scr ns) :: some (.imm (.int k)) :: List.replicate (N__law_pool.length - 2) none) = .rt (.fresh (poolD ns k)) ρ') : GFn P w K mg base CX0 1 f fd ["_law_script", "_law_k"] (spPool K) := pool_fnG (b := b__law_pool) F sc__law_pool (by decide) (fun cdv A outer s H E hq hr => (sim_seq (sim_set (i := 2) sc__law_pool.nd rfl (.inl rfl) (sim_op or_add (o2_add _) (sim_op or_mul o2_mul sim_int (sim_callB (cr_sum rfl) (on_sum _) (by rfl) T.b_sum bt_sum (sim_acons (sim_slscr (pv 0)) sim_anil))) (sim_var (pv 1))))
    (sim_seq (sim_if (sim_tcmp op_lt o2_lt (sim_var (pv 1)) (sim_lenscr (pv 0) (by rfl) T.b_len bt_len) (nomark _)) (sim_one (sim_set (i := 2) sc__law_pool.nd rfl (.inl rfl) (sim_ixscr (pv 0) (sim_var (pv 1)) (fun _ _ => rfl)))) sim_nil)
    (sim_seq (sim_set (i := 3) sc__law_pool.nd rfl (.inl rfl) (sim_callB call_abs on_abs (by rfl) T.b_abs bt_abs (sim_acons (sim_var (pv 2)) sim_anil)))
    (sim_seq (sim_set (i := 4) sc__law_pool.nd rfl (.inl rfl) (sim_op op_mod o2_mod (sim_op or_mul o2_mul (sim_op or_add (o2_add _) (sim_op or_add (o2_add _) (sim_op or_add (o2_add _) (sim_op op_mod o2_mod (sim_var (pv 3)) sim_int) (sim_op or_mul o2_mul (sim_op or_mul o2_mul sim_int (sim_var (pv 1))) (sim_var (pv 1)))) (sim_op or_mul o2_mul sim_int (sim_var (pv 1)))) sim_int) sim_int) sim_int))
    (sim_one (sim_ret (sim_lst (sim_acons (sim_op or_mul o2_mul (sim_var (pv 3)) (sim_callTy call_int1 on_int (by rfl) T.b_int bt_int (sim_acons (sim_cmp op_ge o2_ge (sim_var (pv 3)) (sim_op op_pow o2_pow sim_int sim_int) (nomark _)) sim_anil))) (sim_acons (sim_op op_mod o2_mod (sim_op or_mul o2_mul (sim_var (pv 4)) (sim_var (pv 4))) sim_int) sim_anil)))))))))) hl
/-! _law_take -/
abbrev st__law_take : Stmt := top 15
abbrev N__law_take : List Str := ["_law_pool_here", "_law_size", "_law_found"]
theorem sc__law_take : FnScope N__law_take ["_law_pool_here", "_law_size"] (defScope st__law_take) := ⟨rfl, rfl, rfl, by decide +kernel, rfl, by decide +kernel, by decide +kernel⟩
def b__law_take : SM := (sSeq (sIf (tBool (eOp2 gGt (eOp2 gIx (eVar 0) (eC (.int 0))) (eC (.int 0)))) (sSeq (sSet 2 (eOp2 gMod (eOp2 gIx (eVar 0) (eC (.int 0))) (eVar 1)))
    (sSeq (sAsgG (eOp2 gFdiv (eOp2 gIx (eVar 0) (eC (.int 0))) (eVar 1)) (sPutIx 0 (eC (.int 0))))
    (sRet (eVar 2)))) sNil)
    (sSeq (sAsgG (eOp2 gMod (eOp2 gAdd (eOp2 gMul (eOp2 gIx (eVar 0) (eC (.int 1))) (eC (.int 48271))) (eC (.int 11))) (eC (.int 2147483647))) (sPutIx 0 (eC (.int 1))))
    (sRet (eOp2 gMod (eOp2 gFdiv (eOp2 gMod (eOp2 gMul (eOp2 gIx (eVar 0) (eC (.int 1))) (eOp2 gIx (eVar 0) (eC (.int 1)))) (eC (.int 2147483629))) (eC (.int 16))) (eVar 1)))))
def m__law_take : List PD → FR := fun ds => (runF N__law_take.length [true, false] b__law_take ds).calm
theorem me__law_take (ds : List PD) : m__law_take ds = (runF 3 [true, false] b__law_take ds).calm := Eq.trans rfl rfl
theorem ok__law_take {f : Addr} {fd : FuncData} {dvs : List V} (F : FnP K "_law_take" st__law_take dvs f fd) (T : Txt K mg)  : GFn P w K mg base CX0 1 f fd ["_law_pool_here", "_law_size"] (spD mg [true, false] m__law_take) := fn_simG (b := b__law_take) F sc__law_take rfl (fun cdv A outer s H E hq hr => (sim_seq (sim_if (sim_tcmp op_gt o2_gt (sim_ix (ir_all (hu_of hr)) (o2_ix _) (sim_var (pv 0)) sim_int (fun _ _ => rfl)) sim_int (nomark _)) (sim_seq (sim_set (i := 2) sc__law_take.nd rfl (.inl rfl) (sim_op op_mod o2_mod (sim_ix (ir_all (hu_of hr)) (o2_ix _) (sim_var (pv 0)) sim_int (fun _ _ => rfl)) (sim_var (pv 1))))
    (sim_seq (sim_asgG (sim_op op_fdivW o2_fdiv (sim_ix (ir_all (hu_of hr)) (o2_ix _) (sim_var (pv 0)) sim_int (fun _ _ => rfl)) (sim_var (pv 1))) (sim_tgsub (hu_of hr) (pv 0) sim_int))
    (sim_one (sim_ret (sim_var (pv 2)))))) sim_nil)
    (sim_seq (sim_asgG (sim_op op_mod o2_mod (sim_op or_add (o2_add _) (sim_op or_mul o2_mul (sim_ix (ir_all (hu_of hr)) (o2_ix _) (sim_var (pv 0)) sim_int (fun _ _ => rfl)) sim_int) sim_int) sim_int) (sim_tgsub (hu_of hr) (pv 0) sim_int))
    (sim_one (sim_ret (sim_op op_mod o2_mod (sim_op op_fdivW o2_fdiv (sim_op op_mod o2_mod (sim_op or_mul o2_mul (sim_ix (ir_all (hu_of hr)) (o2_ix _) (sim_var (pv 0)) sim_int (fun _ _ => rfl)) (sim_ix (ir_all (hu_of hr)) (o2_ix _) (sim_var (pv 0)) sim_int (fun _ _ => rfl))) sim_int) sim_int) (sim_var (pv 1))))))))
/-! _law_fillings -/
abbrev st__law_fillings : Stmt := top 16
abbrev N__law_fillings : List Str := ["_law_size", "_law_found", "_law_turn", "_law_row"]
theorem sc__law_fillings : FnScope N__law_fillings ["_law_size"] (defScope st__law_fillings) := ⟨rfl, rfl, rfl, by decide +kernel, rfl, by decide +kernel, by decide +kernel⟩
def b__law_fillings : SM := (sSeq (sSet 1 (eLst (aCons (eTup aNil) aNil)))
    (sSeq (sFor (iRng1M (aCons (eVar 0) aNil)) (gNm 2) (sSet 1 (eOp2 gAdd (eComp (iSeqM (eVar 1)) (gNm 3) [3] (retM true) (eOp2 gAdd (eVar 3) (eTup (aCons (eC (.bool false)) aNil)))) (eComp (iSeqM (eVar 1)) (gNm 3) [3] (retM true) (eOp2 gAdd (eVar 3) (eTup (aCons (eC (.bool true)) aNil)))))))
    (sRet (eOpN gSorted (aCons (eVar 1) aNil)))))
def m__law_fillings : List PD → FR := fun ds => (runF N__law_fillings.length [false] b__law_fillings ds).calm
theorem me__law_fillings (ds : List PD) : m__law_fillings ds = (runF 4 [false] b__law_fillings ds).calm := Eq.trans rfl rfl
theorem ok__law_fillings {f : Addr} {fd : FuncData} {dvs : List V} (F : FnP K "_law_fillings" st__law_fillings dvs f fd) (T : Txt K mg)  : GFn P w K mg base CX0 1 f fd ["_law_size"] (spD mg [false] m__law_fillings) := fn_simG (b := b__law_fillings) F sc__law_fillings rfl (fun cdv A outer s H E hq hr => (sim_seq (sim_set (i := 1) sc__law_fillings.nd rfl (.inl rfl) (sim_lst (sim_acons (sim_tup sim_anil) sim_anil)))
    (sim_seq (sim_for PassesOwn.never rfl (sim_irng1 (by rfl) T.b_range (sim_acons (sim_var (pv 0)) sim_anil)) (sim_gname (i := 2) sc__law_fillings.nd rfl (.inl rfl)) (sim_one (sim_set (i := 1) sc__law_fillings.nd rfl (.inl rfl) (sim_op or_add (o2_add _) (sim_lc [("_law_row", 3)] rfl sc__law_fillings.nd (sim_iseq (sim_var (pv 1))) (blkOk_by (N := N__law_fillings) (sc := defScope st__law_fillings) (by decide +kernel)) (fun _ _ _ _ _ => (sim_gname (i := 3) sc__law_fillings.nd rfl (.inl rfl))) (fun _ _ _ _ _ => sim_tsnil) (fun _ _ _ _ _ => (sim_op or_add (o2_add _) (sim_var (pv 3)) (sim_tup (sim_acons sim_bl sim_anil)))) (by decide)) (sim_lc [("_law_row", 3)] rfl sc__law_fillings.nd (sim_iseq (sim_var (pv 1))) (blkOk_by (N := N__law_fillings) (sc := defScope st__law_fillings) (by decide +kernel)) (fun _ _ _ _ _ => (sim_gname (i := 3) sc__law_fillings.nd rfl (.inl rfl))) (fun _ _ _ _ _ => sim_tsnil) (fun _ _ _ _ _ => (sim_op or_add (o2_add _) (sim_var (pv 3)) (sim_tup (sim_acons sim_bl sim_anil)))) (by decide))))))
    (sim_one (sim_ret (sim_callB ((cr_sortedD hr.units).or (call_sortedDI rfl)) (on_sorted _) (by rfl) T.b_sorted bt_sorted (sim_acons (sim_var (pv 1)) sim_anil)))))))
/-! _law_is_so -/
abbrev st__law_is_so : Stmt := top 17
abbrev N__law_is_so : List Str := ["_law_mark", "_law_filling"]
theorem sc__law_is_so : FnScope N__law_is_so ["_law_mark", "_law_filling"] (defScope st__law_is_so) := ⟨rfl, rfl, rfl, by decide +kernel, rfl, by decide +kernel, by decide +kernel⟩
def b__law_is_so : SM := (sRet (eOp2 (gEq false) (eOp2 gIx (eVar 1) (eOp2 gSub (eOpN gAbs (aCons (eVar 0) aNil)) (eC (.int 1)))) (eOp2 gGt (eVar 0) (eC (.int 0)))))
def m__law_is_so : List PD → FR := fun ds => (runF N__law_is_so.length [false, false] b__law_is_so ds).calm
theorem me__law_is_so (ds : List PD) : m__law_is_so ds = (runF 2 [false, false] b__law_is_so ds).calm := Eq.trans rfl rfl
theorem ok__law_is_so {f : Addr} {fd : FuncData} {dvs : List V} (F : FnP K "_law_is_so" st__law_is_so dvs f fd) (T : Txt K mg)  : GFn P w K mg base CX0 1 f fd ["_law_mark", "_law_filling"] (spD mg [false, false] m__law_is_so) := fn_simG (b := b__law_is_so) F sc__law_is_so rfl (fun cdv A outer s H E hq hr => (sim_one (sim_ret (sim_cmp (op_eqD hr.units) (o2_eq _) (sim_ix (ir_all (hu_of hr)) (o2_ix _) (sim_var (pv 1)) (sim_op op_sub o2_sub (sim_callB call_abs on_abs (by rfl) T.b_abs bt_abs (sim_acons (sim_var (pv 0)) sim_anil)) sim_int) (fun _ _ => rfl)) (sim_cmp op_gt o2_gt (sim_var (pv 0)) sim_int (nomark _)) (nomark _)))))
/-! _law_holds -/
abbrev st__law_holds : Stmt := top 18
abbrev N__law_holds : List Str := ["_law_want_here", "_law_filling", "_law_mark"]
theorem sc__law_holds : FnScope N__law_holds ["_law_want_here", "_law_filling"] (defScope st__law_holds) := ⟨rfl, rfl, rfl, by decide +kernel, rfl, by decide +kernel, by decide +kernel⟩
def b__law_holds : SM := (sRet (eOp2 (gEq true) (eComp (iSeqM (eVar 0)) (gNm 2) [2] (tBool (eCall [false, false] m__law_is_so (aCons (eVar 2) (aCons (eVar 1) aNil)))) (eVar 2)) (eLst aNil)))
def m__law_holds : List PD → FR := fun ds => (runF N__law_holds.length [false, false] b__law_holds ds).calm
theorem me__law_holds (ds : List PD) : m__law_holds ds = (runF 3 [false, false] b__law_holds ds).calm := Eq.trans rfl rfl
theorem ok__law_holds {f : Addr} {fd : FuncData} {dvs : List V} (F : FnP K "_law_holds" st__law_holds dvs f fd) (T : Txt K mg) (C__law_is_so : CalG P w K mg base 1 "_law_is_so" ["_law_mark", "_law_filling"] [false, false] m__law_is_so) : GFn P w K mg base CX0 2 f fd ["_law_want_here", "_law_filling"] (spD mg [false, false] m__law_holds) := fn_simG (b := b__law_holds) F sc__law_holds rfl (fun cdv A outer s H E hq hr => (sim_one (sim_ret (sim_cmp (op_neD hr.units) (o2_ne _) (sim_lc [("_law_mark", 2)] rfl sc__law_holds.nd (sim_iseq (sim_var (pv 0))) (blkOk_by (N := N__law_holds) (sc := defScope st__law_holds) (by decide +kernel)) (fun _ _ _ _ _ => (sim_gname (i := 2) sc__law_holds.nd rfl (.inl rfl))) (fun _ _ _ _ _ => (sim_tsone (sim_tval (sim_callG C__law_is_so hq (hr.mono (by decide)) (by rfl) (sim_acons (sim_var (pv 2)) (sim_acons (sim_var (pv 1)) sim_anil)))))) (fun _ _ _ _ _ => (sim_var (pv 2))) (by decide)) (sim_lst sim_anil) (nomark _)))))
/-! _law_want -/
abbrev st__law_want : Stmt := top 19
abbrev N__law_want : List Str := ["_law_pool_here", "_law_size", "_law_most", "_law_found", "_law_box", "_law_way"]
theorem sc__law_want : FnScope N__law_want ["_law_pool_here", "_law_size", "_law_most"] (defScope st__law_want) := ⟨rfl, rfl, rfl, by decide +kernel, rfl, by decide +kernel, by decide +kernel⟩
def b__law_want : SM := (sSeq (sSet 3 (eLst aNil))
    (sSeq (sFor (iRng2M (aCons (eC (.int 1)) (aCons (eOp2 gAdd (eVar 1) (eC (.int 1))) aNil))) (gNm 4) (sSeq (sSet 5 (eCall [true, false] m__law_take (aCons (eVar 0) (aCons (eC (.int 3)) aNil))))
    (sIf (tAndM (tBool (eOp2 gLt (eVar 5) (eC (.int 2)))) (tBool (eOp2 gLt (eOpN gLen (aCons (eVar 3) aNil)) (eVar 2)))) (sApp 3 (eOp2 gIx (eLst (aCons (eVar 4) (aCons (eOp2 gSub (eC (.int 0)) (eVar 4)) aNil))) (eVar 5))) sNil)))
    (sRet (eOpN gTuple (aCons (eVar 3) aNil)))))
def m__law_want : List PD → FR := fun ds => (runF N__law_want.length [true, false, false] b__law_want ds).calm
theorem me__law_want (ds : List PD) : m__law_want ds = (runF 6 [true, false, false] b__law_want ds).calm := Eq.trans rfl rfl
theorem ok__law_want {f : Addr} {fd : FuncData} {dvs : List V} (F : FnP K "_law_want" st__law_want dvs f fd) (T : Txt K mg) (C__law_take : CalG P w K mg base 1 "_law_take" ["_law_pool_here", "_law_size"] [true, false] m__law_take) : GFn P w K mg base CX0 2 f fd ["_law_pool_here", "_law_size", "_law_most"] (spD mg [true, false, false] m__law_want) := fn_simG (b := b__law_want) F sc__law_want rfl (fun cdv A outer s H E hq hr => (sim_seq (sim_set (i := 3) sc__law_want.nd rfl (.inl rfl) (sim_lst sim_anil))
    (sim_seq (sim_for PassesOwn.never rfl (sim_irng2 (by rfl) T.b_range (sim_acons sim_int (sim_acons (sim_op or_add (o2_add _) (sim_var (pv 1)) sim_int) sim_anil))) (sim_gname (i := 4) sc__law_want.nd rfl (.inl rfl)) (sim_seq (sim_set (i := 5) sc__law_want.nd rfl (.inl rfl) (sim_callG C__law_take hq (hr.mono (by decide)) (by rfl) (sim_acons (sim_var (pv 0)) (sim_acons sim_int sim_anil))))
    (sim_one (sim_if (SimW.t (sim_wand (sim_tcmp op_lt o2_lt (sim_var (pv 5)) sim_int (nomark _)) (sim_wand1 (sim_tcmp op_lt o2_lt (sim_callB call_len (on_len _) (by rfl) T.b_len bt_len (sim_acons (sim_var (pv 3)) sim_anil)) (sim_var (pv 2)) (nomark _))))) (sim_one (sim_app (i := 3) (pv 3) (sim_ix (ir_all (hu_of hr)) (o2_ix _) (sim_lst (sim_acons (sim_var (pv 4)) (sim_acons (sim_op op_sub o2_sub sim_int (sim_var (pv 4))) sim_anil))) (sim_var (pv 5)) (fun _ _ => rfl)))) sim_nil))))
    (sim_one (sim_ret (sim_callTy call_tuple_of (on_tuple _) (by rfl) T.b_tuple bt_tuple (sim_acons (sim_var (pv 3)) sim_anil)))))))
/-! _law_weight -/
abbrev st__law_weight : Stmt := top 20
abbrev N__law_weight : List Str := ["_law_one", "_law_filling", "_law_factor", "_law_mark"]
theorem sc__law_weight : FnScope N__law_weight ["_law_one", "_law_filling"] (defScope st__law_weight) := ⟨rfl, rfl, rfl, by decide +kernel, rfl, by decide +kernel, by decide +kernel⟩
def b__law_weight : SM := (sRet (eOpN gSum (aCons (eComp (iSeqM (eOp2 gIx (eVar 0) (eC (.int 0)))) (gTupM (gsCons (gNm 2) (gsCons (gNm 3) gsNil))) [2, 3] (tBool (eCall [false, false] m__law_is_so (aCons (eVar 3) (aCons (eVar 1) aNil)))) (eVar 2)) aNil)))
def m__law_weight : List PD → FR := fun ds => (runF N__law_weight.length [false, false] b__law_weight ds).calm
theorem me__law_weight (ds : List PD) : m__law_weight ds = (runF 4 [false, false] b__law_weight ds).calm := Eq.trans rfl rfl
theorem ok__law_weight {f : Addr} {fd : FuncData} {dvs : List V} (F : FnP K "_law_weight" st__law_weight dvs f fd) (T : Txt K mg) (C__law_is_so : CalG P w K mg base 1 "_law_is_so" ["_law_mark", "_law_filling"] [false, false] m__law_is_so) : GFn P w K mg base CX0 2 f fd ["_law_one", "_law_filling"] (spD mg [false, false] m__law_weight) := fn_simG (b := b__law_weight) F sc__law_weight rfl (fun cdv A outer s H E hq hr => (sim_one (sim_ret (sim_callB (cr_sum rfl) (on_sum _) (by rfl) T.b_sum bt_sum (sim_acons (sim_lc [("_law_factor", 2), ("_law_mark", 3)] rfl sc__law_weight.nd (sim_iseq (sim_ix (ir_all (hu_of hr)) (o2_ix _) (sim_var (pv 0)) sim_int (fun _ _ => rfl))) (blkOk_by (N := N__law_weight) (sc := defScope st__law_weight) (by decide +kernel)) (fun _ _ _ _ _ => (sim_gtup rfl (sim_gscons (sim_gname (i := 2) sc__law_weight.nd rfl (.inl rfl)) (sim_gscons (sim_gname (i := 3) sc__law_weight.nd rfl (.inl rfl)) sim_gsnil)) (gs_lenc (gs_lenc gs_len0)))) (fun _ _ _ _ _ => (sim_tsone (sim_tval (sim_callG C__law_is_so hq (hr.mono (by decide)) (by rfl) (sim_acons (sim_var (pv 3)) (sim_acons (sim_var (pv 1)) sim_anil)))))) (fun _ _ _ _ _ => (sim_var (pv 2))) (by decide)) sim_anil)))))
/-! _law_reach -/
abbrev st__law_reach : Stmt := top 21
abbrev N__law_reach : List Str := ["_law_one", "_law_factor", "_law_mark"]
theorem sc__law_reach : FnScope N__law_reach ["_law_one"] (defScope st__law_reach) := ⟨rfl, rfl, rfl, by decide +kernel, rfl, by decide +kernel, by decide +kernel⟩
def b__law_reach : SM := (sRet (eOpN gSum (aCons (eComp (iSeqM (eOp2 gIx (eVar 0) (eC (.int 0)))) (gTupM (gsCons (gNm 1) (gsCons (gNm 2) gsNil))) [1, 2] (retM true) (eVar 1)) aNil)))
def m__law_reach : List PD → FR := fun ds => (runF N__law_reach.length [false] b__law_reach ds).calm
theorem me__law_reach (ds : List PD) : m__law_reach ds = (runF 3 [false] b__law_reach ds).calm := Eq.trans rfl rfl
theorem ok__law_reach {f : Addr} {fd : FuncData} {dvs : List V} (F : FnP K "_law_reach" st__law_reach dvs f fd) (T : Txt K mg)  : GFn P w K mg base CX0 1 f fd ["_law_one"] (spD mg [false] m__law_reach) := fn_simG (b := b__law_reach) F sc__law_reach rfl (fun cdv A outer s H E hq hr => (sim_one (sim_ret (sim_callB (cr_sum rfl) (on_sum _) (by rfl) T.b_sum bt_sum (sim_acons (sim_lc [("_law_factor", 1), ("_law_mark", 2)] rfl sc__law_reach.nd (sim_iseq (sim_ix (ir_all (hu_of hr)) (o2_ix _) (sim_var (pv 0)) sim_int (fun _ _ => rfl))) (blkOk_by (N := N__law_reach) (sc := defScope st__law_reach) (by decide +kernel)) (fun _ _ _ _ _ => (sim_gtup rfl (sim_gscons (sim_gname (i := 1) sc__law_reach.nd rfl (.inl rfl)) (sim_gscons (sim_gname (i := 2) sc__law_reach.nd rfl (.inl rfl)) sim_gsnil)) (gs_lenc (gs_lenc gs_len0)))) (fun _ _ _ _ _ => sim_tsnil) (fun _ _ _ _ _ => (sim_var (pv 1))) (by decide)) sim_anil)))))
/-! _law_is_held -/
abbrev st__law_is_held : Stmt := top 22
abbrev N__law_is_held : List Str := ["_law_one", "_law_filling"]
theorem sc__law_is_held : FnScope N__law_is_held ["_law_one", "_law_filling"] (defScope st__law_is_held) := ⟨rfl, rfl, rfl, by decide +kernel, rfl, by decide +kernel, by decide +kernel⟩
def b__law_is_held : SM := (sRet (eOp2 gGe (eCall [false, false] m__law_weight (aCons (eVar 0) (aCons (eVar 1) aNil))) (eOp2 gIx (eVar 0) (eC (.int 1)))))
def m__law_is_held : List PD → FR := fun ds => (runF N__law_is_held.length [false, false] b__law_is_held ds).calm
theorem me__law_is_held (ds : List PD) : m__law_is_held ds = (runF 2 [false, false] b__law_is_held ds).calm := Eq.trans rfl rfl
theorem ok__law_is_held {f : Addr} {fd : FuncData} {dvs : List V} (F : FnP K "_law_is_held" st__law_is_held dvs f fd) (T : Txt K mg) (C__law_weight : CalG P w K mg base 2 "_law_weight" ["_law_one", "_law_filling"] [false, false] m__law_weight) : GFn P w K mg base CX0 3 f fd ["_law_one", "_law_filling"] (spD mg [false, false] m__law_is_held) := fn_simG (b := b__law_is_held) F sc__law_is_held rfl (fun cdv A outer s H E hq hr => (sim_one (sim_ret (sim_cmp op_ge o2_ge (sim_callG C__law_weight hq (hr.mono (by decide)) (by rfl) (sim_acons (sim_var (pv 0)) (sim_acons (sim_var (pv 1)) sim_anil))) (sim_ix (ir_all (hu_of hr)) (o2_ix _) (sim_var (pv 0)) sim_int (fun _ _ => rfl)) (nomark _)))))
/-! _law_sum -/
abbrev st__law_sum : Stmt := top 23
abbrev N__law_sum : List Str := ["_law_pool_here", "_law_size", "_law_terms", "_law_box", "_law_factor", "_law_total", "_law_mark", "_law_least"]
theorem sc__law_sum : FnScope N__law_sum ["_law_pool_here", "_law_size"] (defScope st__law_sum) := ⟨rfl, rfl, rfl, by decide +kernel, rfl, by decide +kernel, by decide +kernel⟩
def b__law_sum : SM := (sSeq (sSet 2 (eLst aNil))
    (sSeq (sFor (iRng2M (aCons (eC (.int 1)) (aCons (eOp2 gAdd (eVar 1) (eC (.int 1))) aNil))) (gNm 3) (sIf (tBool (eOp2 gGt (eCall [true, false] m__law_take (aCons (eVar 0) (aCons (eC (.int 3)) aNil))) (eC (.int 0)))) (sSeq (sSet 4 (eOp2 gIx (eLst (aCons (eC (.int 1)) (aCons (eC (.int 1)) (aCons (eC (.int 1)) (aCons (eC (.int 2)) (aCons (eC (.int 3)) (aCons (eC (.int 7)) (aCons (eOp2 gPow (eC (.int 10)) (eC (.int 20))) aNil)))))))) (eCall [true, false] m__law_take (aCons (eVar 0) (aCons (eC (.int 7)) aNil)))))
    (sApp 2 (eTup (aCons (eVar 4) (aCons (eOp2 gIx (eLst (aCons (eVar 3) (aCons (eOp2 gSub (eC (.int 0)) (eVar 3)) aNil))) (eCall [true, false] m__law_take (aCons (eVar 0) (aCons (eC (.int 2)) aNil)))) aNil))))) sNil))
    (sSeq (sSet 5 (eOpN gSum (aCons (eComp (iSeqM (eVar 2)) (gTupM (gsCons (gNm 4) (gsCons (gNm 6) gsNil))) [4, 6] (retM true) (eVar 4)) aNil)))
    (sSeq (sSet 7 (eOp2 gIx (eLst (aCons (eC (.int 1)) (aCons (eC (.int 1)) (aCons (eC (.int 2)) (aCons (eVar 5) (aCons (eOp2 gAdd (eVar 5) (eC (.int 1))) (aCons (eC (.int 0)) (aCons (eOp1 gNeg (eC (.int 3))) (aCons (eOp2 gAdd (eC (.int 1)) (eOp2 gFdiv (eVar 5) (eC (.int 2)))) aNil))))))))) (eCall [true, false] m__law_take (aCons (eVar 0) (aCons (eC (.int 8)) aNil)))))
    (sRet (eTup (aCons (eOpN gTuple (aCons (eVar 2) aNil)) (aCons (eVar 7) aNil))))))))
def m__law_sum : List PD → FR := fun ds => (runF N__law_sum.length [true, false] b__law_sum ds).calm
theorem me__law_sum (ds : List PD) : m__law_sum ds = (runF 8 [true, false] b__law_sum ds).calm := Eq.trans rfl rfl
theorem ok__law_sum {f : Addr} {fd : FuncData} {dvs : List V} (F : FnP K "_law_sum" st__law_sum dvs f fd) (T : Txt K mg) (C__law_take : CalG P w K mg base 1 "_law_take" ["_law_pool_here", "_law_size"] [true, false] m__law_take) : GFn P w K mg base CX0 2 f fd ["_law_pool_here", "_law_size"] (spD mg [true, false] m__law_sum) := fn_simG (b := b__law_sum) F sc__law_sum rfl (fun cdv A outer s H E hq hr => (sim_seq (sim_set (i := 2) sc__law_sum.nd rfl (.inl rfl) (sim_lst sim_anil))
    (sim_seq (sim_for PassesOwn.never rfl (sim_irng2 (by rfl) T.b_range (sim_acons sim_int (sim_acons (sim_op or_add (o2_add _) (sim_var (pv 1)) sim_int) sim_anil))) (sim_gname (i := 3) sc__law_sum.nd rfl (.inl rfl)) (sim_one (sim_if (sim_tcmp op_gt o2_gt (sim_callG C__law_take hq (hr.mono (by decide)) (by rfl) (sim_acons (sim_var (pv 0)) (sim_acons sim_int sim_anil))) sim_int (nomark _)) (sim_seq (sim_set (i := 4) sc__law_sum.nd rfl (.inl rfl) (sim_ix (ir_all (hu_of hr)) (o2_ix _) (sim_lst (sim_acons sim_int (sim_acons sim_int (sim_acons sim_int (sim_acons sim_int (sim_acons sim_int (sim_acons sim_int (sim_acons (sim_op op_pow o2_pow sim_int sim_int) sim_anil)))))))) (sim_callG C__law_take hq (hr.mono (by decide)) (by rfl) (sim_acons (sim_var (pv 0)) (sim_acons sim_int sim_anil))) (fun _ _ => rfl)))
    (sim_one (sim_app (i := 2) (pv 2) (sim_tup (sim_acons (sim_var (pv 4)) (sim_acons (sim_ix (ir_all (hu_of hr)) (o2_ix _) (sim_lst (sim_acons (sim_var (pv 3)) (sim_acons (sim_op op_sub o2_sub sim_int (sim_var (pv 3))) sim_anil))) (sim_callG C__law_take hq (hr.mono (by decide)) (by rfl) (sim_acons (sim_var (pv 0)) (sim_acons sim_int sim_anil))) (fun _ _ => rfl)) sim_anil)))))) sim_nil)))
    (sim_seq (sim_set (i := 5) sc__law_sum.nd rfl (.inl rfl) (sim_callB (cr_sum rfl) (on_sum _) (by rfl) T.b_sum bt_sum (sim_acons (sim_lc [("_law_factor", 4), ("_law_mark", 6)] rfl sc__law_sum.nd (sim_iseq (sim_var (pv 2))) (blkOk_by (N := N__law_sum) (sc := defScope st__law_sum) (by decide +kernel)) (fun _ _ _ _ _ => (sim_gtup rfl (sim_gscons (sim_gname (i := 4) sc__law_sum.nd rfl (.inl rfl)) (sim_gscons (sim_gname (i := 6) sc__law_sum.nd rfl (.inl rfl)) sim_gsnil)) (gs_lenc (gs_lenc gs_len0)))) (fun _ _ _ _ _ => sim_tsnil) (fun _ _ _ _ _ => (sim_var (pv 4))) (by decide)) sim_anil)))
    (sim_seq (sim_set (i := 7) sc__law_sum.nd rfl (.inl rfl) (sim_ix (ir_all (hu_of hr)) (o2_ix _) (sim_lst (sim_acons sim_int (sim_acons sim_int (sim_acons sim_int (sim_acons (sim_var (pv 5)) (sim_acons (sim_op or_add (o2_add _) (sim_var (pv 5)) sim_int) (sim_acons sim_int (sim_acons (sim_un un_neg o1_neg sim_int) (sim_acons (sim_op or_add (o2_add _) sim_int (sim_op op_fdivW o2_fdiv (sim_var (pv 5)) sim_int)) sim_anil))))))))) (sim_callG C__law_take hq (hr.mono (by decide)) (by rfl) (sim_acons (sim_var (pv 0)) (sim_acons sim_int sim_anil))) (fun _ _ => rfl)))
    (sim_one (sim_ret (sim_tup (sim_acons (sim_callTy call_tuple_of (on_tuple _) (by rfl) T.b_tuple bt_tuple (sim_acons (sim_var (pv 2)) sim_anil)) (sim_acons (sim_var (pv 7)) sim_anil))))))))))
/-! _law_is_whole -/
abbrev st__law_is_whole : Stmt := top 24
abbrev N__law_is_whole : List Str := ["_law_item"]
theorem sc__law_is_whole : FnScope N__law_is_whole ["_law_item"] (defScope st__law_is_whole) := ⟨rfl, rfl, rfl, by decide +kernel, rfl, by decide +kernel, by decide +kernel⟩
def b__law_is_whole : SM := (sRet (eAndV (eIsi "int" (eVar 0)) (eNotV (eIsi "bool" (eVar 0)))))
def m__law_is_whole : List PD → FR := fun ds => (runF N__law_is_whole.length [false] b__law_is_whole ds).calm
theorem me__law_is_whole (ds : List PD) : m__law_is_whole ds = (runF 1 [false] b__law_is_whole ds).calm := Eq.trans rfl rfl
theorem ok__law_is_whole {f : Addr} {fd : FuncData} {dvs : List V} (F : FnP K "_law_is_whole" st__law_is_whole dvs f fd) (T : Txt K mg)  : GFn P w K mg base CX0 1 f fd ["_law_item"] (spD mg [false] m__law_is_whole) := fn_simG (b := b__law_is_whole) F sc__law_is_whole rfl (fun cdv A outer s H E hq hr => (sim_one (sim_ret (sim_vand (sim_isi (by rfl) T.b_isinstance bt_isinstance (by rfl) T.b_int bt_int (sim_var (pv 0))) (sim_vone (sim_vnot (sim_isi (by rfl) T.b_isinstance bt_isinstance (by rfl) T.b_bool bt_bool (sim_var (pv 0)))))))))
/-! _law_is_sum -/
abbrev st__law_is_sum : Stmt := top 25
abbrev N__law_is_sum : List Str := ["_law_item", "_law_size", "_law_last", "_law_term"]
theorem sc__law_is_sum : FnScope N__law_is_sum ["_law_item", "_law_size"] (defScope st__law_is_sum) := ⟨rfl, rfl, rfl, by decide +kernel, rfl, by decide +kernel, by decide +kernel⟩
def b__law_is_sum : SM := (sSeq (sIf (tOrM (tNotM (tBool (eIsi "tuple" (eVar 0)))) (tOrM (tBool (eOp2 (gEq true) (eOpN gLen (aCons (eVar 0) aNil)) (eC (.int 2)))) (tOrM (tNotM (tBool (eIsi "tuple" (eOp2 gIx (eVar 0) (eC (.int 0)))))) (tNotM (tBool (eCall [false] m__law_is_whole (aCons (eOp2 gIx (eVar 0) (eC (.int 1))) aNil))))))) (sRet (eC (.bool false))) sNil)
    (sSeq (sSet 2 (eC (.int 0)))
    (sSeq (sFor (iSeqM (eOp2 gIx (eVar 0) (eC (.int 0)))) (gNm 3) (sSeq (sIf (tOrM (tNotM (tBool (eIsi "tuple" (eVar 3)))) (tOrM (tBool (eOp2 (gEq true) (eOpN gLen (aCons (eVar 3) aNil)) (eC (.int 2)))) (tOrM (tNotM (tBool (eCall [false] m__law_is_whole (aCons (eOp2 gIx (eVar 3) (eC (.int 0))) aNil)))) (tNotM (tBool (eCall [false] m__law_is_whole (aCons (eOp2 gIx (eVar 3) (eC (.int 1))) aNil))))))) (sRet (eC (.bool false))) sNil)
    (sSeq (sIf (tOrM (tBool (eOp2 gLt (eOp2 gIx (eVar 3) (eC (.int 0))) (eC (.int 1)))) (tNotM (tBool (eChain gLt gLe (eVar 2) (eOpN gAbs (aCons (eOp2 gIx (eVar 3) (eC (.int 1))) aNil)) (eVar 1))))) (sRet (eC (.bool false))) sNil)
    (sSet 2 (eOpN gAbs (aCons (eOp2 gIx (eVar 3) (eC (.int 1))) aNil))))))
    (sRet (eC (.bool true))))))
def m__law_is_sum : List PD → FR := fun ds => (runF N__law_is_sum.length [false, false] b__law_is_sum ds).calm
theorem me__law_is_sum (ds : List PD) : m__law_is_sum ds = (runF 4 [false, false] b__law_is_sum ds).calm := Eq.trans rfl rfl
theorem ok__law_is_sum {f : Addr} {fd : FuncData} {dvs : List V} (F : FnP K "_law_is_sum" st__law_is_sum dvs f fd) (T : Txt K mg) (C__law_is_whole : CalG P w K mg base 1 "_law_is_whole" ["_law_item"] [false] m__law_is_whole) : GFn P w K mg base CX0 2 f fd ["_law_item", "_law_size"] (spD mg [false, false] m__law_is_sum) := fn_simG (b := b__law_is_sum) F sc__law_is_sum rfl (fun cdv A outer s H E hq hr => (sim_seq (sim_if (SimW.t (sim_wor (sim_tnot (sim_tval (sim_isi (by rfl) T.b_isinstance bt_isinstance (by rfl) T.b_tuple bt_tuple (sim_var (pv 0))))) (sim_wor (sim_tcmp (op_neD hr.units) (o2_ne _) (sim_callB call_len (on_len _) (by rfl) T.b_len bt_len (sim_acons (sim_var (pv 0)) sim_anil)) sim_int (nomark _)) (sim_wor (sim_tnot (sim_tval (sim_isi (by rfl) T.b_isinstance bt_isinstance (by rfl) T.b_tuple bt_tuple (sim_ix (ir_all (hu_of hr)) (o2_ix _) (sim_var (pv 0)) sim_int (fun _ _ => rfl))))) (sim_wor1 (sim_tnot (sim_tval (sim_callG C__law_is_whole hq (hr.mono (by decide)) (by rfl) (sim_acons (sim_ix (ir_all (hu_of hr)) (o2_ix _) (sim_var (pv 0)) sim_int (fun _ _ => rfl)) sim_anil))))))))) (sim_one (sim_ret sim_bl)) sim_nil)
    (sim_seq (sim_set (i := 2) sc__law_is_sum.nd rfl (.inl rfl) sim_int)
    (sim_seq (sim_for PassesOwn.never rfl (sim_iseq (sim_ix (ir_all (hu_of hr)) (o2_ix _) (sim_var (pv 0)) sim_int (fun _ _ => rfl))) (sim_gname (i := 3) sc__law_is_sum.nd rfl (.inl rfl)) (sim_seq (sim_if (SimW.t (sim_wor (sim_tnot (sim_tval (sim_isi (by rfl) T.b_isinstance bt_isinstance (by rfl) T.b_tuple bt_tuple (sim_var (pv 3))))) (sim_wor (sim_tcmp (op_neD hr.units) (o2_ne _) (sim_callB call_len (on_len _) (by rfl) T.b_len bt_len (sim_acons (sim_var (pv 3)) sim_anil)) sim_int (nomark _)) (sim_wor (sim_tnot (sim_tval (sim_callG C__law_is_whole hq (hr.mono (by decide)) (by rfl) (sim_acons (sim_ix (ir_all (hu_of hr)) (o2_ix _) (sim_var (pv 3)) sim_int (fun _ _ => rfl)) sim_anil)))) (sim_wor1 (sim_tnot (sim_tval (sim_callG C__law_is_whole hq (hr.mono (by decide)) (by rfl) (sim_acons (sim_ix (ir_all (hu_of hr)) (o2_ix _) (sim_var (pv 3)) sim_int (fun _ _ => rfl)) sim_anil))))))))) (sim_one (sim_ret sim_bl)) sim_nil)
    (sim_seq (sim_if (SimW.t (sim_wor (sim_tcmp op_lt o2_lt (sim_ix (ir_all (hu_of hr)) (o2_ix _) (sim_var (pv 3)) sim_int (fun _ _ => rfl)) sim_int (nomark _)) (sim_wor1 (sim_tnot (sim_tchain op_lt op_le o2_lt o2_le (sim_var (pv 2)) (sim_callB call_abs on_abs (by rfl) T.b_abs bt_abs (sim_acons (sim_ix (ir_all (hu_of hr)) (o2_ix _) (sim_var (pv 3)) sim_int (fun _ _ => rfl)) sim_anil)) (sim_var (pv 1))))))) (sim_one (sim_ret sim_bl)) sim_nil)
    (sim_one (sim_set (i := 2) sc__law_is_sum.nd rfl (.inl rfl) (sim_callB call_abs on_abs (by rfl) T.b_abs bt_abs (sim_acons (sim_ix (ir_all (hu_of hr)) (o2_ix _) (sim_var (pv 3)) sim_int (fun _ _ => rfl)) sim_anil)))))))
    (sim_one (sim_ret sim_bl))))))
/-! _law_bent -/
abbrev st__law_bent : Stmt := top 26
abbrev N__law_bent : List Str := ["_law_pool_here", "_law_one", "_law_size", "_law_terms", "_law_least", "_law_at", "_law_odd", "_law_longer", "_law_some"]
theorem sc__law_bent : FnScope N__law_bent ["_law_pool_here", "_law_one", "_law_size"] (defScope st__law_bent) := ⟨rfl, rfl, rfl, by decide +kernel, rfl, by decide +kernel, by decide +kernel⟩
def b__law_bent : SM := (sSeq (sAsg (eVar 1) (gTupM (gsCons (gNm 3) (gsCons (gNm 4) gsNil))))
    (sSeq (sSet 5 (eCall [true, false] m__law_take (aCons (eVar 0) (aCons (eOp2 gAdd (eOpN gLen (aCons (eVar 3) aNil)) (eC (.int 1))) aNil))))
    (sSeq (sSet 6 (eLst (aCons (eTup (aCons (eC (.int 0)) (aCons (eC (.int 1)) aNil))) (aCons (eTup (aCons (eC (.int 1)) (aCons (eC (.int 0)) aNil))) (aCons (eTup (aCons (eOp1 gNeg (eC (.int 1))) (aCons (eC (.int 1)) aNil))) (aCons (eTup (aCons (eC (.int 1)) (aCons (eOp2 gAdd (eVar 2) (eC (.int 1))) aNil))) (aCons (eTup (aCons (eC (.bool true)) (aCons (eC (.int 1)) aNil))) (aCons (eTup (aCons (eC (.int 1)) (aCons (eC (.bool true)) aNil))) (aCons (eTup (aCons (eC (.int 1)) aNil)) (aCons (eLst (aCons (eC (.int 1)) (aCons (eC (.int 1)) aNil))) (aCons (eC .none) (aCons (eTup (aCons (eC (.int 1)) (aCons (eC (.int 1)) aNil))) (aCons (eTup (aCons (eC (.str "1")) (aCons (eC (.int 1)) aNil))) aNil)))))))))))))
    (sSeq (sSet 6 (eOp2 gAdd (eVar 6) (eLst (aCons (eTup (aCons (eC (.int 1)) (aCons (eC (.int 1)) (aCons (eC (.int 1)) aNil)))) (aCons (eTup (aCons (eC (.int 1)) (aCons (eC .none) aNil))) (aCons (eTup (aCons (eC (.int 1)) (aCons (eC (.str "1")) aNil))) (aCons (eTup (aCons (eC (.int 1)) (aCons (eLst (aCons (eC (.int 1)) aNil)) aNil))) aNil)))))))
    (sSeq (sSet 7 (eOp2 gAdd (eOp2 gAdd (eSl (eVar 3) none (some (eVar 5))) (eTup (aCons (eOp2 gIx (eVar 6) (eCall [true, false] m__law_take (aCons (eVar 0) (aCons (eC (.int 15)) aNil)))) aNil))) (eSl (eVar 3) (some (eVar 5)) none)))
    (sSeq (sSet 8 (eLst (aCons (eTup (aCons (eVar 7) (aCons (eVar 4) aNil))) (aCons (eTup (aCons (eVar 3) (aCons (eC .none) aNil))) (aCons (eTup (aCons (eVar 3) (aCons (eC (.bool true)) aNil))) (aCons (eTup (aCons (eOpN gList (aCons (eVar 3) aNil)) (aCons (eVar 4) aNil))) (aCons (eTup (aCons (eVar 3) aNil)) (aCons (eLst (aCons (eVar 3) (aCons (eVar 4) aNil))) (aCons (eVar 3) (aCons (eC .none) aNil))))))))))
    (sRet (eOp2 gIx (eOp2 gAdd (eVar 8) (eLst (aCons (eTup (aCons (eRevT (eVar 3)) (aCons (eVar 4) aNil))) (aCons (eTup (aCons (eVar 3) (aCons (eVar 4) (aCons (eC (.int 0)) aNil)))) (aCons (eTup (aCons (eOp2 gAdd (eVar 3) (eVar 3)) (aCons (eVar 4) aNil))) (aCons (eC (.str "sum")) aNil)))))) (eCall [true, false] m__law_take (aCons (eVar 0) (aCons (eC (.int 12)) aNil)))))))))))
def m__law_bent : List PD → FR := fun ds => (runF N__law_bent.length [true, false, false] b__law_bent ds).calm
theorem me__law_bent (ds : List PD) : m__law_bent ds = (runF 9 [true, false, false] b__law_bent ds).calm := Eq.trans rfl rfl
theorem ok__law_bent {f : Addr} {fd : FuncData} {dvs : List V} (F : FnP K "_law_bent" st__law_bent dvs f fd) (T : Txt K mg) (C__law_take : CalG P w K mg base 1 "_law_take" ["_law_pool_here", "_law_size"] [true, false] m__law_take) : GFn P w K mg base CX0 2 f fd ["_law_pool_here", "_law_one", "_law_size"] (spD mg [true, false, false] m__law_bent) := fn_simG (b := b__law_bent) F sc__law_bent rfl (fun cdv A outer s H E hq hr => (sim_seq (sim_asg (sim_var (pv 1)) (sim_gtup rfl (sim_gscons (sim_gname (i := 3) sc__law_bent.nd rfl (.inl rfl)) (sim_gscons (sim_gname (i := 4) sc__law_bent.nd rfl (.inl rfl)) sim_gsnil)) (gs_lenc (gs_lenc gs_len0))))
    (sim_seq (sim_set (i := 5) sc__law_bent.nd rfl (.inl rfl) (sim_callG C__law_take hq (hr.mono (by decide)) (by rfl) (sim_acons (sim_var (pv 0)) (sim_acons (sim_op or_add (o2_add _) (sim_callB call_len (on_len _) (by rfl) T.b_len bt_len (sim_acons (sim_var (pv 3)) sim_anil)) sim_int) sim_anil))))
    (sim_seq (sim_set (i := 6) sc__law_bent.nd rfl (.inl rfl) (sim_lst (sim_acons (sim_tup (sim_acons sim_int (sim_acons sim_int sim_anil))) (sim_acons (sim_tup (sim_acons sim_int (sim_acons sim_int sim_anil))) (sim_acons (sim_tup (sim_acons (sim_un un_neg o1_neg sim_int) (sim_acons sim_int sim_anil))) (sim_acons (sim_tup (sim_acons sim_int (sim_acons (sim_op or_add (o2_add _) (sim_var (pv 2)) sim_int) sim_anil))) (sim_acons (sim_tup (sim_acons sim_bl (sim_acons sim_int sim_anil))) (sim_acons (sim_tup (sim_acons sim_int (sim_acons sim_bl sim_anil))) (sim_acons (sim_tup (sim_acons sim_int sim_anil)) (sim_acons (sim_lst (sim_acons sim_int (sim_acons sim_int sim_anil))) (sim_acons sim_non (sim_acons (sim_tup (sim_acons sim_int (sim_acons sim_int sim_anil))) (sim_acons (sim_tup (sim_acons sim_str (sim_acons sim_int sim_anil))) sim_anil)))))))))))))
    (sim_seq (sim_set (i := 6) sc__law_bent.nd rfl (.inl rfl) (sim_op or_add (o2_add _) (sim_var (pv 6)) (sim_lst (sim_acons (sim_tup (sim_acons sim_int (sim_acons sim_int (sim_acons sim_int sim_anil)))) (sim_acons (sim_tup (sim_acons sim_int (sim_acons sim_non sim_anil))) (sim_acons (sim_tup (sim_acons sim_int (sim_acons sim_str sim_anil))) (sim_acons (sim_tup (sim_acons sim_int (sim_acons (sim_lst (sim_acons sim_int sim_anil)) sim_anil))) sim_anil)))))))
    (sim_seq (sim_set (i := 7) sc__law_bent.nd rfl (.inl rfl) (sim_op or_add (o2_add _) (sim_op or_add (o2_add _) (sim_slice (sim_var (pv 3)) sim_onone (sim_osome (sim_var (pv 5)))) (sim_tup (sim_acons (sim_ix (ir_all (hu_of hr)) (o2_ix _) (sim_var (pv 6)) (sim_callG C__law_take hq (hr.mono (by decide)) (by rfl) (sim_acons (sim_var (pv 0)) (sim_acons sim_int sim_anil))) (fun _ _ => rfl)) sim_anil))) (sim_slice (sim_var (pv 3)) (sim_osome (sim_var (pv 5))) sim_onone)))
    (sim_seq (sim_set (i := 8) sc__law_bent.nd rfl (.inl rfl) (sim_lst (sim_acons (sim_tup (sim_acons (sim_var (pv 7)) (sim_acons (sim_var (pv 4)) sim_anil))) (sim_acons (sim_tup (sim_acons (sim_var (pv 3)) (sim_acons sim_non sim_anil))) (sim_acons (sim_tup (sim_acons (sim_var (pv 3)) (sim_acons sim_bl sim_anil))) (sim_acons (sim_tup (sim_acons (sim_callTy call_list_of (on_list _) (by rfl) T.b_list bt_list (sim_acons (sim_var (pv 3)) sim_anil)) (sim_acons (sim_var (pv 4)) sim_anil))) (sim_acons (sim_tup (sim_acons (sim_var (pv 3)) sim_anil)) (sim_acons (sim_lst (sim_acons (sim_var (pv 3)) (sim_acons (sim_var (pv 4)) sim_anil))) (sim_acons (sim_var (pv 3)) (sim_acons sim_non sim_anil))))))))))
    (sim_one (sim_ret (sim_ix (ir_all (hu_of hr)) (o2_ix _) (sim_op or_add (o2_add _) (sim_var (pv 8)) (sim_lst (sim_acons (sim_tup (sim_acons (sim_revT (sim_var (pv 3))) (sim_acons (sim_var (pv 4)) sim_anil))) (sim_acons (sim_tup (sim_acons (sim_var (pv 3)) (sim_acons (sim_var (pv 4)) (sim_acons sim_int sim_anil)))) (sim_acons (sim_tup (sim_acons (sim_op or_add (o2_add _) (sim_var (pv 3)) (sim_var (pv 3))) (sim_acons (sim_var (pv 4)) sim_anil))) (sim_acons sim_str sim_anil)))))) (sim_callG C__law_take hq (hr.mono (by decide)) (by rfl) (sim_acons (sim_var (pv 0)) (sim_acons sim_int sim_anil))) (fun _ _ => rfl)))))))))))
/-! law -/
abbrev st_law : Stmt := top 27
abbrev N_law : List Str := ["_law_script", "_law_k", "_law_pool_here", "_law_size", "_law_one", "_law_item", "_law_turned", "_law_want_here", "_law_filling", "_law_kept", "_law_found", "_law_mark", "_law_factor"]
theorem sc_law : FnScope N_law ["_law_script"] (defScope st_law) := ⟨rfl, rfl, rfl, by decide +kernel, rfl, by decide +kernel, by decide +kernel⟩
def b_law : SM := (sSeq (sFor (iRng1M (aCons (eOpN gMax2 (aCons (eC (.int 1)) (aCons (eOpN gMin2 (aCons (eLenScr 0) (aCons (eC (.int 20)) aNil))) aNil))) aNil)) (gNm 1) (sSeq (sSet 2 (ePool 0 (eVar 1)))
    (sSeq (sSet 3 (eOp2 gAdd (eC (.int 1)) (eCall [true, false] m__law_take (aCons (eVar 2) (aCons (eC (.int 5)) aNil)))))
    (sSeq (sSet 4 (eCall [true, false] m__law_sum (aCons (eVar 2) (aCons (eFz (eVar 3)) aNil))))
    (sSeq (sFor (iSeqM (eLst (aCons (eVar 4) (aCons (eCall [true, false, false] m__law_bent (aCons (eVar 2) (aCons (eFz (eVar 4)) (aCons (eFz (eVar 3)) aNil)))) (aCons (eCall [true, false, false] m__law_bent (aCons (eVar 2) (aCons (eFz (eVar 4)) (aCons (eFz (eVar 3)) aNil)))) (aCons (eTup (aCons (eTup aNil) (aCons (eC (.int 0)) aNil))) (aCons (eTup (aCons (eTup aNil) (aCons (eOp1 gNeg (eC (.int 5))) aNil))) aNil))))))) (gNm 5) (sSeq (sSet 9 (eOpN gReprA (aCons (eVar 5) aNil)))
    (sSeq (sSet 10 (eLst (aCons (eCall [false, false] m_is_sum (aCons (eVar 5) (aCons (eFz (eVar 3)) aNil))) (aCons (eCallK [false, false] m_is_sum 2 [1, 0] (aCons (eFz (eVar 3)) (aCons (eVar 5) aNil))) aNil))))
    (sIf (tOrM (tBool (eOp2 (gEqS true) (eOpN gReprA (aCons (eVar 10) aNil)) (eOpN gReprA (aCons (eOp2 gMul (eLst (aCons (eCall [false, false] m__law_is_sum (aCons (eVar 5) (aCons (eFz (eVar 3)) aNil))) aNil)) (eC (.int 2))) aNil)))) (tBool (eOp2 (gEqS true) (eOpN gReprA (aCons (eVar 5) aNil)) (eVar 9)))) (sRet (eC (.bool false))) sNil))))
    (sSeq (sSet 6 (eCall [false] m_contrary (aCons (eFz (eVar 4)) aNil)))
    (sSeq (sIf (tBool (eOp2 (gEq true) (eVar 6) (eTup (aCons (eOpN gTuple (aCons (eComp (iSeqM (eOp2 gIx (eVar 4) (eC (.int 0)))) (gTupM (gsCons (gNm 12) (gsCons (gNm 11) gsNil))) [12, 11] (retM true) (eTup (aCons (eVar 12) (aCons (eOp2 gSub (eC (.int 0)) (eVar 11)) aNil)))) aNil)) (aCons (eOp2 gAdd (eOp2 gSub (eCall [false] m__law_reach (aCons (eFz (eVar 4)) aNil)) (eOp2 gIx (eVar 4) (eC (.int 1)))) (eC (.int 1))) aNil))))) (sRet (eC (.bool false))) sNil)
    (sSeq (sIf (tOrM (tBool (eOp2 (gEq true) (eCall [false] m_reach (aCons (eFz (eVar 4)) aNil)) (eCall [false] m__law_reach (aCons (eFz (eVar 4)) aNil)))) (tNotM (tBool (eCall [false, false] m_is_sum (aCons (eFz (eVar 6)) (aCons (eFz (eVar 3)) aNil)))))) (sRet (eC (.bool false))) sNil)
    (sSeq (sSet 7 (eCall [true, false, false] m__law_want (aCons (eVar 2) (aCons (eFz (eVar 3)) (aCons (eC (.int 5)) aNil)))))
    (sSeq (sIf (tBool (eOp2 (gEq true) (eCall [false] m_sum_of (aCons (eFz (eVar 7)) aNil)) (eTup (aCons (eOpN gTuple (aCons (eComp (iSeqM (eVar 7)) (gNm 11) [11] (retM true) (eTup (aCons (eC (.int 1)) (aCons (eVar 11) aNil)))) aNil)) (aCons (eC (.int 1)) aNil))))) (sRet (eC (.bool false))) sNil)
    (sFor (iSeqM (eCall [false] m__law_fillings (aCons (eFz (eVar 3)) aNil))) (gNm 8) (sSeq (sIf (tBool (eOp2 (gEq true) (eCall [false, false] m_weight (aCons (eFz (eVar 4)) (aCons (eVar 8) aNil))) (eCall [false, false] m__law_weight (aCons (eFz (eVar 4)) (aCons (eVar 8) aNil))))) (sRet (eC (.bool false))) sNil)
    (sSeq (sIf (tBool (eOp2 (gEqS true) (eOpN gReprA (aCons (eCall [false, false] m_is_held (aCons (eFz (eVar 4)) (aCons (eVar 8) aNil))) aNil)) (eOpN gReprA (aCons (eCall [false, false] m__law_is_held (aCons (eFz (eVar 4)) (aCons (eVar 8) aNil))) aNil)))) (sRet (eC (.bool false))) sNil)
    (sSeq (sIf (tBool (eOp2 (gEq false) (eCall [false, false] m_is_held (aCons (eCall [false] m_contrary (aCons (eFz (eVar 4)) aNil)) (aCons (eVar 8) aNil))) (eCall [false, false] m_is_held (aCons (eFz (eVar 4)) (aCons (eVar 8) aNil))))) (sRet (eC (.bool false))) sNil)
    (sIf (tBool (eOp2 (gEq true) (eCall [false, false] m_is_held (aCons (eCall [false] m_sum_of (aCons (eFz (eVar 7)) aNil)) (aCons (eVar 8) aNil))) (eCall [false, false] m__law_holds (aCons (eFz (eVar 7)) (aCons (eVar 8) aNil))))) (sRet (eC (.bool false))) sNil)))))))))))))))
    (sRet (eC (.bool true))))
theorem ok_law {f : Addr} {fd : FuncData} {fp : Addr} {fdp : FuncData} {dvs : List V} (F : FnP K "law" st_law dvs f fd) (T : Txt K mg) (C__law_pool : GFn P w K mg base CX0 1 fp fdp ["_law_script", "_law_k"] (spPool K) ∧ mg "_law_pool" = some (.ref fp) ∧ PySem.W.keepIn K (.ref fp) = true ∧ Binds K fdp ["_law_script", "_law_k"] []) (C__law_take : CalG P w K mg base 1 "_law_take" ["_law_pool_here", "_law_size"] [true, false] m__law_take) (C__law_sum : CalG P w K mg base 2 "_law_sum" ["_law_pool_here", "_law_size"] [true, false] m__law_sum) (C__law_bent : CalG P w K mg base 2 "_law_bent" ["_law_pool_here", "_law_one", "_law_size"] [true, false, false] m__law_bent) (C_is_sum : CalG P w K mg base 4 "is_sum" ["thing", "many"] [false, false] m_is_sum) (C__law_is_sum : CalG P w K mg base 2 "_law_is_sum" ["_law_item", "_law_size"] [false, false] m__law_is_sum) (C_contrary : CalG P w K mg base 2 "contrary" ["one"] [false] m_contrary) (C__law_reach : CalG P w K mg base 1 "_law_reach" ["_law_one"] [false] m__law_reach) (C_reach : CalG P w K mg base 1 "reach" ["one"] [false] m_reach) (C__law_want : CalG P w K mg base 2 "_law_want" ["_law_pool_here", "_law_size", "_law_most"] [true, false, false] m__law_want) (C_sum_of : CalG P w K mg base 1 "sum_of" ["want"] [false] m_sum_of) (C__law_fillings : CalG P w K mg base 1 "_law_fillings" ["_law_size"] [false] m__law_fillings) (C_weight : CalG P w K mg base 2 "weight" ["one", "filling"] [false, false] m_weight) (C__law_weight : CalG P w K mg base 2 "_law_weight" ["_law_one", "_law_filling"] [false, false] m__law_weight) (C_is_held : CalG P w K mg base 3 "is_held" ["one", "filling"] [false, false] m_is_held) (C__law_is_held : CalG P w K mg base 3 "_law_is_held" ["_law_one", "_law_filling"] [false, false] m__law_is_held) (C__law_holds : CalG P w K mg base 2 "_law_holds" ["_law_want_here", "_law_filling"] [false, false] m__law_holds) (CK0_is_sum : CalK P w K mg base 4 "is_sum" ["thing", "many"] ["many", "thing"] [1, 0] [false, false] m_is_sum) (hl : ∀ ns : List Int, ns.length ≤ 63 → ∃ ρ', b_law (some (.scr ns) :: List.replicate (N_law.length - 1) none) = .rt (.val (.bool true)) ρ') : GFn P w K mg base CX0 5 f fd ["_law_script"] (spLaw K) := law_fnG (b := b_law) F sc_law (by decide) (fun cdv A outer s H E hq hr => (sim_seq (sim_for PassesOwn.never rfl (sim_irng1 (by rfl) T.b_range (sim_acons (sim_callB (call_max2 rfl) on_max2 (by rfl) T.b_max bt_max (sim_acons sim_int (sim_acons (sim_callB (call_min2 rfl) on_min2 (by rfl) T.b_min bt_min (sim_acons (sim_lenscr (pv 0) (by rfl) T.b_len bt_len) (sim_acons sim_int sim_anil))) sim_anil))) sim_anil)) (sim_gname (i := 1) sc_law.nd rfl (.inl rfl)) (sim_seq (sim_set (i := 2) sc_law.nd rfl (.inl rfl) (sim_poolG C__law_pool.1 hq (hr.mono (by decide)) (by rfl) C__law_pool.2.1 C__law_pool.2.2.1 C__law_pool.2.2.2 (pv 0) (sim_var (pv 1))))
    (sim_seq (sim_set (i := 3) sc_law.nd rfl (.inl rfl) (sim_op or_add (o2_add _) sim_int (sim_callG C__law_take hq (hr.mono (by decide)) (by rfl) (sim_acons (sim_var (pv 2)) (sim_acons sim_int sim_anil)))))
    (sim_seq (sim_set (i := 4) sc_law.nd rfl (.inl rfl) (sim_callG C__law_sum hq (hr.mono (by decide)) (by rfl) (sim_acons (sim_var (pv 2)) (sim_acons (sim_fz (sim_var (pv 3))) sim_anil))))
    (sim_seq (sim_for PassesOwn.never rfl (sim_iseq (sim_lst (sim_acons (sim_var (pv 4)) (sim_acons (sim_callG C__law_bent hq (hr.mono (by decide)) (by rfl) (sim_acons (sim_var (pv 2)) (sim_acons (sim_fz (sim_var (pv 4))) (sim_acons (sim_fz (sim_var (pv 3))) sim_anil)))) (sim_acons (sim_callG C__law_bent hq (hr.mono (by decide)) (by rfl) (sim_acons (sim_var (pv 2)) (sim_acons (sim_fz (sim_var (pv 4))) (sim_acons (sim_fz (sim_var (pv 3))) sim_anil)))) (sim_acons (sim_tup (sim_acons (sim_tup sim_anil) (sim_acons sim_int sim_anil))) (sim_acons (sim_tup (sim_acons (sim_tup sim_anil) (sim_acons (sim_un un_neg o1_neg sim_int) sim_anil))) sim_anil))))))) (sim_gname (i := 5) sc_law.nd rfl (.inl rfl)) (sim_seq (sim_set (i := 9) sc_law.nd rfl (.inl rfl) (sim_callB ((cr_repr hq (u65 hr)).or cr_reprS) (on_reprA _) (by rfl) T.b_repr bt_repr (sim_acons (sim_var (pv 5)) sim_anil)))
    (sim_seq (sim_set (i := 10) sc_law.nd rfl (.inl rfl) (sim_lst (sim_acons (sim_callG C_is_sum hq (hr.mono (by decide)) (by rfl) (sim_acons (sim_var (pv 5)) (sim_acons (sim_fz (sim_var (pv 3))) sim_anil))) (sim_acons (sim_callK CK0_is_sum hq (hr.mono (by decide)) (by rfl) (sim_kcons (sim_fz (sim_var (pv 3))) (sim_kcons (sim_var (pv 5)) sim_knil)) rfl rfl) sim_anil))))
    (sim_one (sim_if (SimW.t (sim_wor (sim_tcmp op_ne o2_neS (sim_callB ((cr_repr hq (u65 hr)).or cr_reprS) (on_reprA _) (by rfl) T.b_repr bt_repr (sim_acons (sim_var (pv 10)) sim_anil)) (sim_callB ((cr_repr hq (u65 hr)).or cr_reprS) (on_reprA _) (by rfl) T.b_repr bt_repr (sim_acons (sim_op or_mul o2_mul (sim_lst (sim_acons (sim_callG C__law_is_sum hq (hr.mono (by decide)) (by rfl) (sim_acons (sim_var (pv 5)) (sim_acons (sim_fz (sim_var (pv 3))) sim_anil))) sim_anil)) sim_int) sim_anil)) (nomark _)) (sim_wor1 (sim_tcmp op_ne o2_neS (sim_callB ((cr_repr hq (u65 hr)).or cr_reprS) (on_reprA _) (by rfl) T.b_repr bt_repr (sim_acons (sim_var (pv 5)) sim_anil)) (sim_var (pv 9)) (nomark _))))) (sim_one (sim_ret sim_bl)) sim_nil)))))
    (sim_seq (sim_set (i := 6) sc_law.nd rfl (.inl rfl) (sim_callG C_contrary hq (hr.mono (by decide)) (by rfl) (sim_acons (sim_fz (sim_var (pv 4))) sim_anil)))
    (sim_seq (sim_if (sim_tcmp (op_neD hr.units) (o2_ne _) (sim_var (pv 6)) (sim_tup (sim_acons (sim_callTy call_tuple_of (on_tuple _) (by rfl) T.b_tuple bt_tuple (sim_acons (sim_lc [("_law_factor", 12), ("_law_mark", 11)] rfl sc_law.nd (sim_iseq (sim_ix (ir_all (hu_of hr)) (o2_ix _) (sim_var (pv 4)) sim_int (fun _ _ => rfl))) (blkOk_by (N := N_law) (sc := defScope st_law) (by decide +kernel)) (fun _ _ _ _ _ => (sim_gtup rfl (sim_gscons (sim_gname (i := 12) sc_law.nd rfl (.inl rfl)) (sim_gscons (sim_gname (i := 11) sc_law.nd rfl (.inl rfl)) sim_gsnil)) (gs_lenc (gs_lenc gs_len0)))) (fun _ _ _ _ _ => sim_tsnil) (fun _ _ _ _ _ => (sim_tup (sim_acons (sim_var (pv 12)) (sim_acons (sim_op op_sub o2_sub sim_int (sim_var (pv 11))) sim_anil)))) (by decide)) sim_anil)) (sim_acons (sim_op or_add (o2_add _) (sim_op op_sub o2_sub (sim_callG C__law_reach hq (hr.mono (by decide)) (by rfl) (sim_acons (sim_fz (sim_var (pv 4))) sim_anil)) (sim_ix (ir_all (hu_of hr)) (o2_ix _) (sim_var (pv 4)) sim_int (fun _ _ => rfl))) sim_int) sim_anil))) (nomark _)) (sim_one (sim_ret sim_bl)) sim_nil)
    (sim_seq (sim_if (SimW.t (sim_wor (sim_tcmp (op_neD hr.units) (o2_ne _) (sim_callG C_reach hq (hr.mono (by decide)) (by rfl) (sim_acons (sim_fz (sim_var (pv 4))) sim_anil)) (sim_callG C__law_reach hq (hr.mono (by decide)) (by rfl) (sim_acons (sim_fz (sim_var (pv 4))) sim_anil)) (nomark _)) (sim_wor1 (sim_tnot (sim_tval (sim_callG C_is_sum hq (hr.mono (by decide)) (by rfl) (sim_acons (sim_fz (sim_var (pv 6))) (sim_acons (sim_fz (sim_var (pv 3))) sim_anil)))))))) (sim_one (sim_ret sim_bl)) sim_nil)
    (sim_seq (sim_set (i := 7) sc_law.nd rfl (.inl rfl) (sim_callG C__law_want hq (hr.mono (by decide)) (by rfl) (sim_acons (sim_var (pv 2)) (sim_acons (sim_fz (sim_var (pv 3))) (sim_acons sim_int sim_anil)))))
    (sim_seq (sim_if (sim_tcmp (op_neD hr.units) (o2_ne _) (sim_callG C_sum_of hq (hr.mono (by decide)) (by rfl) (sim_acons (sim_fz (sim_var (pv 7))) sim_anil)) (sim_tup (sim_acons (sim_callTy call_tuple_of (on_tuple _) (by rfl) T.b_tuple bt_tuple (sim_acons (sim_lc [("_law_mark", 11)] rfl sc_law.nd (sim_iseq (sim_var (pv 7))) (blkOk_by (N := N_law) (sc := defScope st_law) (by decide +kernel)) (fun _ _ _ _ _ => (sim_gname (i := 11) sc_law.nd rfl (.inl rfl))) (fun _ _ _ _ _ => sim_tsnil) (fun _ _ _ _ _ => (sim_tup (sim_acons sim_int (sim_acons (sim_var (pv 11)) sim_anil)))) (by decide)) sim_anil)) (sim_acons sim_int sim_anil))) (nomark _)) (sim_one (sim_ret sim_bl)) sim_nil)
    (sim_one (sim_for PassesOwn.never rfl (sim_iseq (sim_callG C__law_fillings hq (hr.mono (by decide)) (by rfl) (sim_acons (sim_fz (sim_var (pv 3))) sim_anil))) (sim_gname (i := 8) sc_law.nd rfl (.inl rfl)) (sim_seq (sim_if (sim_tcmp (op_neD hr.units) (o2_ne _) (sim_callG C_weight hq (hr.mono (by decide)) (by rfl) (sim_acons (sim_fz (sim_var (pv 4))) (sim_acons (sim_var (pv 8)) sim_anil))) (sim_callG C__law_weight hq (hr.mono (by decide)) (by rfl) (sim_acons (sim_fz (sim_var (pv 4))) (sim_acons (sim_var (pv 8)) sim_anil))) (nomark _)) (sim_one (sim_ret sim_bl)) sim_nil)
    (sim_seq (sim_if (sim_tcmp op_ne o2_neS (sim_callB ((cr_repr hq (u65 hr)).or cr_reprS) (on_reprA _) (by rfl) T.b_repr bt_repr (sim_acons (sim_callG C_is_held hq (hr.mono (by decide)) (by rfl) (sim_acons (sim_fz (sim_var (pv 4))) (sim_acons (sim_var (pv 8)) sim_anil))) sim_anil)) (sim_callB ((cr_repr hq (u65 hr)).or cr_reprS) (on_reprA _) (by rfl) T.b_repr bt_repr (sim_acons (sim_callG C__law_is_held hq (hr.mono (by decide)) (by rfl) (sim_acons (sim_fz (sim_var (pv 4))) (sim_acons (sim_var (pv 8)) sim_anil))) sim_anil)) (nomark _)) (sim_one (sim_ret sim_bl)) sim_nil)
    (sim_seq (sim_if (sim_tcmp (op_eqD hr.units) (o2_eq _) (sim_callG C_is_held hq (hr.mono (by decide)) (by rfl) (sim_acons (sim_callG C_contrary hq (hr.mono (by decide)) (by rfl) (sim_acons (sim_fz (sim_var (pv 4))) sim_anil)) (sim_acons (sim_var (pv 8)) sim_anil))) (sim_callG C_is_held hq (hr.mono (by decide)) (by rfl) (sim_acons (sim_fz (sim_var (pv 4))) (sim_acons (sim_var (pv 8)) sim_anil))) (nomark _)) (sim_one (sim_ret sim_bl)) sim_nil)
    (sim_one (sim_if (sim_tcmp (op_neD hr.units) (o2_ne _) (sim_callG C_is_held hq (hr.mono (by decide)) (by rfl) (sim_acons (sim_callG C_sum_of hq (hr.mono (by decide)) (by rfl) (sim_acons (sim_fz (sim_var (pv 7))) sim_anil)) (sim_acons (sim_var (pv 8)) sim_anil))) (sim_callG C__law_holds hq (hr.mono (by decide)) (by rfl) (sim_acons (sim_fz (sim_var (pv 7))) (sim_acons (sim_var (pv 8)) sim_anil))) (nomark _)) (sim_one (sim_ret sim_bl)) sim_nil)))))))))))))))))
    (sim_one (sim_ret sim_bl)))) hl
end
def dd_is_whole : He.DefD := ⟨("is_whole", none), "is_whole", "is_whole", defArgs st_is_whole, defBody st_is_whole, defScope st_is_whole, [], []⟩
def dd_is_mark : He.DefD := ⟨("is_mark", none), "is_mark", "is_mark", defArgs st_is_mark, defBody st_is_mark, defScope st_is_mark, [], []⟩
def dd_is_rising : He.DefD := ⟨("is_rising", none), "is_rising", "is_rising", defArgs st_is_rising, defBody st_is_rising, defScope st_is_rising, [], []⟩
def dd_is_so : He.DefD := ⟨("is_so", none), "is_so", "is_so", defArgs st_is_so, defBody st_is_so, defScope st_is_so, [], []⟩
def dd_is_term : He.DefD := ⟨("is_term", none), "is_term", "is_term", defArgs st_is_term, defBody st_is_term, defScope st_is_term, [], []⟩
def dd_is_sum : He.DefD := ⟨("is_sum", none), "is_sum", "is_sum", defArgs st_is_sum, defBody st_is_sum, defScope st_is_sum, [], []⟩
def dd_weight : He.DefD := ⟨("weight", none), "weight", "weight", defArgs st_weight, defBody st_weight, defScope st_weight, [], []⟩
def dd_reach : He.DefD := ⟨("reach", none), "reach", "reach", defArgs st_reach, defBody st_reach, defScope st_reach, [], []⟩
def dd_is_held : He.DefD := ⟨("is_held", none), "is_held", "is_held", defArgs st_is_held, defBody st_is_held, defScope st_is_held, [], []⟩
def dd_sum_of : He.DefD := ⟨("sum_of", none), "sum_of", "sum_of", defArgs st_sum_of, defBody st_sum_of, defScope st_sum_of, [], []⟩
def dd_contrary : He.DefD := ⟨("contrary", none), "contrary", "contrary", defArgs st_contrary, defBody st_contrary, defScope st_contrary, [], []⟩
def dd__law_pool : He.DefD := ⟨("_law_pool", none), "_law_pool", "_law_pool", defArgs st__law_pool, defBody st__law_pool, defScope st__law_pool, [], []⟩
def dd__law_take : He.DefD := ⟨("_law_take", none), "_law_take", "_law_take", defArgs st__law_take, defBody st__law_take, defScope st__law_take, [], []⟩
def dd__law_fillings : He.DefD := ⟨("_law_fillings", none), "_law_fillings", "_law_fillings", defArgs st__law_fillings, defBody st__law_fillings, defScope st__law_fillings, [], []⟩
def dd__law_is_so : He.DefD := ⟨("_law_is_so", none), "_law_is_so", "_law_is_so", defArgs st__law_is_so, defBody st__law_is_so, defScope st__law_is_so, [], []⟩
def dd__law_holds : He.DefD := ⟨("_law_holds", none), "_law_holds", "_law_holds", defArgs st__law_holds, defBody st__law_holds, defScope st__law_holds, [], []⟩
def dd__law_want : He.DefD := ⟨("_law_want", none), "_law_want", "_law_want", defArgs st__law_want, defBody st__law_want, defScope st__law_want, [], []⟩
def dd__law_weight : He.DefD := ⟨("_law_weight", none), "_law_weight", "_law_weight", defArgs st__law_weight, defBody st__law_weight, defScope st__law_weight, [], []⟩
def dd__law_reach : He.DefD := ⟨("_law_reach", none), "_law_reach", "_law_reach", defArgs st__law_reach, defBody st__law_reach, defScope st__law_reach, [], []⟩
def dd__law_is_held : He.DefD := ⟨("_law_is_held", none), "_law_is_held", "_law_is_held", defArgs st__law_is_held, defBody st__law_is_held, defScope st__law_is_held, [], []⟩
def dd__law_sum : He.DefD := ⟨("_law_sum", none), "_law_sum", "_law_sum", defArgs st__law_sum, defBody st__law_sum, defScope st__law_sum, [], []⟩
def dd__law_is_whole : He.DefD := ⟨("_law_is_whole", none), "_law_is_whole", "_law_is_whole", defArgs st__law_is_whole, defBody st__law_is_whole, defScope st__law_is_whole, [], []⟩
def dd__law_is_sum : He.DefD := ⟨("_law_is_sum", none), "_law_is_sum", "_law_is_sum", defArgs st__law_is_sum, defBody st__law_is_sum, defScope st__law_is_sum, [], []⟩
def dd__law_bent : He.DefD := ⟨("_law_bent", none), "_law_bent", "_law_bent", defArgs st__law_bent, defBody st__law_bent, defScope st__law_bent, [], []⟩
def dd_law : He.DefD := ⟨("law", none), "law", "law", defArgs st_law, defBody st_law, defScope st_law, [], []⟩
def fn : List He.DefD := [dd_is_whole, dd_is_mark, dd_is_rising, dd_is_so, dd_is_term, dd_is_sum, dd_weight, dd_reach, dd_is_held, dd_sum_of, dd_contrary, dd__law_pool, dd__law_take, dd__law_fillings, dd__law_is_so, dd__law_holds, dd__law_want, dd__law_weight, dd__law_reach, dd__law_is_held, dd__law_sum, dd__law_is_whole, dd__law_is_sum, dd__law_bent, dd_law]
def fa : List He.Fa := [.glo "is_whole", .glo "is_mark", .glo "is_rising", .glo "is_so", .glo "is_term", .glo "is_sum", .glo "weight", .glo "reach", .glo "is_held", .glo "sum_of", .glo "contrary", .glo "_law_pool", .glo "_law_take", .glo "_law_fillings", .glo "_law_is_so", .glo "_law_holds", .glo "_law_want", .glo "_law_weight", .glo "_law_reach", .glo "_law_is_held", .glo "_law_sum", .glo "_law_is_whole", .glo "_law_is_sum", .glo "_law_bent", .glo "law", .free "abs", .free "all", .free "bool", .free "int", .free "isinstance", .free "len", .free "list", .free "max", .free "min", .free "range", .free "repr", .free "sorted", .free "sum", .free "tuple", .free "zip"]
theorem facts {P : Program} {w : World} {K : PySem.W.Frag} {h : Heap} {mg : Str → Option Value} {f : Addr} (X : K.In h) (G : h.Ns mainGlobals mg) (hfa : mg ("law" : Str) = some (.ref f)) (c : He.SaysD fa fn K)
    (hp : ∀ (ns : List Int) (k : Int), ns.length ≤ 63 → 0 ≤ k → k < 64 → ∃ ρ', b__law_pool (some (.scr ns) :: some (.imm (.int k)) :: List.replicate (N__law_pool.length - 2) none) = .rt (.fresh (poolD ns k)) ρ')
    (hl : ∀ ns : List Int, ns.length ≤ 63 → ∃ ρ', b_law (some (.scr ns) :: List.replicate (N_law.length - 1) none) = .rt (.val (.bool true)) ρ') :
    ∃ fd : FuncData, (∀ (s : Shared) (v : Value), BindsTo s fd ⟨[v], []⟩ [("_law_script", v)]) ∧ ∀ base : Heap, K.In base → base.Ns mainGlobals mg → GFn P w K mg base CX0 5 f fd ["_law_script"] (spLaw K) := by
  obtain ⟨fd_is_whole, F_is_whole⟩ := c.def_ 0 (d := dd_is_whole) rfl
  obtain ⟨fd_is_mark, F_is_mark⟩ := c.def_ 1 (d := dd_is_mark) rfl
  obtain ⟨fd_is_rising, F_is_rising⟩ := c.def_ 2 (d := dd_is_rising) rfl
  obtain ⟨fd_is_so, F_is_so⟩ := c.def_ 3 (d := dd_is_so) rfl
  obtain ⟨fd_is_term, F_is_term⟩ := c.def_ 4 (d := dd_is_term) rfl
  obtain ⟨fd_is_sum, F_is_sum⟩ := c.def_ 5 (d := dd_is_sum) rfl
  obtain ⟨fd_weight, F_weight⟩ := c.def_ 6 (d := dd_weight) rfl
  obtain ⟨fd_reach, F_reach⟩ := c.def_ 7 (d := dd_reach) rfl
  obtain ⟨fd_is_held, F_is_held⟩ := c.def_ 8 (d := dd_is_held) rfl
  obtain ⟨fd_sum_of, F_sum_of⟩ := c.def_ 9 (d := dd_sum_of) rfl
  obtain ⟨fd_contrary, F_contrary⟩ := c.def_ 10 (d := dd_contrary) rfl
  obtain ⟨fd__law_pool, F__law_pool⟩ := c.def_ 11 (d := dd__law_pool) rfl
  obtain ⟨fd__law_take, F__law_take⟩ := c.def_ 12 (d := dd__law_take) rfl
  obtain ⟨fd__law_fillings, F__law_fillings⟩ := c.def_ 13 (d := dd__law_fillings) rfl
  obtain ⟨fd__law_is_so, F__law_is_so⟩ := c.def_ 14 (d := dd__law_is_so) rfl
  obtain ⟨fd__law_holds, F__law_holds⟩ := c.def_ 15 (d := dd__law_holds) rfl
  obtain ⟨fd__law_want, F__law_want⟩ := c.def_ 16 (d := dd__law_want) rfl
  obtain ⟨fd__law_weight, F__law_weight⟩ := c.def_ 17 (d := dd__law_weight) rfl
  obtain ⟨fd__law_reach, F__law_reach⟩ := c.def_ 18 (d := dd__law_reach) rfl
  obtain ⟨fd__law_is_held, F__law_is_held⟩ := c.def_ 19 (d := dd__law_is_held) rfl
  obtain ⟨fd__law_sum, F__law_sum⟩ := c.def_ 20 (d := dd__law_sum) rfl
  obtain ⟨fd__law_is_whole, F__law_is_whole⟩ := c.def_ 21 (d := dd__law_is_whole) rfl
  obtain ⟨fd__law_is_sum, F__law_is_sum⟩ := c.def_ 22 (d := dd__law_is_sum) rfl
  obtain ⟨fd__law_bent, F__law_bent⟩ := c.def_ 23 (d := dd__law_bent) rfl
  obtain ⟨fd_law, F_law⟩ := c.def_ 24 (d := dd_law) rfl
  have T : Txt K mg := ⟨He.free_ok X G (c.fact 25 (f := .free "abs") rfl), He.free_ok X G (c.fact 26 (f := .free "all") rfl), He.free_ok X G (c.fact 27 (f := .free "bool") rfl), He.free_ok X G (c.fact 28 (f := .free "int") rfl), He.free_ok X G (c.fact 29 (f := .free "isinstance") rfl), He.free_ok X G (c.fact 30 (f := .free "len") rfl), He.free_ok X G (c.fact 31 (f := .free "list") rfl), He.free_ok X G (c.fact 32 (f := .free "max") rfl), He.free_ok X G (c.fact 33 (f := .free "min") rfl), He.free_ok X G (c.fact 34 (f := .free "range") rfl), He.free_ok X G (c.fact 35 (f := .free "repr") rfl), He.free_ok X G (c.fact 36 (f := .free "sorted") rfl), He.free_ok X G (c.fact 37 (f := .free "sum") rfl), He.free_ok X G (c.fact 38 (f := .free "tuple") rfl), He.free_ok X G (c.fact 39 (f := .free "zip") rfl)⟩
  have g_is_whole := He.glo_ok X G (c.fact 0 (f := .glo "is_whole") rfl)
  have b_is_whole : Binds K fd_is_whole ["thing"] [] := FunD.bindsN F_is_whole fun _ _ _ _ _ _ us hl => match us, hl with | [_], _ => rfl
  have g_is_mark := He.glo_ok X G (c.fact 1 (f := .glo "is_mark") rfl)
  have b_is_mark : Binds K fd_is_mark ["thing", "many"] [] := FunD.bindsN F_is_mark fun _ _ _ _ _ _ us hl => match us, hl with | [_, _], _ => rfl
  have g_is_rising := He.glo_ok X G (c.fact 2 (f := .glo "is_rising") rfl)
  have b_is_rising : Binds K fd_is_rising ["numbers"] [] := FunD.bindsN F_is_rising fun _ _ _ _ _ _ us hl => match us, hl with | [_], _ => rfl
  have g_is_so := He.glo_ok X G (c.fact 3 (f := .glo "is_so") rfl)
  have b_is_so : Binds K fd_is_so ["mark", "filling"] [] := FunD.bindsN F_is_so fun _ _ _ _ _ _ us hl => match us, hl with | [_, _], _ => rfl
  have g_is_term := He.glo_ok X G (c.fact 4 (f := .glo "is_term") rfl)
  have b_is_term : Binds K fd_is_term ["thing", "many"] [] := FunD.bindsN F_is_term fun _ _ _ _ _ _ us hl => match us, hl with | [_, _], _ => rfl
  have g_is_sum := He.glo_ok X G (c.fact 5 (f := .glo "is_sum") rfl)
  have b_is_sum : Binds K fd_is_sum ["thing", "many"] [] := FunD.bindsN F_is_sum fun _ _ _ _ _ _ us hl => match us, hl with | [_, _], _ => rfl
  have g_weight := He.glo_ok X G (c.fact 6 (f := .glo "weight") rfl)
  have b_weight : Binds K fd_weight ["one", "filling"] [] := FunD.bindsN F_weight fun _ _ _ _ _ _ us hl => match us, hl with | [_, _], _ => rfl
  have g_reach := He.glo_ok X G (c.fact 7 (f := .glo "reach") rfl)
  have b_reach : Binds K fd_reach ["one"] [] := FunD.bindsN F_reach fun _ _ _ _ _ _ us hl => match us, hl with | [_], _ => rfl
  have g_is_held := He.glo_ok X G (c.fact 8 (f := .glo "is_held") rfl)
  have b_is_held : Binds K fd_is_held ["one", "filling"] [] := FunD.bindsN F_is_held fun _ _ _ _ _ _ us hl => match us, hl with | [_, _], _ => rfl
  have g_sum_of := He.glo_ok X G (c.fact 9 (f := .glo "sum_of") rfl)
  have b_sum_of : Binds K fd_sum_of ["want"] [] := FunD.bindsN F_sum_of fun _ _ _ _ _ _ us hl => match us, hl with | [_], _ => rfl
  have g_contrary := He.glo_ok X G (c.fact 10 (f := .glo "contrary") rfl)
  have b_contrary : Binds K fd_contrary ["one"] [] := FunD.bindsN F_contrary fun _ _ _ _ _ _ us hl => match us, hl with | [_], _ => rfl
  have g__law_pool := He.glo_ok X G (c.fact 11 (f := .glo "_law_pool") rfl)
  have b__law_pool : Binds K fd__law_pool ["_law_script", "_law_k"] [] := FunD.bindsN F__law_pool fun _ _ _ _ _ _ us hl => match us, hl with | [_, _], _ => rfl
  have g__law_take := He.glo_ok X G (c.fact 12 (f := .glo "_law_take") rfl)
  have b__law_take : Binds K fd__law_take ["_law_pool_here", "_law_size"] [] := FunD.bindsN F__law_take fun _ _ _ _ _ _ us hl => match us, hl with | [_, _], _ => rfl
  have g__law_fillings := He.glo_ok X G (c.fact 13 (f := .glo "_law_fillings") rfl)
  have b__law_fillings : Binds K fd__law_fillings ["_law_size"] [] := FunD.bindsN F__law_fillings fun _ _ _ _ _ _ us hl => match us, hl with | [_], _ => rfl
  have g__law_is_so := He.glo_ok X G (c.fact 14 (f := .glo "_law_is_so") rfl)
  have b__law_is_so : Binds K fd__law_is_so ["_law_mark", "_law_filling"] [] := FunD.bindsN F__law_is_so fun _ _ _ _ _ _ us hl => match us, hl with | [_, _], _ => rfl
  have g__law_holds := He.glo_ok X G (c.fact 15 (f := .glo "_law_holds") rfl)
  have b__law_holds : Binds K fd__law_holds ["_law_want_here", "_law_filling"] [] := FunD.bindsN F__law_holds fun _ _ _ _ _ _ us hl => match us, hl with | [_, _], _ => rfl
  have g__law_want := He.glo_ok X G (c.fact 16 (f := .glo "_law_want") rfl)
  have b__law_want : Binds K fd__law_want ["_law_pool_here", "_law_size", "_law_most"] [] := FunD.bindsN F__law_want fun _ _ _ _ _ _ us hl => match us, hl with | [_, _, _], _ => rfl
  have g__law_weight := He.glo_ok X G (c.fact 17 (f := .glo "_law_weight") rfl)
  have b__law_weight : Binds K fd__law_weight ["_law_one", "_law_filling"] [] := FunD.bindsN F__law_weight fun _ _ _ _ _ _ us hl => match us, hl with | [_, _], _ => rfl
  have g__law_reach := He.glo_ok X G (c.fact 18 (f := .glo "_law_reach") rfl)
  have b__law_reach : Binds K fd__law_reach ["_law_one"] [] := FunD.bindsN F__law_reach fun _ _ _ _ _ _ us hl => match us, hl with | [_], _ => rfl
  have g__law_is_held := He.glo_ok X G (c.fact 19 (f := .glo "_law_is_held") rfl)
  have b__law_is_held : Binds K fd__law_is_held ["_law_one", "_law_filling"] [] := FunD.bindsN F__law_is_held fun _ _ _ _ _ _ us hl => match us, hl with | [_, _], _ => rfl
  have g__law_sum := He.glo_ok X G (c.fact 20 (f := .glo "_law_sum") rfl)
  have b__law_sum : Binds K fd__law_sum ["_law_pool_here", "_law_size"] [] := FunD.bindsN F__law_sum fun _ _ _ _ _ _ us hl => match us, hl with | [_, _], _ => rfl
  have g__law_is_whole := He.glo_ok X G (c.fact 21 (f := .glo "_law_is_whole") rfl)
  have b__law_is_whole : Binds K fd__law_is_whole ["_law_item"] [] := FunD.bindsN F__law_is_whole fun _ _ _ _ _ _ us hl => match us, hl with | [_], _ => rfl
  have g__law_is_sum := He.glo_ok X G (c.fact 22 (f := .glo "_law_is_sum") rfl)
  have b__law_is_sum : Binds K fd__law_is_sum ["_law_item", "_law_size"] [] := FunD.bindsN F__law_is_sum fun _ _ _ _ _ _ us hl => match us, hl with | [_, _], _ => rfl
  have g__law_bent := He.glo_ok X G (c.fact 23 (f := .glo "_law_bent") rfl)
  have b__law_bent : Binds K fd__law_bent ["_law_pool_here", "_law_one", "_law_size"] [] := FunD.bindsN F__law_bent fun _ _ _ _ _ _ us hl => match us, hl with | [_, _, _], _ => rfl
  have e := hfa.symm.trans (He.glo_ok X G (c.fact 24 (f := .glo "law") rfl))
  cases e
  have b := FunD.bindsA (ps := ["_law_script"]) F_law fun _ _ _ _ _ _ us hl => match us, hl with | [_], _ => rfl
  refine ⟨fd_law, fun s v => b s [v] rfl, fun base _ _ => ?_⟩
  have C_is_whole : CalG P w K mg base 1 "is_whole" ["thing"] [false] m_is_whole := ⟨_, _, ok_is_whole F_is_whole T, g_is_whole, F_is_whole.kp, b_is_whole⟩
  have C_is_mark : CalG P w K mg base 2 "is_mark" ["thing", "many"] [false, false] m_is_mark := ⟨_, _, ok_is_mark F_is_mark T C_is_whole, g_is_mark, F_is_mark.kp, b_is_mark⟩
  have C_is_rising : CalG P w K mg base 1 "is_rising" ["numbers"] [false] m_is_rising := ⟨_, _, ok_is_rising F_is_rising T, g_is_rising, F_is_rising.kp, b_is_rising⟩
  have C_is_so : CalG P w K mg base 1 "is_so" ["mark", "filling"] [false, false] m_is_so := ⟨_, _, ok_is_so F_is_so T, g_is_so, F_is_so.kp, b_is_so⟩
  have C_is_term : CalG P w K mg base 3 "is_term" ["thing", "many"] [false, false] m_is_term := ⟨_, _, ok_is_term F_is_term T C_is_whole C_is_mark, g_is_term, F_is_term.kp, b_is_term⟩
  have C_is_sum : CalG P w K mg base 4 "is_sum" ["thing", "many"] [false, false] m_is_sum := ⟨_, _, ok_is_sum F_is_sum T C_is_whole C_is_term C_is_rising, g_is_sum, F_is_sum.kp, b_is_sum⟩
  have CK0_is_sum : CalK P w K mg base 4 "is_sum" ["thing", "many"] ["many", "thing"] [1, 0] [false, false] m_is_sum := ⟨_, _, ok_is_sum F_is_sum T C_is_whole C_is_term C_is_rising, g_is_sum, F_is_sum.kp, kwb_of F_is_sum fun _ _ _ _ _ _ us hl => match us, hl with | [_, _], _ => rfl⟩
  have C_weight : CalG P w K mg base 2 "weight" ["one", "filling"] [false, false] m_weight := ⟨_, _, ok_weight F_weight T C_is_so, g_weight, F_weight.kp, b_weight⟩
  have C_reach : CalG P w K mg base 1 "reach" ["one"] [false] m_reach := ⟨_, _, ok_reach F_reach T, g_reach, F_reach.kp, b_reach⟩
  have C_is_held : CalG P w K mg base 3 "is_held" ["one", "filling"] [false, false] m_is_held := ⟨_, _, ok_is_held F_is_held T C_weight, g_is_held, F_is_held.kp, b_is_held⟩
  have C_sum_of : CalG P w K mg base 1 "sum_of" ["want"] [false] m_sum_of := ⟨_, _, ok_sum_of F_sum_of T, g_sum_of, F_sum_of.kp, b_sum_of⟩
  have C_contrary : CalG P w K mg base 2 "contrary" ["one"] [false] m_contrary := ⟨_, _, ok_contrary F_contrary T C_reach, g_contrary, F_contrary.kp, b_contrary⟩
  have O__law_pool : GFn P w K mg base CX0 1 _ fd__law_pool _ (spPool K) := ok__law_pool F__law_pool T hp
  have C__law_pool := And.intro O__law_pool (And.intro g__law_pool (And.intro F__law_pool.kp b__law_pool))
  have C__law_take : CalG P w K mg base 1 "_law_take" ["_law_pool_here", "_law_size"] [true, false] m__law_take := ⟨_, _, ok__law_take F__law_take T, g__law_take, F__law_take.kp, b__law_take⟩
  have C__law_fillings : CalG P w K mg base 1 "_law_fillings" ["_law_size"] [false] m__law_fillings := ⟨_, _, ok__law_fillings F__law_fillings T, g__law_fillings, F__law_fillings.kp, b__law_fillings⟩
  have C__law_is_so : CalG P w K mg base 1 "_law_is_so" ["_law_mark", "_law_filling"] [false, false] m__law_is_so := ⟨_, _, ok__law_is_so F__law_is_so T, g__law_is_so, F__law_is_so.kp, b__law_is_so⟩
  have C__law_holds : CalG P w K mg base 2 "_law_holds" ["_law_want_here", "_law_filling"] [false, false] m__law_holds := ⟨_, _, ok__law_holds F__law_holds T C__law_is_so, g__law_holds, F__law_holds.kp, b__law_holds⟩
  have C__law_want : CalG P w K mg base 2 "_law_want" ["_law_pool_here", "_law_size", "_law_most"] [true, false, false] m__law_want := ⟨_, _, ok__law_want F__law_want T C__law_take, g__law_want, F__law_want.kp, b__law_want⟩
  have C__law_weight : CalG P w K mg base 2 "_law_weight" ["_law_one", "_law_filling"] [false, false] m__law_weight := ⟨_, _, ok__law_weight F__law_weight T C__law_is_so, g__law_weight, F__law_weight.kp, b__law_weight⟩
  have C__law_reach : CalG P w K mg base 1 "_law_reach" ["_law_one"] [false] m__law_reach := ⟨_, _, ok__law_reach F__law_reach T, g__law_reach, F__law_reach.kp, b__law_reach⟩
  have C__law_is_held : CalG P w K mg base 3 "_law_is_held" ["_law_one", "_law_filling"] [false, false] m__law_is_held := ⟨_, _, ok__law_is_held F__law_is_held T C__law_weight, g__law_is_held, F__law_is_held.kp, b__law_is_held⟩
  have C__law_sum : CalG P w K mg base 2 "_law_sum" ["_law_pool_here", "_law_size"] [true, false] m__law_sum := ⟨_, _, ok__law_sum F__law_sum T C__law_take, g__law_sum, F__law_sum.kp, b__law_sum⟩
  have C__law_is_whole : CalG P w K mg base 1 "_law_is_whole" ["_law_item"] [false] m__law_is_whole := ⟨_, _, ok__law_is_whole F__law_is_whole T, g__law_is_whole, F__law_is_whole.kp, b__law_is_whole⟩
  have C__law_is_sum : CalG P w K mg base 2 "_law_is_sum" ["_law_item", "_law_size"] [false, false] m__law_is_sum := ⟨_, _, ok__law_is_sum F__law_is_sum T C__law_is_whole, g__law_is_sum, F__law_is_sum.kp, b__law_is_sum⟩
  have C__law_bent : CalG P w K mg base 2 "_law_bent" ["_law_pool_here", "_law_one", "_law_size"] [true, false, false] m__law_bent := ⟨_, _, ok__law_bent F__law_bent T C__law_take, g__law_bent, F__law_bent.kp, b__law_bent⟩
  exact ok_law F_law T C__law_pool C__law_take C__law_sum C__law_bent C_is_sum C__law_is_sum C_contrary C__law_reach C_reach C__law_want C_sum_of C__law_fillings C_weight C__law_weight C_is_held C__law_is_held C__law_holds CK0_is_sum hl
abbrev R : PySem.W.OpenRow := PySem.W.OpenLaw.row PySem.Challenge.rw_leastbroken_k07_sums_or_none
abbrev hk : PySem.W.Hook := He.hookD 4 fa fn
def ob (s : PySem.W.SharedT) : He.AlD := He.obsDG 4 fa fn (HandSHeadRun.getT s)
theorem ob_eq (s : PySem.W.SharedT) : ob s = hk.obs s.abs := He.obsDG_eq (HandSHeadRun.getT_eq s)
def loose0 : List Str := ["is_whole", "is_mark", "is_rising", "is_so", "is_term", "is_sum", "weight", "reach", "is_held", "sum_of", "contrary", "_law_pool", "_law_take", "_law_fillings", "_law_is_so", "_law_holds", "_law_want", "_law_weight", "_law_reach", "_law_is_held", "_law_sum", "_law_is_whole", "_law_is_sum", "_law_bent"]
def loose : List Str := loose0
theorem run (w : World) : HandSHeadRun.RunEq R (PySem.W.view R.prog [27]) hk ob 4000 loose w := by
  intro os
  kernel_rfl
end LW
/-! PLA: running the mirrors. Each match is a function of its own here: the kernel compares a plain function's arguments, but runs a match. -/
namespace DP
open PySem L2
theorem nrf {α : Sort u} {a b : α} (h : a = b) : a = b := h
section
variable {α β : Type} {ρ : Dn}
def Rs.thn (r : Rs α) (k : α → Dn → Rs β) : Rs β := match r with | .ok a ρ' => k a ρ' | .ex e ρ' => .ex e ρ' | .no => .no
@[simp] theorem thn_ok (a : α) (k : α → Dn → Rs β) : (Rs.ok a ρ).thn k = k a ρ := nrf rfl
@[simp] theorem thn_no (k : α → Dn → Rs β) : (Rs.no).thn k = .no := nrf rfl
@[simp] theorem thn_ex (e : Exn) (k : α → Dn → Rs β) : (Rs.ex e ρ).thn k = .ex e ρ := nrf rfl
def Rs.thnS (r : Rs α) (k : α → Dn → Ou) : Ou := match r with | .ok a ρ' => k a ρ' | .ex e ρ' => .ex e ρ' | .no => .no
@[simp] theorem thnS_ok (a : α) (k : α → Dn → Ou) : (Rs.ok a ρ).thnS k = k a ρ := nrf rfl
@[simp] theorem thnS_no (k : α → Dn → Ou) : (Rs.no).thnS k = .no := nrf rfl
@[simp] theorem thnS_ex (e : Exn) (k : α → Dn → Ou) : (Rs.ex e ρ).thnS k = .ex e ρ := nrf rfl
def Ou.seq (o : Ou) (k : Dn → Ou) : Ou := match o with | .nx ρ' => k ρ' | o => o
@[simp] theorem seq_nx (k : Dn → Ou) : (Ou.nx ρ).seq k = k ρ := nrf rfl
@[simp] theorem seq_rt (r : Rv) (k : Dn → Ou) : (Ou.rt r ρ).seq k = .rt r ρ := nrf rfl
@[simp] theorem seq_bk (k : Dn → Ou) : (Ou.bk ρ).seq k = .bk ρ := nrf rfl
@[simp] theorem seq_ct (k : Dn → Ou) : (Ou.ct ρ).seq k = .ct ρ := nrf rfl
@[simp] theorem seq_ex (e : Exn) (k : Dn → Ou) : (Ou.ex e ρ).seq k = .ex e ρ := nrf rfl
@[simp] theorem seq_no (k : Dn → Ou) : (Ou.no).seq k = .no := nrf rfl
def optR (o : Option α) (ρ : Dn) : Rs α := match o with | some a => .ok a ρ | none => .no
@[simp] theorem optR_some (a : α) : optR (some a) ρ = .ok a ρ := nrf rfl
@[simp] theorem optR_none : optR (none : Option α) ρ = .no := nrf rfl
def varR (i : Nat) (o : Option (Option Sl)) (ρ : Dn) : Rs Rv := match o with | some (some (.imm d)) => .ok (.val d) ρ | some (some (.own _ _)) => .ok (.slot i) ρ | _ => .no
@[simp] theorem varR_imm (i : Nat) (d : PD) : varR i (some (some (.imm d))) ρ = .ok (.val d) ρ := nrf rfl
@[simp] theorem varR_own (i : Nat) (b : Bool) (d : PD) : varR i (some (some (.own b d))) ρ = .ok (.slot i) ρ := nrf rfl
def rdO (o : Option (Option Sl)) : Option PD := match o with | some (some s) => slD s | _ => none
@[simp] theorem rdO_imm (d : PD) : rdO (some (some (.imm d))) = some d := nrf rfl
@[simp] theorem rdO_own (b : Bool) (d : PD) : rdO (some (some (.own b d))) = some d := nrf rfl
def frzO (i : Nat) (o : Option (Option Sl)) (ρ : Dn) : Rs PD := match o with | some (some (.imm d)) => .ok d ρ | some (some (.own false d)) => .ok d (ρ.set i (some (.imm d))) | _ => .no
@[simp] theorem frzO_imm (i : Nat) (d : PD) : frzO i (some (some (.imm d))) ρ = .ok d ρ := nrf rfl
@[simp] theorem frzO_own (i : Nat) (d : PD) : frzO i (some (some (.own false d))) ρ = .ok d (ρ.set i (some (.imm d))) := nrf rfl
def consO (d : Option PD) (ds : Option (List PD)) : Option (List PD) := match d with | some d => ds.map (d :: ·) | none => none
@[simp] theorem consO_some (d : PD) (ds : List PD) : consO (some d) (some ds) = some (d :: ds) := nrf rfl
def boolR (d : PD) (ρ : Dn) : Rs Bool := match d with | .bool b => .ok b ρ | _ => .no
@[simp] theorem boolR_bool (b : Bool) : boolR (.bool b) ρ = .ok b ρ := nrf rfl
def optS (o : Option Dn) : Ou := match o with | some ρ' => .nx ρ' | none => .no
@[simp] theorem optS_some : optS (some ρ) = .nx ρ := nrf rfl
def optD (o : Option Dn) (k : Dn → Option Dn) : Option Dn := match o with | some ρ' => k ρ' | none => none
@[simp] theorem optD_some (k : Dn → Option Dn) : optD (some ρ) k = k ρ := nrf rfl
def freeO : Option Sl → Bool
  | some (.own true _) => false
  | _ => true
@[simp] theorem freeO_none : freeO none = true := nrf rfl
@[simp] theorem freeO_imm (d : PD) : freeO (some (.imm d)) = true := nrf rfl
@[simp] theorem freeO_own (d : PD) : freeO (some (.own false d)) = true := nrf rfl
@[simp] theorem freeO_in (d : PD) : freeO (some (.own true d)) = false := nrf rfl
def freeOO (o : Option (Option Sl)) : Bool := match o with | some o => freeO o | none => false
@[simp] theorem freeOO_some (o : Option Sl) : freeOO (some o) = freeO o := nrf rfl
def putO (i j : Nat) (o : Option (Option Sl)) (ρ : Dn) : Ou := match o with
  | some (some (.imm d)) => .nx (ρ.set i (some (.imm d)))
  | some (some (.own false d)) => .nx ((ρ.set j (some (.imm d))).set i (some (.imm d)))
  | _ => .no
@[simp] theorem putO_imm (i j : Nat) (d : PD) : putO i j (some (some (.imm d))) ρ = .nx (ρ.set i (some (.imm d))) := nrf rfl
@[simp] theorem putO_own (i j : Nat) (d : PD) : putO i j (some (some (.own false d))) ρ = .nx ((ρ.set j (some (.imm d))).set i (some (.imm d))) := nrf rfl
def putV (i : Nat) (r : Rv) (ρ : Dn) : Ou := match r with | .val d => .nx (ρ.set i (some (.imm d))) | .fresh d => .nx (ρ.set i (some (.own false d))) | .slot j => putO i j ρ[j]? ρ
@[simp] theorem putV_val (i : Nat) (d : PD) : putV i (.val d) ρ = .nx (ρ.set i (some (.imm d))) := nrf rfl
@[simp] theorem putV_fresh (i : Nat) (d : PD) : putV i (.fresh d) ρ = .nx (ρ.set i (some (.own false d))) := nrf rfl
@[simp] theorem putV_slot (i j : Nat) : putV i (.slot j) ρ = putO i j ρ[j]? ρ := nrf rfl
@[simp] theorem bnd_ap (m : M α) (k : α → M β) : bnd m k ρ = (m ρ).thn fun a ρ' => k a ρ' := nrf rfl
@[simp] theorem bndS_ap (m : M α) (k : α → SM) : bndS m k ρ = (m ρ).thnS fun a ρ' => k a ρ' := nrf rfl
@[simp] theorem retM_ap (a : α) : retM a ρ = .ok a ρ := nrf rfl
@[simp] theorem noM_ap : (noM : M α) ρ = .no := nrf rfl
@[simp] theorem chk_ap (b : Bool) : chk b ρ = if b = true then .ok () ρ else .no := nrf rfl
@[simp] theorem eVar_ap (i : Nat) : eVar i ρ = varR i ρ[i]? ρ := nrf rfl
@[simp] theorem eC_ap (d : PD) : eC d ρ = .ok (.val d) ρ := nrf rfl
@[simp] theorem rdM_ap (r : Rv) : rdM r ρ = optR (rd r ρ) ρ := by
  refine nrf ?_
  unfold rdM optR
  cases rd r ρ <;> rfl
@[simp] theorem rdsM_ap (r : List Rv) : rdsM r ρ = optR (rds r ρ) ρ := by
  refine nrf ?_
  unfold rdsM optR
  cases rds r ρ <;> rfl
@[simp] theorem rd_val (d : PD) : rd (.val d) ρ = some d := nrf rfl
@[simp] theorem rd_fresh (d : PD) : rd (.fresh d) ρ = some d := nrf rfl
@[simp] theorem rd_slot (i : Nat) : rd (.slot i) ρ = rdO ρ[i]? := nrf rfl
@[simp] theorem rds_nil : rds [] ρ = some [] := nrf rfl
@[simp] theorem rds_cons (r : Rv) (rs : List Rv) : rds (r :: rs) ρ = consO (rd r ρ) (rds rs ρ) := nrf rfl
@[simp] theorem frz_val (d : PD) : frz (.val d) ρ = .ok d ρ := nrf rfl
@[simp] theorem frz_fresh (d : PD) : frz (.fresh d) ρ = .ok d ρ := nrf rfl
@[simp] theorem frz_slot (i : Nat) : frz (.slot i) ρ = frzO i ρ[i]? ρ := nrf rfl
@[simp] theorem frzs_nil : frzs [] ρ = .ok [] ρ := nrf rfl
@[simp] theorem frzs_cons (r : Rv) (rs : List Rv) : frzs (r :: rs) ρ = (frz r ρ).thn fun d ρ' => (frzs rs ρ').thn fun ds ρ'' => .ok (d :: ds) ρ'' := nrf rfl
@[simp] theorem fin_some (c : Rc) : fin (some c) ρ = .ok c.rv ρ := nrf rfl
@[simp] theorem aNil_ap : aNil ρ = .ok [] ρ := nrf rfl
@[simp] theorem aCons_ap (a : M Rv) (b : M (List Rv)) : aCons a b ρ = (a ρ).thn fun x ρ' => (b ρ').thn fun xs ρ'' => .ok (x :: xs) ρ'' := nrf rfl
@[simp] theorem eOp2_ap (g : PD → PD → Option Rc) (a b : M Rv) : eOp2 g a b ρ = (a ρ).thn fun x ρ => (b ρ).thn fun y ρ => (rdM x ρ).thn fun d1 ρ => (rdM y ρ).thn fun d2 ρ => fin (g d1 d2) ρ := nrf rfl
@[simp] theorem eOp1_ap (g : PD → Option Rc) (a : M Rv) : eOp1 g a ρ = (a ρ).thn fun x ρ => (rdM x ρ).thn fun d1 ρ => fin (g d1) ρ := nrf rfl
@[simp] theorem eOpN_ap (g : List PD → Option Rc) (a : M (List Rv)) : eOpN g a ρ = (a ρ).thn fun xs ρ => (rdsM xs ρ).thn fun ds ρ => fin (g ds) ρ := nrf rfl
@[simp] theorem eTup_ap (a : M (List Rv)) : eTup a ρ = (a ρ).thn fun rs ρ => (frzs rs ρ).thn fun ds ρ => (chk (smallL ds.length) ρ).thn fun _ ρ => .ok (.val (.tuple ds)) ρ := nrf rfl
@[simp] theorem eLst_ap (a : M (List Rv)) : eLst a ρ = (a ρ).thn fun rs ρ => (frzs rs ρ).thn fun ds ρ => (chk (smallL ds.length) ρ).thn fun _ ρ => .ok (.fresh (.list ds)) ρ := nrf rfl
@[simp] theorem tBool_ap (f : M Rv) : tBool f ρ = (f ρ).thn fun r ρ => (rdM r ρ).thn fun d ρ => boolR d ρ := by
  refine nrf ?_
  unfold tBool
  rw [bnd_ap]
  congr 1
  funext r ρ1
  rw [bnd_ap]
  congr 1
  funext d ρ2
  cases d <;> rfl
@[simp] theorem tAnd_ap (a b : M Bool) : tAndM a b ρ = (a ρ).thn fun k ρ => if k = true then b ρ else .ok false ρ := by
  refine nrf ?_
  unfold tAndM
  rw [bnd_ap]
  congr 1
  funext k ρ1
  cases k <;> rfl
@[simp] theorem tOr_ap (a b : M Bool) : tOrM a b ρ = (a ρ).thn fun k ρ => if k = true then .ok true ρ else b ρ := by
  refine nrf ?_
  unfold tOrM
  rw [bnd_ap]
  congr 1
  funext k ρ1
  cases k <;> rfl
@[simp] theorem tNot_ap (a : M Bool) : tNotM a ρ = (a ρ).thn fun k ρ => .ok (!k) ρ := nrf rfl
@[simp] theorem eIf_ap (c : M Bool) (a b : M Rv) : eIf c a b ρ = (c ρ).thn fun k ρ => if k = true then a ρ else b ρ := by
  refine nrf ?_
  unfold eIf
  rw [bnd_ap]
  congr 1
  funext k ρ1
  cases k <;> rfl
@[simp] theorem eIsN_ap (a : M Rv) : eIsN a ρ = (a ρ).thn fun x ρ => (rdM x ρ).thn fun d ρ => .ok (.val (.bool (isNone d))) ρ := nrf rfl
@[simp] theorem eNotN_ap (a : M Rv) : eNotN a ρ = (a ρ).thn fun x ρ => (rdM x ρ).thn fun d ρ => .ok (.val (.bool (!isNone d))) ρ := nrf rfl
@[simp] theorem eFz_ap (f : M Rv) : eFz f ρ = (f ρ).thn fun r ρ => (frz r ρ).thn fun d ρ => .ok (.val d) ρ := nrf rfl
@[simp] theorem sSeq_ap (a b : SM) : sSeq a b ρ = (a ρ).seq b := nrf rfl
@[simp] theorem sNil_ap : sNil ρ = .nx ρ := nrf rfl
@[simp] theorem sRet_ap (f : M Rv) : sRet f ρ = (f ρ).thnS fun r ρ => .rt r ρ := nrf rfl
@[simp] theorem sIf_ap (c : M Bool) (a b : SM) : sIf c a b ρ = (c ρ).thnS fun k ρ => if k = true then a ρ else b ρ := by
  refine nrf ?_
  unfold sIf
  rw [bndS_ap]
  congr 1
  funext k ρ1
  cases k <;> rfl
@[simp] theorem sSet_ap (i : Nat) (f : M Rv) : sSet i f ρ = (f ρ).thnS fun r ρ => putR i r ρ := nrf rfl
@[simp] theorem free_ap (i : Nat) : freeSl ρ i = freeOO ρ[i]? := by
  refine nrf ?_
  unfold freeSl
  cases ρ[i]? with
  | none => rfl
  | some o => cases o with
    | none => rfl
    | some s => cases s with
      | own b d => cases b <;> rfl
      | _ => rfl
@[simp] theorem putR_ap (i : Nat) (r : Rv) : putR i r ρ = if freeSl ρ i = true then putV i r ρ else .no := by
  refine nrf ?_
  unfold putR putV
  cases r <;> rfl
@[simp] theorem sAsg_ap (f : M Rv) (g : PD → Dn → Option Dn) : sAsg f g ρ = (f ρ).thnS fun r ρ => (frz r ρ).thnS fun d ρ => optS (g d ρ) := by
  refine nrf ?_
  unfold sAsg
  rw [bndS_ap]
  congr 1
@[simp] theorem gNm_ap (i : Nat) (d : PD) : gNm i d ρ = if freeSl ρ i = true then some (ρ.set i (some (.imm d))) else none := nrf rfl
@[simp] theorem gTupM_ap (gs : List PD → Dn → Option Dn) (ds : List PD) : gTupM gs (.tuple ds) ρ = gs ds ρ := nrf rfl
@[simp] theorem gsNil_ap : gsNil [] ρ = some ρ := nrf rfl
@[simp] theorem gsCons_ap (g : PD → Dn → Option Dn) (gs : List PD → Dn → Option Dn) (d : PD) (ds : List PD) : gsCons g gs (d :: ds) ρ = optD (g d ρ) (gs ds) := nrf rfl
@[simp] theorem sFor_ap (it : M (List PD)) (g : PD → Dn → Option Dn) (body : SM) : sFor it g body ρ = (it ρ).thnS fun ds ρ => forL g body ds ρ := nrf rfl
@[simp] theorem iSeqM_ap (f : M Rv) : iSeqM f ρ = (f ρ).thn fun r ρ => (frz r ρ).thn fun d ρ => itemsOf d ρ := nrf rfl
@[simp] theorem itemsOf_l (ds : List PD) : itemsOf (.list ds) ρ = .ok ds ρ := nrf rfl
@[simp] theorem itemsOf_t (ds : List PD) : itemsOf (.tuple ds) ρ = .ok ds ρ := nrf rfl
/-! a def's body -/
@[simp] theorem startD_ap (n : Nat) (ms : List Bool) (ds : List PD) : startD n ms ds = argD ms ds ++ List.replicate (n - ms.length) none := nrf rfl
@[simp] theorem argD_cons (m : Bool) (ms : List Bool) (d : PD) (ds : List PD) : argD (m :: ms) (d :: ds) = slOf m d :: argD ms ds := nrf rfl
@[simp] theorem argD_nil (ds : List PD) : argD [] ds = [] := nrf rfl
@[simp] theorem slOf_t (d : PD) : slOf true d = some (.own true d) := nrf rfl
@[simp] theorem slOf_f (d : PD) : slOf false d = some (.imm d) := nrf rfl
def outO (o : Option (Option Sl)) (ds : Option (List PD)) : Option (List PD) := match o with | some (some (.own true d)) => ds.map (d :: ·) | _ => none
@[simp] theorem outO_own (d : PD) (ds : List PD) : outO (some (some (.own true d))) (some ds) = some (d :: ds) := nrf rfl
@[simp] theorem outs_nil (i : Nat) : outsAt ρ i [] = some [] := nrf rfl
@[simp] theorem outs_f (i : Nat) (ms : List Bool) : outsAt ρ i (false :: ms) = outsAt ρ (i + 1) ms := nrf rfl
@[simp] theorem outs_t (i : Nat) (ms : List Bool) : outsAt ρ i (true :: ms) = outO ρ[i]? (outsAt ρ (i + 1) ms) := nrf rfl
def resO (o : Option (Option Sl)) : Option Rc := match o with | some (some (.imm d)) => some (.val d) | some (some (.own false d)) => some (.fresh d) | _ => none
@[simp] theorem resO_imm (d : PD) : resO (some (some (.imm d))) = some (.val d) := nrf rfl
@[simp] theorem resO_own (d : PD) : resO (some (some (.own false d))) = some (.fresh d) := nrf rfl
@[simp] theorem res_val (d : PD) : resOf ρ (.val d) = some (.val d) := nrf rfl
@[simp] theorem res_fresh (d : PD) : resOf ρ (.fresh d) = some (.fresh d) := nrf rfl
@[simp] theorem res_slot (i : Nat) : resOf ρ (.slot i) = resO ρ[i]? := nrf rfl
def retF (o : Option (List PD)) (c : Option Rc) : FR := match o, c with | some o, some c => .ok c o | _, _ => .no
@[simp] theorem retF_some (o : List PD) (c : Rc) : retF (some o) (some c) = .ok c o := nrf rfl
def exF (e : Exn) (o : Option (List PD)) : FR := match o with | some o => .ex e o | none => .no
@[simp] theorem exF_some (e : Exn) (o : List PD) : exF e (some o) = .ex e o := nrf rfl
def endF (ms : List Bool) (o : Ou) : FR := match o with
  | .nx ρ => retF (outsAt ρ 0 ms) (some (.val .none))
  | .rt r ρ => retF (outsAt ρ 0 ms) (resOf ρ r)
  | .ex e ρ => exF e (outsAt ρ 0 ms)
  | _ => .no
@[simp] theorem endF_nx (ms : List Bool) : endF ms (.nx ρ) = retF (outsAt ρ 0 ms) (some (.val .none)) := nrf rfl
@[simp] theorem endF_rt (ms : List Bool) (r : Rv) : endF ms (.rt r ρ) = retF (outsAt ρ 0 ms) (resOf ρ r) := nrf rfl
@[simp] theorem endF_ex (ms : List Bool) (e : Exn) : endF ms (.ex e ρ) = exF e (outsAt ρ 0 ms) := nrf rfl
@[simp] theorem runF_ap (n : Nat) (ms : List Bool) (b : SM) (ds : List PD) : runF n ms b ds = endF ms (b (startD n ms ds)) := by
  refine nrf ?_
  unfold runF endF retF exF
  cases b (startD n ms ds) with
  | nx ρ => dsimp only; cases outsAt ρ 0 ms <;> rfl
  | rt r ρ => rfl
  | _ => rfl
@[simp] theorem calm_ok (c : Rc) (o : List PD) : (FR.ok c o).calm = .ok c o := nrf rfl
@[simp] theorem rv_val (d : PD) : (Rc.val d).rv = .val d := nrf rfl
@[simp] theorem rv_fresh (d : PD) : (Rc.fresh d).rv = .fresh d := nrf rfl
end
end DP
/-! PLB: comprehensions and loops, run. -/
namespace DP
open PySem L2
theorem back_wipe {ρ : Dn} : ∀ {vs : List Nat}, okW ρ vs = true → backD ρ (wipeD ρ vs) vs = ρ := by
  intro vs h
  apply List.ext_getElem?
  intro i
  by_cases hi : i ∈ vs
  · have hv := List.all_eq_true.mp h i hi
    cases e : ρ[i]? with
    | none => rw [e] at hv; cases hv
    | some o =>
      have hl : i < ρ.length := (List.getElem?_eq_some_iff.mp e).1
      rw [backD_in (by rw [wipeD_len]; exact hl) hi, e]
      rfl
  · rw [backD_out hi, wipeD_out hi]
/-- a comprehension whose tests and items leave the slots as they are -/
theorem eComp_run {it : M (List PD)} {g : PD → Dn → Option Dn} {vs : List Nat} {cond : M Bool} {elt : M Rv} {ρ ρ1 : Dn} {α : Type} {enc : α → PD} {xs : List α} (p : α → Bool) (f : α → PD)
    (hi : it ρ = .ok (xs.map enc) ρ1) (hw : okW ρ1 vs = true) (hz : xs.length ≤ 10000000)
    (h : ∀ x ∈ xs, ∃ ρ2 ρ3, g (enc x) (wipeD ρ1 vs) = some ρ2 ∧ cond ρ2 = .ok (p x) ρ3 ∧ (p x = false → wipeD ρ3 vs = wipeD ρ1 vs) ∧ (p x = true → ∃ ρ4, bnd elt frz ρ3 = .ok (f x) ρ4 ∧ wipeD ρ4 vs = wipeD ρ1 vs)) :
    eComp it g vs cond elt ρ = .ok (.fresh (.list ((xs.filter p).map f))) ρ1 := by
  have key : ∀ (ys : List α) (acc : List PD), (∀ y ∈ ys, y ∈ xs) → acc.length + ys.length ≤ 10000000 → compL g vs cond (bnd elt frz) (ys.map enc) acc (wipeD ρ1 vs) = .ok (acc ++ (ys.filter p).map f) (wipeD ρ1 vs) := by
    intro ys
    induction ys with
    | nil => intro acc _ _; simp [compL]
    | cons y ys ih =>
      intro acc hy hl
      simp only [List.length_cons] at hl
      obtain ⟨ρ2, ρ3, e1, e2, e3, e4⟩ := h y (hy y (List.mem_cons_self ..))
      simp only [List.map_cons, compL, e1, e2]
      cases hp : p y with
      | false =>
        simp only [e3 hp, List.filter_cons, hp]
        exact ih acc (fun z hz => hy z (List.mem_cons_of_mem _ hz)) (by omega)
      | true =>
        obtain ⟨ρ4, e5, e6⟩ := e4 hp
        have hs : smallL acc.length = true := by simp [smallL]; omega
        simp only [e5, hs, if_true, e6, List.filter_cons, hp, List.map_cons]
        rw [ih (acc ++ [f y]) (fun z hz => hy z (List.mem_cons_of_mem _ hz)) (by simp; omega)]
        simp
  unfold eComp
  rw [bnd_ap, hi]
  simp only [hw, if_true, thn_ok]
  rw [key xs [] (fun _ h => h) (by simpa using hz)]
  simp [back_wipe hw]
/-- what a loop asks of its body's end: P of the frame to go on with, Q of an end -/
def Ou.steps (o : Ou) (P : Dn → Prop) (Q : Ou → Prop) : Prop := match o with
  | .nx ρ2 => P ρ2
  | .ct ρ2 => P ρ2
  | .bk ρ2 => Q (.nx ρ2)
  | .no => False
  | o => Q o
section
variable {P : Dn → Prop} {Q : Ou → Prop} {ρ : Dn}
@[simp] theorem steps_nx : (Ou.nx ρ).steps P Q = P ρ := nrf rfl
@[simp] theorem steps_ct : (Ou.ct ρ).steps P Q = P ρ := nrf rfl
@[simp] theorem steps_bk : (Ou.bk ρ).steps P Q = Q (.nx ρ) := nrf rfl
@[simp] theorem steps_rt (r : Rv) : (Ou.rt r ρ).steps P Q = Q (.rt r ρ) := nrf rfl
@[simp] theorem steps_ex (r : Exn) : (Ou.ex r ρ).steps P Q = Q (.ex r ρ) := nrf rfl
end
/-- a loop by its invariant -/
theorem forL_inv {g : PD → Dn → Option Dn} {body : SM} {α : Type} {enc : α → PD} {Q : Ou → Prop} (I : List α → Dn → Prop) {xs : List α} {ρ : Dn} (h0 : I [] ρ)
    (hs : ∀ ys y zs ρ, xs = ys ++ y :: zs → I ys ρ → ∃ ρ1, g (enc y) ρ = some ρ1 ∧ (body ρ1).steps (I (ys ++ [y])) Q)
    (hn : ∀ ρ, I xs ρ → Q (.nx ρ)) : Q (forL g body (xs.map enc) ρ) := by
  have key : ∀ (zs ys : List α) (ρ : Dn), xs = ys ++ zs → I ys ρ → Q (forL g body (zs.map enc) ρ) := by
    intro zs
    induction zs with
    | nil => intro ys ρ e h; simp at e; subst e; exact hn ρ h
    | cons z zs ih =>
      intro ys ρ e h
      obtain ⟨ρ1, e1, e2⟩ := hs ys z zs ρ e h
      simp only [List.map_cons, forL, e1]
      have e' : xs = (ys ++ [z]) ++ zs := by simp [e]
      cases eb : body ρ1 <;> rw [eb] at e2 <;> simp only [Ou.steps] at e2 ⊢
      · exact ih _ _ e' e2
      · exact e2
      · exact e2
      · exact ih _ _ e' e2
      · exact e2
  exact key xs [] ρ rfl h0
/-- the same, where the loop is a fold -/
theorem forL_fold {g : PD → Dn → Option Dn} {body : SM} {α σ : Type} {enc : α → PD} (S : σ → Dn → Prop) (step : σ → α → σ) {xs : List α} {s : σ} {ρ : Dn} (h0 : S s ρ)
    (hs : ∀ t x ρ, x ∈ xs → S t ρ → ∃ ρ1 ρ2, g (enc x) ρ = some ρ1 ∧ (body ρ1 = .nx ρ2 ∨ body ρ1 = .ct ρ2) ∧ S (step t x) ρ2) : ∃ ρ', forL g body (xs.map enc) ρ = .nx ρ' ∧ S (xs.foldl step s) ρ' := by
  induction xs generalizing s ρ with
  | nil => exact ⟨ρ, rfl, h0⟩
  | cons x xs ih =>
    obtain ⟨ρ1, ρ2, e1, e2, h2⟩ := hs s x ρ (List.mem_cons_self ..) h0
    obtain ⟨ρ', e3, h3⟩ := ih h2 fun t y ρ hy => hs t y ρ (List.mem_cons_of_mem _ hy)
    refine ⟨ρ', ?_, h3⟩
    simp only [List.map_cons, forL, e1]
    rcases e2 with e2 | e2 <;> rw [e2] <;> exact e3
/-! sums, marks -/
abbrev Sm := List (Int × Int) × Int
def dTerm (t : Int × Int) : PD := .tuple [.int t.1, .int t.2]
def dSum (s : Sm) : PD := .tuple [.tuple (s.1.map dTerm), .int s.2]
def dInts (ks : List Int) : PD := .list (ks.map .int)
def dKn (ks : List Int) : PD := .dict (ks.map fun k => (.int k, .bool true))
theorem look_kn (k : Int) : ∀ ks : List Int, look (.inl k) (ks.map fun k => ((.int k, .bool true) : PD × PD)) = if k ∈ ks then some (.bool true) else none
  | [] => rfl
  | x :: ks => by
    simp only [List.map_cons, look, keyIsD, look_kn k ks, List.mem_cons]
    by_cases h : x = k
    · simp [h]
    · have h' : ¬ k = x := fun e => h e.symm
      simp [h, h']
theorem intsOf_map : ∀ ks : List Int, intsOf (ks.map .int) = some ks
  | [] => rfl
  | k :: ks => by simp [intsOf, intsOf_map ks]
theorem intsOf_map' {α : Type} (f : α → Int) : ∀ ks : List α, intsOf (ks.map fun k => .int (f k)) = some (ks.map f)
  | [] => rfl
  | k :: ks => by simp [intsOf, intsOf_map' f ks]
end DP
namespace DP
open PySem L2
theorem eComp_all {it : M (List PD)} {g : PD → Dn → Option Dn} {vs : List Nat} {cond : M Bool} {elt : M Rv} {ρ ρ1 : Dn} {α : Type} {enc : α → PD} {xs : List α} (f : α → PD)
    (hi : it ρ = .ok (xs.map enc) ρ1) (hw : okW ρ1 vs = true) (hz : xs.length ≤ 10000000)
    (h : ∀ x ∈ xs, ∃ ρ2 ρ3, g (enc x) (wipeD ρ1 vs) = some ρ2 ∧ cond ρ2 = .ok true ρ3 ∧ ∃ ρ4, bnd elt frz ρ3 = .ok (f x) ρ4 ∧ wipeD ρ4 vs = wipeD ρ1 vs) :
    eComp it g vs cond elt ρ = .ok (.fresh (.list (xs.map f))) ρ1 := by
  have e : xs.filter (fun _ => true) = xs := by simp
  have := eComp_run (p := fun _ => true) f hi hw hz fun x hx => by
    obtain ⟨a, b, h1, h2, c, h3, h4⟩ := h x hx
    exact ⟨a, b, h1, h2, fun z => (Bool.noConfusion z), fun _ => ⟨c, h3, h4⟩⟩
  rw [e] at this
  exact this
end DP
namespace DP
open PySem L2
def immO (o : Option Sl) : Bool := match o with
  | none => true
  | some (.imm _) => true
  | _ => false
@[simp] theorem immO_none : immO none = true := nrf rfl
@[simp] theorem immO_imm (d : PD) : immO (some (.imm d)) = true := nrf rfl
def immOO (o : Option (Option Sl)) : Bool := match o with | some o => immO o | none => false
@[simp] theorem immOO_some (o : Option Sl) : immOO (some o) = immO o := nrf rfl
@[simp] theorem okW_nil (ρ : Dn) : okW ρ [] = true := nrf rfl
@[simp] theorem okW_cons (ρ : Dn) (v : Nat) (vs : List Nat) : okW ρ (v :: vs) = (immOO ρ[v]? && okW ρ vs) := by
  refine nrf ?_
  unfold okW
  rw [List.all_cons]
  congr 1
  cases ρ[v]? with
  | none => rfl
  | some o => cases o with
    | none => rfl
    | some s => cases s <;> rfl
@[simp] theorem wipeD_nil (ρ : Dn) : wipeD ρ [] = ρ := nrf rfl
@[simp] theorem wipeD_cons (ρ : Dn) (v : Nat) (vs : List Nat) : wipeD ρ (v :: vs) = (wipeD ρ vs).set v none := nrf rfl
theorem immO_free {o : Option Sl} (h : immO o = true) : freeO o = true := by
  cases o with
  | none => rfl
  | some s => cases s with
    | imm d => rfl
    | own b d => cases h
    | scr n => cases h
end DP
/-! PLC: calls, stores, loops over ranges. -/
namespace DP
open PySem L2
section
variable {ρ : Dn}
def callR (os : List Nat) (l k : Bool) (r : FR) (ρ : Dn) : Rs Rv := match r with
  | .ok c outs => if (cleanRc l k c && outs.all (cleanTop l k)) = true then .ok c.rv (setOuts os outs ρ) else .no
  | .ex e outs => if ((e.fs.map (·.2)).all (clean l k) && outs.all (cleanTop l k)) = true then .ex e (setOuts os outs ρ) else .no
  | .no => .no
@[simp] theorem callR_ok (os : List Nat) (l k : Bool) (c : Rc) (outs : List PD) : callR os l k (.ok c outs) ρ = if (cleanRc l k c && outs.all (cleanTop l k)) = true then .ok c.rv (setOuts os outs ρ) else .no := nrf rfl
@[simp] theorem callR_ex (os : List Nat) (l k : Bool) (e : Exn) (outs : List PD) : callR os l k (.ex e outs) ρ = if ((e.fs.map (·.2)).all (clean l k) && outs.all (cleanTop l k)) = true then .ex e (setOuts os outs ρ) else .no := nrf rfl
def callO (m : List PD → FR) (o : Option (List PD × List Nat × List Nat)) (ρ : Dn) : Rs Rv := match o with
  | none => .no
  | some (ds, bs, os) => if okBO bs os = true then callR os (bs.any (isOwnL ρ)) (bs.any (isOwnD ρ)) (m ds) ρ else .no
@[simp] theorem callO_some (m : List PD → FR) (ds : List PD) (bs os : List Nat) : callO m (some (ds, bs, os)) ρ = if okBO bs os = true then callR os (bs.any (isOwnL ρ)) (bs.any (isOwnD ρ)) (m ds) ρ else .no := nrf rfl
@[simp] theorem eCall_ap (ms : List Bool) (m : List PD → FR) (fa : M (List Rv)) : eCall ms m fa ρ = (fa ρ).thn fun rs ρ => callO m (prep ms rs ρ) ρ := by
  refine nrf ?_
  unfold eCall
  rw [bnd_ap]
  congr 1
def prepV (d : PD) (o : Option (List PD × List Nat × List Nat)) : Option (List PD × List Nat × List Nat) := match o with
  | some (ds, bs, os) => some (d :: ds, bs, os)
  | none => none
@[simp] theorem prepV_some (d : PD) (ds : List PD) (bs os : List Nat) : prepV d (some (ds, bs, os)) = some (d :: ds, bs, os) := nrf rfl
def prepS (i : Nat) (w : Bool) (d : Option PD) (o : Option (List PD × List Nat × List Nat)) : Option (List PD × List Nat × List Nat) := match d, o with
  | some d, some (ds, bs, os) => some (d :: ds, (if w = true then i :: bs else bs), os)
  | _, _ => none
@[simp] theorem prepS_some (i : Nat) (w : Bool) (d : PD) (ds : List PD) (bs os : List Nat) : prepS i w (some d) (some (ds, bs, os)) = some (d :: ds, (if w = true then i :: bs else bs), os) := nrf rfl
def prepT (i : Nat) (d : Option (Option Sl)) (o : Option (List PD × List Nat × List Nat)) : Option (List PD × List Nat × List Nat) := match d, o with
  | some (some (.own _ d)), some (ds, bs, os) => if os.contains i = true then none else some (d :: ds, bs, i :: os)
  | _, _ => none
@[simp] theorem prepT_some (i : Nat) (b : Bool) (d : PD) (ds : List PD) (bs os : List Nat) : prepT i (some (some (.own b d))) (some (ds, bs, os)) = if os.contains i = true then none else some (d :: ds, bs, i :: os) := nrf rfl
@[simp] theorem prep_nil : prep [] [] ρ = some ([], [], []) := nrf rfl
@[simp] theorem prep_val (ms : List Bool) (d : PD) (rs : List Rv) : prep (false :: ms) (.val d :: rs) ρ = prepV d (prep ms rs ρ) := by
  refine nrf ?_
  rw [prep]; simp only [rd]; cases prep ms rs ρ <;> rfl
@[simp] theorem prep_fresh (ms : List Bool) (d : PD) (rs : List Rv) : prep (false :: ms) (.fresh d :: rs) ρ = prepV d (prep ms rs ρ) := by
  refine nrf ?_
  rw [prep]; simp only [rd]; cases prep ms rs ρ <;> rfl
@[simp] theorem prep_slot (ms : List Bool) (i : Nat) (rs : List Rv) : prep (false :: ms) (.slot i :: rs) ρ = prepS i (isOwn ρ i) (rd (.slot i) ρ) (prep ms rs ρ) := by
  refine nrf ?_
  rw [prep]
  cases rd (.slot i) ρ <;> cases prep ms rs ρ <;> rfl
@[simp] theorem prep_t (ms : List Bool) (i : Nat) (rs : List Rv) : prep (true :: ms) (.slot i :: rs) ρ = prepT i ρ[i]? (prep ms rs ρ) := by
  refine nrf ?_
  rw [prep]
  unfold prepT
  cases ρ[i]? with
  | none => rfl
  | some o => cases o with
    | none => rfl
    | some s => cases s <;> cases prep ms rs ρ <;> rfl
@[simp] theorem okBO_nil (bs : List Nat) : okBO bs [] = true := nrf rfl
@[simp] theorem okBO_cons (bs : List Nat) (i : Nat) (os : List Nat) : okBO bs (i :: os) = (!bs.contains i && okBO bs os) := nrf rfl
@[simp] theorem setOuts_nil (ds : List PD) : setOuts [] ds ρ = ρ := nrf rfl
@[simp] theorem setOuts_cons (i : Nat) (os : List Nat) (d : PD) (ds : List PD) : setOuts (i :: os) (d :: ds) ρ = setOuts os ds (setOwn ρ i d) := nrf rfl
def setO (i : Nat) (d : PD) (o : Option (Option Sl)) (ρ : Dn) : Dn := match o with | some (some (.own b _)) => ρ.set i (some (.own b d)) | _ => ρ
@[simp] theorem setO_own (i : Nat) (d e : PD) (b : Bool) : setO i d (some (some (.own b e))) ρ = ρ.set i (some (.own b d)) := nrf rfl
@[simp] theorem setOwn_ap (i : Nat) (d : PD) : setOwn ρ i d = setO i d ρ[i]? ρ := by
  refine nrf ?_
  unfold setOwn setO
  rfl
def ownO (o : Option (Option Sl)) : Bool := match o with | some (some (.own _ _)) => true | _ => false
@[simp] theorem ownO_own (b : Bool) (d : PD) : ownO (some (some (.own b d))) = true := nrf rfl
@[simp] theorem ownO_imm (d : PD) : ownO (some (some (.imm d))) = false := nrf rfl
def ownLO (o : Option (Option Sl)) : Bool := match o with | some (some (.own _ (.list _))) => true | _ => false
@[simp] theorem ownLO_l (b : Bool) (d : List PD) : ownLO (some (some (.own b (.list d)))) = true := nrf rfl
@[simp] theorem ownLO_d (b : Bool) (d : List (PD × PD)) : ownLO (some (some (.own b (.dict d)))) = false := nrf rfl
def ownDO (o : Option (Option Sl)) : Bool := match o with | some (some (.own _ (.dict _))) => true | _ => false
@[simp] theorem ownDO_l (b : Bool) (d : List PD) : ownDO (some (some (.own b (.list d)))) = false := nrf rfl
@[simp] theorem ownDO_d (b : Bool) (d : List (PD × PD)) : ownDO (some (some (.own b (.dict d)))) = true := nrf rfl
@[simp] theorem isOwn_ap (i : Nat) : isOwn ρ i = ownO ρ[i]? := nrf (by unfold isOwn ownO; rfl)
@[simp] theorem isOwnL_ap (i : Nat) : isOwnL ρ i = ownLO ρ[i]? := nrf (by unfold isOwnL ownLO; rfl)
@[simp] theorem isOwnD_ap (i : Nat) : isOwnD ρ i = ownDO ρ[i]? := nrf (by unfold isOwnD ownDO; rfl)
mutual
theorem clean_ff : ∀ d : PD, clean false false d = true
  | .list ds => by simp [clean, cleanAll_ff ds]
  | .tuple ds => by simp [clean, cleanAll_ff ds]
  | .dict ds => by simp [clean, cleanKV_ff ds]
  | .none => rfl
  | .bool _ => rfl
  | .int _ => rfl
  | .str _ => rfl
theorem cleanAll_ff : ∀ d : List PD, cleanAll false false d = true
  | [] => rfl
  | d :: ds => by simp [cleanAll, clean_ff d, cleanAll_ff ds]
theorem cleanKV_ff : ∀ d : List (PD × PD), cleanKV false false d = true
  | [] => rfl
  | (_, d) :: ds => by simp [cleanKV, clean_ff d, cleanKV_ff ds]
end
@[simp] theorem cleanff (d : PD) : clean false false d = true := clean_ff d
@[simp] theorem cleanAllff (d : List PD) : cleanAll false false d = true := cleanAll_ff d
@[simp] theorem cleanKVff (d : List (PD × PD)) : cleanKV false false d = true := cleanKV_ff d
@[simp] theorem cleanTopff (d : PD) : cleanTop false false d = true := by cases d <;> simp [cleanTop, cleanAll_ff, cleanKV_ff, clean_ff]
@[simp] theorem cleanRcff (c : Rc) : cleanRc false false c = true := by cases c <;> simp [cleanRc]
@[simp] theorem cleanRc_val (l k : Bool) (d : PD) : cleanRc l k (.val d) = clean l k d := nrf rfl
@[simp] theorem cleanRc_fresh (l k : Bool) (d : PD) : cleanRc l k (.fresh d) = cleanTop l k d := nrf rfl
@[simp] theorem clean_int (l k : Bool) (i : Int) : clean l k (.int i) = true := nrf rfl
@[simp] theorem clean_bool (l k : Bool) (i : Bool) : clean l k (.bool i) = true := nrf rfl
@[simp] theorem clean_str (l k : Bool) (i : Str) : clean l k (.str i) = true := nrf rfl
@[simp] theorem clean_none (l k : Bool) : clean l k .none = true := nrf rfl
@[simp] theorem clean_tup (l k : Bool) (ds : List PD) : clean l k (.tuple ds) = cleanAll l k ds := by simp [clean]
@[simp] theorem clean_lst (l k : Bool) (ds : List PD) : clean l k (.list ds) = (!l && cleanAll l k ds) := by simp [clean]
@[simp] theorem clean_dct (l k : Bool) (ds : List (PD × PD)) : clean l k (.dict ds) = (!k && cleanKV l k ds) := by simp [clean]
@[simp] theorem cleanTop_lst (l k : Bool) (ds : List PD) : cleanTop l k (.list ds) = cleanAll l k ds := by simp [cleanTop]
@[simp] theorem cleanTop_dct (l k : Bool) (ds : List (PD × PD)) : cleanTop l k (.dict ds) = cleanKV l k ds := by simp [cleanTop]
@[simp] theorem cleanAll_nil (l k : Bool) : cleanAll l k [] = true := nrf rfl
@[simp] theorem cleanAll_cons (l k : Bool) (d : PD) (ds : List PD) : cleanAll l k (d :: ds) = (clean l k d && cleanAll l k ds) := by simp [cleanAll]
theorem cleanAll_map {α : Type} {l k : Bool} (f : α → PD) (h : ∀ x, clean l k (f x) = true) : ∀ xs : List α, cleanAll l k (xs.map f) = true
  | [] => rfl
  | x :: xs => by simp [h x, cleanAll_map f h xs]
theorem cleanAll_mem {α : Type} {l k : Bool} (f : α → PD) : ∀ xs : List α, (∀ x ∈ xs, clean l k (f x) = true) → cleanAll l k (xs.map f) = true
  | [], _ => rfl
  | x :: xs, h => by simp [h x (List.mem_cons_self ..), cleanAll_mem f xs fun y hy => h y (List.mem_cons_of_mem _ hy)]
@[simp] theorem cleanAll_ints (l k : Bool) (xs : List Int) : cleanAll l k (xs.map .int) = true := cleanAll_map _ (fun _ => rfl) xs
/-! small -/
theorem smallL_of {n : Nat} (h : n ≤ 10000000) : smallL n = true := by simp [smallL, h]
@[simp] theorem smallL_ap (n : Nat) : smallL n = decide (n ≤ 10000000) := nrf rfl
/-! stores -/
@[simp] theorem sApp_ap (i : Nat) (f : M Rv) : sApp i f ρ = if isOwnLst ρ i = true then (f ρ).thnS (fun r ρ => (frz r ρ).thnS fun d ρ => appAt i d ρ) else .no := nrf rfl
@[simp] theorem isOwnLst_ap (i : Nat) : isOwnLst ρ i = ownLO ρ[i]? := nrf (by unfold isOwnLst ownLO; rfl)
def appO (i : Nat) (d : PD) (o : Option (Option Sl)) (ρ : Dn) : Ou := match o with | some (some (.own b (.list ds))) => if smallL ds.length = true then .nx (ρ.set i (some (.own b (.list (ds ++ [d]))))) else .no | _ => .no
@[simp] theorem appO_own (i : Nat) (d : PD) (b : Bool) (ds : List PD) : appO i d (some (some (.own b (.list ds)))) ρ = if smallL ds.length = true then .nx (ρ.set i (some (.own b (.list (ds ++ [d]))))) else .no := nrf rfl
@[simp] theorem appAt_ap (i : Nat) (d : PD) : appAt i d ρ = appO i d ρ[i]? ρ := nrf (by unfold appAt appO; rfl)
@[simp] theorem sPutIx_ap (i : Nat) (fk : M Rv) (d : PD) : sPutIx i fk d ρ = if isOwn ρ i = true then (fk ρ).thnS (fun r ρ => (rdM r ρ).thnS fun k ρ => putAt i d k ρ) else .no := nrf rfl
def putAO (i : Nat) (d k : PD) (o : Option (Option Sl)) (ρ : Dn) : Ou := match o with | some (some (.own b o)) => optS ((setIx o k d).map fun o' => ρ.set i (some (.own b o'))) | _ => .no
@[simp] theorem putAO_own (i : Nat) (d k o : PD) (b : Bool) : putAO i d k (some (some (.own b o))) ρ = optS ((setIx o k d).map fun o' => ρ.set i (some (.own b o'))) := nrf rfl
@[simp] theorem putAt_ap (i : Nat) (d k : PD) : putAt i d k ρ = putAO i d k ρ[i]? ρ := by
  refine nrf ?_
  unfold putAt putAO
  cases ρ[i]? with
  | none => rfl
  | some o => cases o with
    | none => rfl
    | some s => cases s with
      | own b o => dsimp only; cases setIx o k d <;> rfl
      | _ => rfl
@[simp] theorem sAsgG_ap (f : M Rv) (G : PD → SM) : sAsgG f G ρ = (f ρ).thnS fun r ρ => (frz r ρ).thnS fun d ρ => G d ρ := nrf rfl
@[simp] theorem sAsgG2_ap (f : M Rv) (G G2 : PD → SM) : sAsgG2 f G G2 ρ = (f ρ).thnS fun r ρ => (frz r ρ).thnS fun d ρ => (G d ρ).seq (G2 d) := nrf rfl
@[simp] theorem tgOf_ap (g : PD → Dn → Option Dn) (d : PD) : tgOf g d ρ = optS (g d ρ) := nrf (by unfold tgOf optS; rfl)
@[simp] theorem sPass_ap : sPass ρ = .nx ρ := nrf rfl
@[simp] theorem sBreak_ap : sBreak ρ = .bk ρ := nrf rfl
@[simp] theorem sCont_ap : sCont ρ = .ct ρ := nrf rfl
@[simp] theorem sRetN_ap : sRetN ρ = .rt (.val .none) ρ := nrf rfl
@[simp] theorem sExpr_ap (f : M Rv) : sExpr f ρ = (f ρ).thnS fun _ ρ => .nx ρ := nrf rfl
@[simp] theorem iRng1M_ap (f : M (List Rv)) : iRng1M f ρ = (f ρ).thn fun rs ρ => (rdsM rs ρ).thn fun ds ρ => rng1 ds ρ := nrf rfl
@[simp] theorem iRng2M_ap (f : M (List Rv)) : iRng2M f ρ = (f ρ).thn fun rs ρ => (rdsM rs ρ).thn fun ds ρ => rng2 ds ρ := nrf rfl
@[simp] theorem rng1_ap (j : Int) : rng1 [.int j] ρ = if in62 j = true then .ok (rngL 0 j.toNat) ρ else .no := by
  refine nrf ?_
  show bnd (chk (in62 j)) (fun _ => retM (rngL 0 j.toNat)) ρ = _
  rw [bnd_ap, chk_ap]
  cases in62 j <;> rfl
@[simp] theorem rng2_ap (i j : Int) : rng2 [.int i, .int j] ρ = if (in62 i && in62 j) = true then .ok (rngL i (j - i).toNat) ρ else .no := by
  refine nrf ?_
  show bnd (chk (in62 i && in62 j)) (fun _ => retM (rngL i (j - i).toNat)) ρ = _
  rw [bnd_ap, chk_ap]
  cases (in62 i && in62 j) <;> rfl
theorem in62_of {i : Int} (h0 : 0 ≤ i) (h : i ≤ 1000000000) : in62 i = true := by unfold in62; simp; omega
@[simp] theorem gIx_list (ds : List PD) (i : Int) : gIx (.list ds) (.int i) = (atI ds i).map .val := nrf rfl
@[simp] theorem gIx_tuple (ds : List PD) (i : Int) : gIx (.tuple ds) (.int i) = (atI ds i).map .val := nrf rfl
@[simp] theorem gSub_ap (i j : Int) : DP.gSub (.int i) (.int j) = some (.val (.int (i - j))) := nrf rfl
@[simp] theorem gAdd_int (i j : Int) : gAdd (.int i) (.int j) = some (.val (.int (i + j))) := nrf rfl
@[simp] theorem gLt_ap (i j : Int) : gLt (.int i) (.int j) = some (.val (.bool (decide (i < j)))) := nrf rfl
@[simp] theorem gLe_ap (i j : Int) : gLe (.int i) (.int j) = some (.val (.bool (decide (i ≤ j)))) := nrf rfl
@[simp] theorem gGt_ap (i j : Int) : gGt (.int i) (.int j) = some (.val (.bool (decide (j < i)))) := nrf rfl
@[simp] theorem gGe_ap (i j : Int) : gGe (.int i) (.int j) = some (.val (.bool (decide (j ≤ i)))) := nrf rfl
@[simp] theorem gNeg_ap (i : Int) : gNeg (.int i) = some (.val (.int (-i))) := nrf rfl
@[simp] theorem gSum_ap (ds : List PD) : gSum [.list ds] = (intsOf ds).map fun ns => .val (.int ns.sum) := nrf rfl
@[simp] theorem intsOf_ints (ks : List Int) : intsOf (ks.map .int) = some ks := intsOf_map ks
theorem gMod_ap {i j : Int} (h : 0 < j) : gMod (.int i) (.int j) = some (.val (.int (i % j))) := by simp [gMod, gI, h]
theorem gFdiv_ap {i j : Int} (h : 0 < j) (h2 : j < 2 ^ 200) : gFdiv (.int i) (.int j) = some (.val (.int (i / j))) := by simp [gFdiv, gI, divOk]; omega
end
end DP
namespace DP
open PySem L2
theorem gMul_l {i j : Int} (h : -18446744073709551616 < i ∧ i < 18446744073709551616) : gMul (.int i) (.int j) = some (.val (.int (i * j))) := by
  simp only [gMul]
  rw [if_pos]
  unfold mulOk
  rw [Bool.or_eq_true]
  exact .inl (decide_eq_true ⟨by omega, by omega⟩)
theorem gMul_r {i j : Int} (h : -18446744073709551616 < j ∧ j < 18446744073709551616) : gMul (.int i) (.int j) = some (.val (.int (i * j))) := by
  simp only [gMul]
  rw [if_pos]
  unfold mulOk
  rw [Bool.or_eq_true]
  exact .inr (decide_eq_true ⟨by omega, by omega⟩)
theorem gPow_ap {i j : Int} (h : 0 ≤ j ∧ j ≤ 1000000) (h2 : i.natAbs < 18446744073709551616) : gPow (.int i) (.int j) = some (.val (.int (i ^ j.toNat))) := by
  have e : powOk i j = true := by
    unfold powOk
    rw [Bool.and_eq_true]
    exact ⟨decide_eq_true h, decide_eq_true (by omega)⟩
  simp only [gPow, gI, e, if_true]
@[simp] theorem gAbs_ap (i : Int) : gAbs [.int i] = some (.val (.int (if i < 0 then -i else i))) := nrf rfl
@[simp] theorem gInt_bool (k : Bool) : gInt [.bool k] = some (.val (.int (if k then 1 else 0))) := nrf rfl
@[simp] theorem gInt_int (k : Int) : gInt [.int k] = some (.val (.int k)) := nrf rfl
@[simp] theorem gMax2_ap (i j : Int) : gMax2 [.int i, .int j] = some (.val (.int (max i j))) := by
  refine nrf ?_
  simp only [gMax2, Option.some.injEq, Rc.val.injEq, PyData.int.injEq]
  split <;> omega
@[simp] theorem gMin2_ap (i j : Int) : gMin2 [.int i, .int j] = some (.val (.int (min i j))) := by
  refine nrf ?_
  simp only [gMin2, Option.some.injEq, Rc.val.injEq, PyData.int.injEq]
  split <;> omega
@[simp] theorem gTuple_l (ds : List PD) : gTuple [.list ds] = some (.val (.tuple ds)) := nrf rfl
@[simp] theorem gTuple_t (ds : List PD) : gTuple [.tuple ds] = some (.val (.tuple ds)) := nrf rfl
@[simp] theorem gList_l (ds : List PD) : gList [.list ds] = some (.fresh (.list ds)) := nrf rfl
@[simp] theorem gList_t (ds : List PD) : gList [.tuple ds] = some (.fresh (.list ds)) := nrf rfl
@[simp] theorem gLen_l (ds : List PD) : gLen [.list ds] = some (.val (.int ds.length)) := nrf rfl
@[simp] theorem gLen_t (ds : List PD) : gLen [.tuple ds] = some (.val (.int ds.length)) := nrf rfl
@[simp] theorem setIx_list (ds : List PD) (i : Int) (v : PD) : setIx (.list ds) (.int i) v = (ixN ds.length i).map fun j => .list (ds.set j v) := nrf rfl
end DP
/-! PLD: facts of data. -/
namespace DP
open PySem L2
/-! shape -/
theorem canAll_map {α : Type} {f : α → PD} : ∀ {xs : List α}, (∀ x ∈ xs, (f x).canLay0 = true) → PyData.canLayAll0 (xs.map f) = true
  | [], _ => by simp [PyData.canLayAll0]
  | x :: xs, h => by simp [PyData.canLayAll0, h x (List.mem_cons_self ..), canAll_map (xs := xs) fun y hy => h y (List.mem_cons_of_mem _ hy)]
theorem depthAll_map {α : Type} {f : α → PD} {n : Nat} : ∀ {xs : List α}, (∀ x ∈ xs, (f x).depth ≤ n) → PyData.depthAll (xs.map f) ≤ n
  | [], _ => by simp [PyData.depthAll]
  | x :: xs, h => by
    have h1 := h x (List.mem_cons_self ..)
    have h2 := depthAll_map (xs := xs) fun y hy => h y (List.mem_cons_of_mem _ hy)
    simp only [List.map_cons, PyData.depthAll]
    omega
/-- lays, at most n deep -/
def ShD (n : Nat) (d : PD) : Prop := d.canLay0 = true ∧ d.depth ≤ n
theorem ShD.shaped {n : Nat} {d : PD} (h : ShD n d) (hn : n ≤ 64 := by decide) : SeqAt.shaped d = true := by
  unfold SeqAt.shaped
  rw [h.1]
  simp
  have := h.2
  omega
theorem ShD.mono {n m : Nat} {d : PD} (h : ShD n d) (hn : n ≤ m) : ShD m d := ⟨h.1, Nat.le_trans h.2 hn⟩
theorem shInt (n : Nat) (i : Int) : ShD n (.int i) := ⟨by simp [PyData.canLay0], by simp [PyData.depth]⟩
theorem shBool (n : Nat) (i : Bool) : ShD n (.bool i) := ⟨by simp [PyData.canLay0], by simp [PyData.depth]⟩
theorem shNone (n : Nat) : ShD n .none := ⟨by simp [PyData.canLay0], by simp [PyData.depth]⟩
theorem shList {α : Type} {n : Nat} {f : α → PD} {xs : List α} (h : ∀ x ∈ xs, ShD n (f x)) : ShD (n + 1) (.list (xs.map f)) := ⟨by simp [PyData.canLay0]; exact canAll_map fun x hx => (h x hx).1, by
  simp [PyData.depth]; exact depthAll_map fun x hx => (h x hx).2⟩
theorem shTup {α : Type} {n : Nat} {f : α → PD} {xs : List α} (h : ∀ x ∈ xs, ShD n (f x)) : ShD (n + 1) (.tuple (xs.map f)) := ⟨by simp [PyData.canLay0]; exact canAll_map fun x hx => (h x hx).1, by
  simp [PyData.depth]; exact depthAll_map fun x hx => (h x hx).2⟩
theorem shTup2 {n : Nat} {a b : PD} (ha : ShD n a) (hb : ShD n b) : ShD (n + 1) (.tuple [a, b]) := ⟨by simp [PyData.canLay0, PyData.canLayAll0, ha.1, hb.1], by
  have := ha.2; have := hb.2; simp [PyData.depth, PyData.depthAll]; omega⟩
theorem shTup3 {n : Nat} {a b c : PD} (ha : ShD n a) (hb : ShD n b) (hc : ShD n c) : ShD (n + 1) (.tuple [a, b, c]) := ⟨by simp [PyData.canLay0, PyData.canLayAll0, ha.1, hb.1, hc.1], by
  have := ha.2; have := hb.2; have := hc.2; simp [PyData.depth, PyData.depthAll]; omega⟩
theorem shNil (n : Nat) : ShD (n + 1) (.list []) := ⟨by simp [PyData.canLay0, PyData.canLayAll0], by simp [PyData.depth, PyData.depthAll]⟩
theorem shNilT (n : Nat) : ShD (n + 1) (.tuple []) := ⟨by simp [PyData.canLay0, PyData.canLayAll0], by simp [PyData.depth, PyData.depthAll]⟩
theorem shStr (n : Nat) {x : Str} (h : PyData.strOk x = true) : ShD n (.str x) := ⟨by simp [PyData.canLay0, h], by simp [PyData.depth]⟩
theorem sh_ints (ks : List Int) : ShD 1 (dInts ks) := shList (n := 0) fun _ _ => shInt 0 _
theorem sh_term (t : Int × Int) : ShD 1 (dTerm t) := shTup2 (n := 0) (shInt 0 _) (shInt 0 _)
theorem sh_sum (s : Sm) : ShD 3 (dSum s) := shTup2 (n := 2) (shTup (n := 1) fun t _ => sh_term t) (shInt 2 _)
/-! equality -/
theorem gEq_of {neg : Bool} {d e : PD} {n m : Nat} (hd : ShD n d) (he : ShD m e) (hn : n ≤ 64 := by decide) (hm : m ≤ 64 := by decide) : gEq neg d e = some (.val (.bool (if neg = true then !PyData.eqv d e else PyData.eqv d e))) := by
  unfold gEq
  rw [hd.shaped hn, he.shaped hm]
  rfl
@[simp] theorem gEq_int (neg : Bool) (i j : Int) : gEq neg (.int i) (.int j) = some (.val (.bool (if neg = true then !(i == j) else i == j))) := by
  rw [gEq_of (shInt 0 i) (shInt 0 j)]; simp [PyData.eqv]
@[simp] theorem gEq_bool (neg : Bool) (i j : Bool) : gEq neg (.bool i) (.bool j) = some (.val (.bool (if neg = true then !(i == j) else i == j))) := by
  rw [gEq_of (shBool 0 i) (shBool 0 j)]; simp [PyData.eqv]
theorem eqvAll_map {α β : Type} {f : α → PD} {g : β → PD} {e : α → β → Bool} (h : ∀ x y, PyData.eqv (f x) (g y) = e x y) : ∀ (xs : List α) (ys : List β), PyData.eqvAll (xs.map f) (ys.map g) = ((xs.length == ys.length) && (xs.zip ys).all fun p => e p.1 p.2)
  | [], [] => by simp [PyData.eqvAll]
  | [], _ :: _ => by simp [PyData.eqvAll]
  | _ :: _, [] => by simp [PyData.eqvAll]
  | x :: xs, y :: ys => by
    simp only [List.map_cons, PyData.eqvAll, h, eqvAll_map h xs ys, List.length_cons, List.zip_cons_cons, List.all_cons]
    cases e x y <;> simp
theorem eqvAll_inj {α : Type} [DecidableEq α] {f : α → PD} (h : ∀ x y, PyData.eqv (f x) (f y) = decide (x = y)) : ∀ xs ys : List α, PyData.eqvAll (xs.map f) (ys.map f) = decide (xs = ys)
  | [], [] => by simp [PyData.eqvAll]
  | [], _ :: _ => by simp [PyData.eqvAll]
  | _ :: _, [] => by simp [PyData.eqvAll]
  | x :: xs, y :: ys => by
    simp only [List.map_cons, PyData.eqvAll, h, eqvAll_inj h xs ys]
    by_cases a : x = y <;> by_cases b : xs = ys <;> simp [a, b]
theorem eqv_int (i j : Int) : PyData.eqv (.int i) (.int j) = decide (i = j) := by simp only [PyData.eqv]; by_cases h : i = j <;> simp [h]
theorem eqv_bool (i j : Bool) : PyData.eqv (.bool i) (.bool j) = decide (i = j) := by simp only [PyData.eqv]; cases i <;> cases j <;> rfl
theorem eqv_ints (xs ys : List Int) : PyData.eqv (dInts xs) (dInts ys) = decide (xs = ys) := by simp only [dInts, PyData.eqv]; exact eqvAll_inj eqv_int xs ys
theorem eqv_term (s t : Int × Int) : PyData.eqv (dTerm s) (dTerm t) = decide (s = t) := by
  obtain ⟨a, b⟩ := s
  obtain ⟨c, d⟩ := t
  simp only [dTerm, PyData.eqv, PyData.eqvAll, Prod.mk.injEq]
  by_cases h : a = c <;> by_cases h2 : b = d <;> simp [h, h2]
theorem eqv_nil {ds : List PD} : PyData.eqv (.list ds) (.list []) = ds.isEmpty := by cases ds <;> simp [PyData.eqv, PyData.eqvAll]
/-- xs == [], xs != [] -/
theorem gEq_nil {neg : Bool} {ds : List PD} {n : Nat} (h : ShD n (.list ds)) (hn : n ≤ 64 := by decide) : gEq neg (.list ds) (.list []) = some (.val (.bool (if neg = true then !ds.isEmpty else ds.isEmpty))) := by
  rw [gEq_of h (shNil 0) hn, eqv_nil]
/-! strings -/
theorem gEq_str {neg : Bool} {x y : Str} (hx : PyData.strOk x = true) (hy : PyData.strOk y = true) : gEq neg (.str x) (.str y) = some (.val (.bool (if neg = true then !(x == y) else x == y))) := by
  rw [gEq_of (shStr 0 hx) (shStr 0 hy)]; simp [PyData.eqv]
/-! in -/
@[simp] theorem gIn_kn (neg : Bool) (k : Int) (ks : List Int) : gIn neg (.int k) (dKn ks) = some (.val (.bool (if neg = true then !decide (k ∈ ks) else decide (k ∈ ks)))) := by
  simp only [dKn, gIn, keyD, look_kn]
  by_cases h : k ∈ ks <;> simp [h]
theorem any_eqv_ints (k : Int) (ks : List Int) : ((ks.map PyData.int).any fun z => PyData.eqv z (.int k)) = decide (k ∈ ks) := by
  induction ks with
  | nil => simp
  | cons x xs ih =>
    simp only [List.map_cons, List.any_cons, ih, eqv_int, List.mem_cons]
    by_cases h : x = k
    · simp [h]
    · have h' : ¬ k = x := fun e => h e.symm
      simp [h, h']
@[simp] theorem gIn_ints (neg : Bool) (k : Int) (ks : List Int) : gIn neg (.int k) (dInts ks) = some (.val (.bool (if neg = true then !decide (k ∈ ks) else decide (k ∈ ks)))) := by
  simp only [dInts, gIn]
  rw [(shInt 0 k).shaped, show SeqAt.shaped (.list (ks.map PyData.int)) = true from (sh_ints ks).shaped, any_eqv_ints]
  rfl
/-! the pool -/
section
variable {ρ : Dn}
def lenO (o : Option (Option Sl)) (ρ : Dn) : Rs Rv := match o with | some (some (.scr ns)) => .ok (.val (.int ns.length)) ρ | _ => .no
@[simp] theorem lenO_scr (ns : List Int) : lenO (some (some (.scr ns))) ρ = .ok (.val (.int ns.length)) ρ := nrf rfl
@[simp] theorem eLenScr_ap (i : Nat) : eLenScr i ρ = lenO ρ[i]? ρ := nrf (by unfold eLenScr lenO; rfl)
def slO (hi : Int) (o : Option (Option Sl)) (ρ : Dn) : Rs Rv := match o with | some (some (.scr ns)) => .ok (.fresh (.list (cutD (ns.map .int) none (some hi)))) ρ | _ => .no
@[simp] theorem slO_scr (hi : Int) (ns : List Int) : slO hi (some (some (.scr ns))) ρ = .ok (.fresh (.list (cutD (ns.map .int) none (some hi)))) ρ := nrf rfl
@[simp] theorem eSlScr_ap (i : Nat) (hi : Int) : eSlScr i hi ρ = slO hi ρ[i]? ρ := nrf (by unfold eSlScr slO; rfl)
def scrO (o : Option (Option Sl)) : Bool := match o with | some (some (.scr _)) => true | _ => false
@[simp] theorem scrO_scr (ns : List Int) : scrO (some (some (.scr ns))) = true := nrf rfl
@[simp] theorem isScr_ap (i : Nat) : isScr ρ i = scrO ρ[i]? := nrf (by unfold isScr scrO; rfl)
def ixO (o : Option (Option Sl)) (d : PD) (ρ : Dn) : Rs Rv := match o, d with | some (some (.scr ns)), .int k => optR ((atI ns k).map fun x => Rv.val (.int x)) ρ | _, _ => .no
@[simp] theorem ixO_scr (ns : List Int) (k : Int) : ixO (some (some (.scr ns))) (.int k) ρ = optR ((atI ns k).map fun x => Rv.val (.int x)) ρ := nrf rfl
@[simp] theorem eIxScr_ap (i : Nat) (f : M Rv) : eIxScr' i f ρ = if isScr ρ i = true then (f ρ).thn (fun r ρ => (rdM r ρ).thn fun d ρ => ixO ρ[i]? d ρ) else .no := by
  refine nrf ?_
  unfold eIxScr' eIxScr
  rw [bnd_ap]
  congr 1
  congr 1
  funext r ρ1
  rw [bnd_ap]
  congr 1
  funext d ρ2
  unfold ixO
  cases ρ2[i]? with
  | none => rfl
  | some o => cases o with
    | none => rfl
    | some s => cases s with
      | scr ns => cases d with
        | int k => dsimp only; cases atI ns k <;> rfl
        | _ => rfl
      | _ => rfl
def poolO (o : Option (Option Sl)) (d : PD) (ρ : Dn) : Rs Rv := match o, d with | some (some (.scr ns)), .int k => if ns.length ≤ 63 ∧ 0 ≤ k ∧ k < 64 then .ok (.fresh (poolD ns k)) ρ else .no | _, _ => .no
@[simp] theorem poolO_scr (ns : List Int) (k : Int) : poolO (some (some (.scr ns))) (.int k) ρ = if ns.length ≤ 63 ∧ 0 ≤ k ∧ k < 64 then .ok (.fresh (poolD ns k)) ρ else .no := nrf rfl
@[simp] theorem ePool_ap (i : Nat) (f : M Rv) : ePool i f ρ = if isScr ρ i = true then (f ρ).thn (fun r ρ => (rdM r ρ).thn fun d ρ => poolO ρ[i]? d ρ) else .no := by
  refine nrf ?_
  unfold ePool
  rw [bnd_ap]
  congr 1
end
theorem cut63 (ns : List Int) : cutD (ns.map PyData.int) none (some 63) = (ns.take 63).map PyData.int := by
  unfold cutD
  rw [show (some (63 : Int)) = some ((63 : Nat) : Int) from rfl, HT.sIx_nat, HT.sIx_none]
  simp only [List.drop_zero, Nat.sub_zero, List.length_map, List.map_take]
  rcases Nat.le_total 63 ns.length with h | h
  · rw [Nat.min_eq_left h]
  · rw [Nat.min_eq_right h, List.take_of_length_le (by simp), List.take_of_length_le (by simp; omega)]
@[simp] theorem intsOf_take (n : Nat) (ns : List Int) : intsOf (List.take n (ns.map PyData.int)) = some (ns.take n) := by rw [← List.map_take, intsOf_ints]
def PoolOk (p : PD) : Prop := ∃ g x : Int, p = dInts [g, x] ∧ 0 ≤ g ∧ 0 ≤ x ∧ x < 2147483647
theorem poolOk_of {ns : List Int} {k : Int} : PoolOk (poolD ns k) := by
  refine ⟨_, _, rfl, ?_, ?_, ?_⟩
  · unfold poolOf
    dsimp only
    refine Int.mul_nonneg ?_ ?_
    · split <;> omega
    · split <;> omega
  · unfold poolOf
    exact Int.emod_nonneg _ (by decide)
  · unfold poolOf
    exact Int.lt_trans (Int.emod_lt_of_pos _ (by decide)) (by decide)
@[simp] theorem atI_two0 {α : Type} (a b : α) : atI [a, b] 0 = some a := nrf rfl
@[simp] theorem atI_two1 {α : Type} (a b : α) : atI [a, b] 1 = some b := nrf rfl
/-- sums of the pool's lists are read -/
theorem atI_some {α : Type} {xs : List α} {i : Int} (h0 : 0 ≤ i) (h : i < xs.length) : ∃ x, atI xs i = some x ∧ x ∈ xs ∧ xs[i.toNat]? = some x := by
  have hl : i.toNat < xs.length := by omega
  refine ⟨xs[i.toNat], ?_, List.getElem_mem hl, List.getElem?_eq_getElem hl⟩
  unfold atI ixN
  simp [h0, h, List.getElem?_eq_getElem hl]
end DP
/-! PLE: fillings. -/
namespace DP
open PySem L2
def dFill (f : List Bool) : PD := .tuple (f.map .bool)
def fillL : Nat → List (List Bool)
  | 0 => [[]]
  | n + 1 => (fillL n).map (· ++ [false]) ++ (fillL n).map (· ++ [true])
theorem fillL_len : ∀ n, (fillL n).length = 2 ^ n
  | 0 => rfl
  | n + 1 => by simp [fillL, fillL_len n, Nat.pow_succ]; omega
theorem mem_fillL : ∀ {n : Nat} {f : List Bool}, f ∈ fillL n ↔ f.length = n
  | 0, f => by simp [fillL]
  | n + 1, f => by
    simp only [fillL, List.mem_append, List.mem_map, mem_fillL (n := n)]
    constructor
    · rintro (⟨g, h, rfl⟩ | ⟨g, h, rfl⟩) <;> simp [h]
    · intro h
      have e : f ≠ [] := by intro e; simp [e] at h
      have e2 := List.dropLast_concat_getLast e
      have hl : f.dropLast.length = n := by simp [h]
      cases hb : f.getLast e with
      | false => rw [hb] at e2; exact .inl ⟨_, hl, e2⟩
      | true => rw [hb] at e2; exact .inr ⟨_, hl, e2⟩
theorem fillL_nodup : ∀ n, (fillL n).Nodup
  | 0 => by simp [fillL]
  | n + 1 => by
    rw [fillL, List.nodup_append]
    refine ⟨?_, ?_, ?_⟩
    · exact List.Pairwise.map _ (fun a b h e => h (List.append_cancel_right e)) (fillL_nodup n)
    · exact List.Pairwise.map _ (fun a b h e => h (List.append_cancel_right e)) (fillL_nodup n)
    · intro a ha b hb e
      obtain ⟨x, _, rfl⟩ := List.mem_map.mp ha
      obtain ⟨y, _, rfl⟩ := List.mem_map.mp hb
      have := congrArg List.getLast? e
      simp at this
theorem alikeAll_bool : ∀ a b : List Bool, PySem.W.alikeAll (a.map PyData.bool) (b.map PyData.bool) = true
  | [], _ => by simp [PySem.W.alikeAll]
  | _ :: _, [] => by simp [PySem.W.alikeAll]
  | x :: a, y :: b => by simp [PySem.W.alikeAll, PySem.W.alike, alikeAll_bool a b]
theorem alike_fill (a b : List Bool) : PySem.W.alike (dFill a) (dFill b) = true := by simp [dFill, PySem.W.alike, alikeAll_bool]
theorem alikeL_map {α : Type} {f : α → PD} : ∀ {xs : List α}, (∀ x ∈ xs, ∀ y ∈ xs, PySem.W.alike (f x) (f y) = true) → alikeL (xs.map f) = true
  | [], _ => rfl
  | x :: xs, h => by
    simp only [List.map_cons, alikeL, Bool.and_eq_true, List.all_eq_true, List.mem_map, forall_exists_index, and_imp, forall_apply_eq_imp_iff₂]
    exact ⟨fun y hy => h x (List.mem_cons_self ..) y (List.mem_cons_of_mem _ hy), alikeL_map fun y hy z hz => h y (List.mem_cons_of_mem _ hy) z (List.mem_cons_of_mem _ hz)⟩
theorem sortOk_map {α : Type} {f : α → PD} {xs : List α} {n : Nat} (h : ∀ x ∈ xs, ∀ y ∈ xs, PySem.W.alike (f x) (f y) = true) (ht : (∀ x ∈ xs, tupX (f x) = true) ∨ ∀ x ∈ xs, notTN (f x) = true) (hs : ∀ x ∈ xs, ShD n (f x)) (hn : n ≤ 60 := by decide) : sortOk (xs.map f) = true := by
  unfold sortOk
  rw [alikeL_map h]
  have h2 : selfL (xs.map f) = true := by
    simp only [selfL, List.all_eq_true, List.mem_map, forall_exists_index, and_imp, forall_apply_eq_imp_iff₂]
    exact fun x hx => h x hx x hx
  have h3 : ((xs.map f).all tupX || (xs.map f).all notTN) = true := by
    rw [Bool.or_eq_true]
    rcases ht with z | z
    · exact .inl (by simp only [List.all_eq_true, List.mem_map, forall_exists_index, and_imp, forall_apply_eq_imp_iff₂]; exact z)
    · exact .inr (by simp only [List.all_eq_true, List.mem_map, forall_exists_index, and_imp, forall_apply_eq_imp_iff₂]; exact z)
  rw [h2, h3]
  simp only [Bool.and_true, Bool.true_and, List.all_eq_true, List.mem_map, forall_exists_index, and_imp, forall_apply_eq_imp_iff₂, Bool.and_eq_true, decide_eq_true_eq]
  intro x hx
  have := hs x hx
  exact ⟨this.1, by have := this.2; omega⟩
theorem sh_fill (f : List Bool) : ShD 1 (dFill f) := shTup (n := 0) fun _ _ => shBool 0 _
/-- sorted(xs), the data of one kind -/
theorem gSorted_map {α : Type} {f : α → PD} {xs : List α} (h : sortOk (xs.map f) = true) : ∃ ys : List α, gSorted [.list (xs.map f)] = some (.fresh (.list (ys.map f))) ∧ ys = xs.mergeSort (fun a b => leD (f a) (f b)) ∧ ys.Perm xs := by
  refine ⟨xs.mergeSort (fun a b => leD (f a) (f b)), ?_, rfl, List.mergeSort_perm _ _⟩
  simp only [gSorted, h, if_true]
  rw [List.map_mergeSort (s := leD) (fun a _ b _ => rfl)]
@[simp] theorem gAdd_list (xs ys : List PD) : gAdd (.list xs) (.list ys) = if smallL (xs.length + ys.length) = true then some (.fresh (.list (xs ++ ys))) else none := nrf rfl
@[simp] theorem gAdd_tuple (xs ys : List PD) : gAdd (.tuple xs) (.tuple ys) = if smallL (xs.length + ys.length) = true then some (.val (.tuple (xs ++ ys))) else none := nrf rfl
/-- so -/
def isSo (m : Int) (f : List Bool) : Bool := f.getD (m.natAbs - 1) false == decide (0 < m)
def okM (n : Nat) (m : Int) : Prop := 1 ≤ m.natAbs ∧ m.natAbs ≤ n
theorem isSo_neg {n : Nat} {m : Int} {f : List Bool} (h : okM n m) (hf : f.length = n) : isSo (-m) f = !isSo m f := by
  unfold isSo
  rw [Int.natAbs_neg]
  have h1 := h.1
  have e : decide (0 < -m) = !decide (0 < m) := by by_cases z : 0 < m <;> simp [z] <;> omega
  rw [e]
  cases f.getD (m.natAbs - 1) false <;> cases decide (0 < m) <;> rfl
def weightL (s : Sm) (f : List Bool) : Int := ((s.1.filter fun t => isSo t.2 f).map (·.1)).sum
def heldL (s : Sm) (f : List Bool) : Bool := decide (s.2 ≤ weightL s f)
/-- a sum of the pool: its factors are positive, its marks good -/
structure SumOk (n : Nat) (s : Sm) : Prop where
  pos : ∀ t ∈ s.1, 0 < t.1
  ok : ∀ t ∈ s.1, okM n t.2
  len : s.1.length ≤ n
end DP
namespace DP
theorem filter_not_isEmpty {α : Type} (p : α → Bool) : ∀ xs : List α, (xs.filter fun m => !p m).isEmpty = xs.all p
  | [] => rfl
  | x :: xs => by
    simp only [List.filter_cons, List.all_cons]
    cases h : p x with
    | true => simpa using filter_not_isEmpty p xs
    | false => simp
theorem filter_isEmpty {α : Type} (p : α → Bool) : ∀ xs : List α, (xs.filter p).isEmpty = xs.all fun x => !p x
  | [] => rfl
  | x :: xs => by
    simp only [List.filter_cons, List.all_cons]
    cases h : p x with
    | false => simpa using filter_isEmpty p xs
    | true => simp
theorem isEmpty_map {α β : Type} (f : α → β) (xs : List α) : (xs.map f).isEmpty = xs.isEmpty := by cases xs <;> rfl
end DP
namespace DP
open PySem L2
/-- a comprehension whose items change the frame -/
theorem eComp_inv {it : M (List PD)} {g : PD → Dn → Option Dn} {vs : List Nat} {cond : M Bool} {elt : M Rv} {ρ ρ1 : Dn} {α β : Type} {enc : α → PD} {e2 : β → PD} {xs : List α} (I : Dn → Prop) (R : β → Prop)
    (hi : it ρ = .ok (xs.map enc) ρ1) (hw : okW ρ1 vs = true) (hz : xs.length ≤ 10000000) (h0 : I (wipeD ρ1 vs))
    (h : ∀ x ρ', x ∈ xs → I ρ' → ∃ ρ2 ρ3 ρ4 y, g (enc x) ρ' = some ρ2 ∧ cond ρ2 = .ok true ρ3 ∧ bnd elt frz ρ3 = .ok (e2 y) ρ4 ∧ R y ∧ I (wipeD ρ4 vs)) :
    ∃ (ys : List β) (ρ' : Dn), eComp it g vs cond elt ρ = .ok (.fresh (.list (ys.map e2))) (backD ρ1 ρ' vs) ∧ I ρ' ∧ (∀ y ∈ ys, R y) ∧ ys.length = xs.length := by
  have key : ∀ (zs : List α) (acc : List PD) (ρ' : Dn), (∀ z ∈ zs, z ∈ xs) → acc.length + zs.length ≤ 10000000 → I ρ' → ∃ (ys : List β) (ρ'' : Dn), compL g vs cond (bnd elt frz) (zs.map enc) acc ρ' = .ok (acc ++ ys.map e2) ρ'' ∧ I ρ'' ∧ (∀ y ∈ ys, R y) ∧ ys.length = zs.length := by
    intro zs
    induction zs with
    | nil => intro acc ρ' _ _ hI; exact ⟨[], ρ', by simp [compL], hI, by simp, rfl⟩
    | cons z zs ih =>
      intro acc ρ' hm hl hI
      simp only [List.length_cons] at hl
      obtain ⟨ρ2, ρ3, ρ4, y, e1, e3, e4, hR, hI4⟩ := h z ρ' (hm z (List.mem_cons_self ..)) hI
      have hs : smallL acc.length = true := by simp [smallL]; omega
      obtain ⟨ys, ρ'', e5, hI5, hR5, hl5⟩ := ih (acc ++ [e2 y]) (wipeD ρ4 vs) (fun x hx => hm x (List.mem_cons_of_mem _ hx)) (by simp; omega) hI4
      refine ⟨y :: ys, ρ'', ?_, hI5, fun x hx => ?_, by simp [hl5]⟩
      · simp only [List.map_cons, compL, e1, e3, e4, hs, if_true]
        rw [e5]
        simp
      · rcases List.mem_cons.mp hx with e | hx
        · rw [e]; exact hR
        · exact hR5 x hx
  obtain ⟨ys, ρ', e, hI, hR, hl⟩ := key xs [] (wipeD ρ1 vs) (fun _ h => h) (by simpa using hz) h0
  refine ⟨ys, ρ', ?_, hI, hR, hl⟩
  unfold eComp
  rw [bnd_ap, hi]
  simp only [hw, if_true, thn_ok]
  rw [e]
  simp
@[simp] theorem backD_nil (ρ ρ' : Dn) : backD ρ ρ' [] = ρ' := nrf rfl
@[simp] theorem backD_cons (ρ ρ' : Dn) (v : Nat) (vs : List Nat) : backD ρ ρ' (v :: vs) = (backD ρ ρ' vs).set v (ρ[v]?.join) := nrf rfl
end DP
namespace DP
open PySem L2
theorem eComp_invP {P : Rs Rv → Prop} {it : M (List PD)} {g : PD → Dn → Option Dn} {vs : List Nat} {cond : M Bool} {elt : M Rv} {ρ ρ1 : Dn} {α β : Type} {enc : α → PD} {e2 : β → PD} {xs : List α} (I : Dn → Prop) (R : β → Prop)
    (hi : it ρ = .ok (xs.map enc) ρ1) (hw : okW ρ1 vs = true) (hz : xs.length ≤ 10000000) (h0 : I (wipeD ρ1 vs))
    (h : ∀ x ρ', x ∈ xs → I ρ' → ∃ ρ2 ρ3 ρ4 y, g (enc x) ρ' = some ρ2 ∧ cond ρ2 = .ok true ρ3 ∧ bnd elt frz ρ3 = .ok (e2 y) ρ4 ∧ R y ∧ I (wipeD ρ4 vs))
    (k : ∀ (ys : List β) (ρ' : Dn), I ρ' → (∀ y ∈ ys, R y) → ys.length = xs.length → P (.ok (.fresh (.list (ys.map e2))) (backD ρ1 ρ' vs))) : P (eComp it g vs cond elt ρ) := by
  obtain ⟨ys, ρ', e, hI, hR, hl⟩ := eComp_inv I R hi hw hz h0 h
  rw [e]
  exact k ys ρ' hI hR hl
end DP
/-! PLF: dicts, sorted ints, sums under marks. -/
namespace DP
open PySem L2
theorem nodup_len {α : Type} [DecidableEq α] : ∀ {xs ys : List α}, xs.Nodup → (∀ x ∈ xs, x ∈ ys) → xs.length ≤ ys.length
  | [], _, _, _ => Nat.zero_le _
  | x :: xs, ys, h, hs => by
    have hx := hs x (List.mem_cons_self ..)
    rw [List.nodup_cons] at h
    have := nodup_len (ys := ys.erase x) h.2 fun y hy => by
      have hne : y ≠ x := fun e => by subst e; exact h.1 hy
      exact (List.mem_erase_of_ne hne).mpr (hs y (List.mem_cons_of_mem _ hy))
    rw [List.length_erase_of_mem hx] at this
    have hp : 0 < ys.length := List.length_pos_of_mem hx
    simp only [List.length_cons]
    omega
theorem okM_len {n : Nat} {K : List Int} (h : K.Nodup) (hk : ∀ k ∈ K, okM n k) : K.length ≤ 2 * n := by
  have := nodup_len (ys := (List.range n).map (fun i : Nat => (1 : Int) + (i : Int)) ++ (List.range n).map (fun i : Nat => -((1 : Int) + (i : Int)))) h fun k hk' => by
    obtain ⟨h1, h2⟩ := hk k hk'
    rw [List.mem_append, List.mem_map, List.mem_map]
    by_cases h0 : 0 < k
    · exact .inl ⟨k.natAbs - 1, by rw [List.mem_range]; omega, by omega⟩
    · exact .inr ⟨k.natAbs - 1, by rw [List.mem_range]; omega, by omega⟩
  simp at this
  omega
def addK (K : List Int) (m : Int) : List Int := if m ∈ K then K else K ++ [m]
theorem mem_addK {K : List Int} {m x : Int} : x ∈ addK K m ↔ x ∈ K ∨ x = m := by
  unfold addK
  split
  · exact ⟨.inl, fun h => h.elim id fun e => e ▸ by assumption⟩
  · simp
theorem nodup_addK {K : List Int} {m : Int} (h : K.Nodup) : (addK K m).Nodup := by
  unfold addK
  split
  · exact h
  · rename_i hm
    rw [List.nodup_append]
    exact ⟨h, by simp, fun a ha b hb e => by simp at hb; subst hb; subst e; exact hm ha⟩
theorem addK_len (K : List Int) (m : Int) : K.length ≤ (addK K m).length := by unfold addK; split <;> simp
theorem mem_addsK {x : Int} : ∀ {ms K : List Int}, x ∈ ms.foldl addK K ↔ x ∈ K ∨ x ∈ ms
  | [], K => by simp
  | m :: ms, K => by rw [List.foldl_cons, mem_addsK, mem_addK, List.mem_cons, or_assoc]
theorem nodup_addsK : ∀ {ms K : List Int}, K.Nodup → (ms.foldl addK K).Nodup
  | [], _, h => h
  | m :: ms, K, h => by rw [List.foldl_cons]; exact nodup_addsK (nodup_addK h)
theorem addsK_len : ∀ (ms K : List Int), K.length ≤ (ms.foldl addK K).length
  | [], _ => Nat.le_refl _
  | m :: ms, K => Nat.le_trans (addK_len K m) (addsK_len ms _)
theorem putD_kn (K : List Int) (m : Int) : putD (.inl m) (.bool true) (K.map fun k => ((.int k, .bool true) : PD × PD)) = (addK K m).map fun k => ((.int k, .bool true) : PD × PD) := by
  have ha : ∀ K : List Int, ((K.map fun k => ((.int k, .bool true) : PD × PD)).any fun p => keyIsD (.inl m) p.1) = decide (m ∈ K) := by
    intro K
    induction K with
    | nil => simp
    | cons x xs ih =>
      rw [List.map_cons, List.any_cons, ih]
      by_cases h : x = m
      · simp [h, keyIsD]
      · have h' : ¬ m = x := fun e => h e.symm
        simp [h, h', keyIsD]
  unfold putD addK
  rw [ha]
  by_cases h : m ∈ K
  · simp only [h, decide_true, if_true, List.map_map]
    apply List.map_congr_left
    intro k hk
    simp only [Function.comp]
    split <;> rfl
  · simp [h, kD]
@[simp] theorem setIx_kn (K : List Int) (m : Int) : setIx (dKn K) (.int m) (.bool true) = if smallL K.length = true then some (dKn (addK K m)) else none := by
  refine nrf ?_
  simp only [dKn, setIx, keyD, List.length_map]
  rw [putD_kn]
theorem keysOf_kn : ∀ K : List Int, keysOf (K.map fun k => ((.int k, .bool true) : PD × PD)) = some K
  | [] => rfl
  | k :: K => by simp [keysOf, keysOf_kn K]
theorem gSorted_kn {K : List Int} (h : K.length < 64) : gSorted [dKn K] = some (.fresh (dInts (K.mergeSort leI))) := by
  simp only [dKn, gSorted, keysOf_kn, h, if_true, dInts]
/-- {k: True for k in ks} -/
theorem eDComp_kn {it : M (List PD)} {v : Nat} {ρ ρ1 : Dn} {ks : List Int} (hi : it ρ = .ok (ks.map .int) ρ1) (hv : v < ρ1.length) (hw : immOO ρ1[v]? = true) (hz : ks.length ≤ 10000000) :
    eDComp it (gNm v) [v] (retM true) (eVar v) (eC (.bool true)) ρ = .ok (.fresh (dKn (ks.foldl addK []))) ρ1 := by
  have hw' : okW ρ1 [v] = true := by simp [hw]
  have hg : (wipeD ρ1 [v])[v]? = some none := by simp [hv]
  have key : ∀ (ys K : List Int), K.length + ys.length ≤ 10000000 → dcompL (gNm v) [v] (retM true) (eVar v) (bnd (eC (.bool true)) frz) (ys.map .int) (K.map fun k => ((.int k, .bool true) : PD × PD)) (wipeD ρ1 [v]) = .ok ((ys.foldl addK K).map fun k => ((.int k, .bool true) : PD × PD)) (wipeD ρ1 [v]) := by
    intro ys
    induction ys with
    | nil => intro K _; rfl
    | cons y ys ih =>
      intro K hl
      simp only [List.length_cons] at hl
      have hs : smallL (K.map fun k => ((.int k, .bool true) : PD × PD)).length = true := by simp; omega
      have e1 : gNm v (.int y) (wipeD ρ1 [v]) = some ((wipeD ρ1 [v]).set v (some (.imm (.int y)))) := by
        simp [hv]
      have e2 : eVar v ((wipeD ρ1 [v]).set v (some (.imm (.int y)))) = .ok (.val (.int y)) ((wipeD ρ1 [v]).set v (some (.imm (.int y)))) := by
        simp [hv]
      have e3 : wipeD ((wipeD ρ1 [v]).set v (some (.imm (.int y)))) [v] = wipeD ρ1 [v] := by simp
      simp only [List.map_cons, dcompL, e1, retM_ap, e2, bnd_ap, eC_ap, thn_ok, frz_val, rd_val, keyD, hs, if_true, e3, putD_kn]
      have hl2 : (addK K y).length ≤ K.length + 1 := by unfold addK; split <;> simp
      exact ih (addK K y) (by omega)
  unfold eDComp
  rw [bnd_ap, hi]
  simp only [hw', if_true, thn_ok]
  have := key ks [] (by simpa using hz)
  simp only [List.map_nil] at this
  rw [this]
  simp only [back_wipe hw', dKn]
/-! sorted ints -/
theorem leI_total (a b : Int) : (leI a b || leI b a) = true := by simp [leI]; omega
theorem leI_trans (a b c : Int) (h : leI a b = true) (h2 : leI b c = true) : leI a c = true := by simp [leI] at *; omega
/-- strictly rising -/
def Rise (ks : List Int) : Prop := ks.Pairwise (· < ·)
theorem rise_sort {K : List Int} (h : K.Nodup) : Rise (K.mergeSort leI) := by
  have h1 : (K.mergeSort leI).Pairwise (fun a b => leI a b = true) := List.pairwise_mergeSort leI_trans leI_total K
  have h2 : (K.mergeSort leI).Nodup := (List.mergeSort_perm K leI).nodup_iff.mpr h
  refine (h1.and h2).imp fun {a b} ⟨h3, h4⟩ => ?_
  simp only [leI, decide_eq_true_eq] at h3
  omega
theorem rise_ext : ∀ {xs ys : List Int}, Rise xs → Rise ys → (∀ x, x ∈ xs ↔ x ∈ ys) → xs = ys
  | [], [], _, _, _ => rfl
  | [], y :: ys, _, _, h => by have := (h y).mpr (List.mem_cons_self ..); cases this
  | x :: xs, [], _, _, h => by have := (h x).mp (List.mem_cons_self ..); cases this
  | x :: xs, y :: ys, hx, hy, h => by
    unfold Rise at hx hy
    rw [List.pairwise_cons] at hx hy
    have e : x = y := by
      have h1 := (h x).mp (List.mem_cons_self ..)
      have h2 := (h y).mpr (List.mem_cons_self ..)
      rw [List.mem_cons] at h1 h2
      rcases h1 with h1 | h1
      · exact h1
      · rcases h2 with h2 | h2
        · exact h2.symm
        · have a := hx.1 _ h2
          have b := hy.1 _ h1
          omega
    subst e
    congr 1
    refine rise_ext hx.2 hy.2 fun z => ?_
    have hz := h z
    rw [List.mem_cons, List.mem_cons] at hz
    constructor
    · intro hm
      rcases hz.mp (.inr hm) with e | hm'
      · subst e; have := hx.1 _ hm; omega
      · exact hm'
    · intro hm
      rcases hz.mpr (.inr hm) with e | hm'
      · subst e; have := hy.1 _ hm; omega
      · exact hm'
/-! sums of factors -/
theorem sum_filter_le {ts : List (Int × Int)} (hp : ∀ t ∈ ts, 0 < t.1) {p q : Int × Int → Bool} (h : ∀ t ∈ ts, p t = true → q t = true) : ((ts.filter p).map (·.1)).sum ≤ ((ts.filter q).map (·.1)).sum := by
  induction ts with
  | nil => simp
  | cons t ts ih =>
    have i := ih (fun s hs => hp s (List.mem_cons_of_mem _ hs)) fun s hs => h s (List.mem_cons_of_mem _ hs)
    have h0 := hp t (List.mem_cons_self ..)
    have h1 := h t (List.mem_cons_self ..)
    simp only [List.filter_cons]
    cases ep : p t <;> cases eq : q t <;> simp
    · exact i
    · omega
    · simp [ep, eq] at h1
    · omega
theorem sum_filter_lt {ts : List (Int × Int)} (hp : ∀ t ∈ ts, 0 < t.1) {p q : Int × Int → Bool} (h : ∀ t ∈ ts, p t = true → q t = true) {u : Int × Int} (hu : u ∈ ts) (hpu : p u = false) (hqu : q u = true) : ((ts.filter p).map (·.1)).sum + u.1 ≤ ((ts.filter q).map (·.1)).sum := by
  induction ts with
  | nil => cases hu
  | cons t ts ih =>
    have hp' : ∀ t ∈ ts, 0 < t.1 := fun s hs => hp s (List.mem_cons_of_mem _ hs)
    have h' : ∀ t ∈ ts, p t = true → q t = true := fun s hs => h s (List.mem_cons_of_mem _ hs)
    have i2 := sum_filter_le hp' h'
    have h0 := hp t (List.mem_cons_self ..)
    have h1 := h t (List.mem_cons_self ..)
    simp only [List.filter_cons]
    rcases List.mem_cons.mp hu with e | hu
    · subst e
      simp [hpu, hqu]
      omega
    · have i := ih hp' h' hu
      cases ep : p t <;> cases eq : q t <;> simp
      · exact i
      · omega
      · simp [ep, eq] at h1
      · omega
end DP
namespace DP
@[simp] theorem ownLO_kn (b : Bool) (K : List Int) : ownLO (some (some (.own b (dKn K)))) = false := nrf rfl
@[simp] theorem ownDO_kn (b : Bool) (K : List Int) : ownDO (some (some (.own b (dKn K)))) = true := nrf rfl
@[simp] theorem clean_dInts (l k : Bool) (ks : List Int) : clean l k (dInts ks) = !l := by simp [dInts]
@[simp] theorem cleanTop_dInts (l k : Bool) (ks : List Int) : cleanTop l k (dInts ks) = true := by simp [dInts]
@[simp] theorem clean_dSum (l k : Bool) (s : Sm) : clean l k (dSum s) = true := by simp [dSum, dTerm, cleanAll_map]
@[simp] theorem itemsOf_dInts (ks : List Int) (ρ : Dn) : itemsOf (dInts ks) ρ = .ok (ks.map .int) ρ := nrf rfl
end DP
/-! PLG: running the mirrors' other pieces; how long repr's text may be. -/
namespace DP
open PySem L2
section
variable {ρ : Dn}
@[simp] theorem eIsi_ap (T : String) (f : M Rv) : eIsi T f ρ = (f ρ).thn fun r ρ => (rdM r ρ).thn fun d ρ => fin ((isiD T d).map fun b => .val (.bool b)) ρ := nrf rfl
@[simp] theorem eIsi2_ap (T U : String) (f : M Rv) : eIsi2 T U f ρ = (f ρ).thn fun r ρ => (rdM r ρ).thn fun d ρ => fin ((isiD2 T U d).map fun b => .val (.bool b)) ρ := nrf rfl
@[simp] theorem eCallK_ap (ms : List Bool) (m : List PD → FR) (n : Nat) (pi : List Nat) (fk : M (List Rv)) : eCallK ms m n pi fk ρ = eCall ms m (bnd fk fun rs => bnd (chk (rs.length == n)) fun _ => retM (pick pi rs)) ρ := nrf rfl
@[simp] theorem iZipM_ap (fa : M (List Rv)) : iZipM fa ρ = (fa ρ).thn fun rs ρ => (frzs rs ρ).thn fun ds ρ => zipM ds ρ := nrf rfl
@[simp] theorem zipM_l (xs ys : List PD) : zipM [.list xs, .list ys] ρ = .ok (zipL xs ys) ρ := nrf rfl
@[simp] theorem zipM_t (xs ys : List PD) : zipM [.tuple xs, .tuple ys] ρ = .ok (zipL xs ys) ρ := nrf rfl
@[simp] theorem iEnumM_ap (fa : M (List Rv)) : iEnumM fa ρ = (fa ρ).thn fun rs ρ => (frzs rs ρ).thn fun ds ρ => enumM ds ρ := nrf rfl
@[simp] theorem enumM_l (xs : List PD) : enumM [.list xs] ρ = .ok (enumL xs) ρ := nrf rfl
def revLR (d : PD) (ρ : Dn) : Rs Rv := match d with | .list ds => .ok (.fresh (.list ds.reverse)) ρ | _ => .no
@[simp] theorem revLR_l (ds : List PD) : revLR (.list ds) ρ = .ok (.fresh (.list ds.reverse)) ρ := nrf rfl
def revTR (d : PD) (ρ : Dn) : Rs Rv := match d with | .tuple ds => .ok (.val (.tuple ds.reverse)) ρ | _ => .no
@[simp] theorem revTR_t (ds : List PD) : revTR (.tuple ds) ρ = .ok (.val (.tuple ds.reverse)) ρ := nrf rfl
@[simp] theorem eRevL_ap (f : M Rv) : eRevL f ρ = (f ρ).thn fun r ρ => (rdM r ρ).thn fun d ρ => revLR d ρ := by
  refine nrf ?_
  unfold eRevL
  rw [bnd_ap]
  congr 1
  funext r ρ1
  rw [bnd_ap]
  congr 1
  funext d ρ2
  cases d <;> rfl
@[simp] theorem eRevT_ap (f : M Rv) : eRevT f ρ = (f ρ).thn fun r ρ => (rdM r ρ).thn fun d ρ => revTR d ρ := by
  refine nrf ?_
  unfold eRevT
  rw [bnd_ap]
  congr 1
  funext r ρ1
  rw [bnd_ap]
  congr 1
  funext d ρ2
  cases d <;> rfl
end
/-! is a thing of a type -/
@[simp] theorem isi_int (d : PD) : isiD "int" d = some (match d with | .int _ => true | .bool _ => true | _ => false) := by cases d <;> (simp only [isiD, tyName]; decide +kernel)
@[simp] theorem isi_bool (d : PD) : isiD "bool" d = some (match d with | .bool _ => true | _ => false) := by cases d <;> (simp only [isiD, tyName]; decide +kernel)
@[simp] theorem isi_tuple (d : PD) : isiD "tuple" d = some (match d with | .tuple _ => true | _ => false) := by cases d <;> (simp only [isiD, tyName]; decide +kernel)
@[simp] theorem isi_list (d : PD) : isiD "list" d = some (match d with | .list _ => true | _ => false) := by cases d <;> (simp only [isiD, tyName]; decide +kernel)
@[simp] theorem isi_str (d : PD) : isiD "str" d = some (match d with | .str _ => true | _ => false) := by cases d <;> (simp only [isiD, tyName]; decide +kernel)
/-! how long repr's text may be -/
structure Nice (B n : Nat) (d : PD) : Prop where
  sh : d.showable = true
  nd : d.hasDict = false
  dp : d.depth ≤ n
  cl : d.canLay0 = true
  le : d.shown.length ≤ B
theorem Nice.mono {B C n m : Nat} {d : PD} (h : Nice B n d) (hB : B ≤ C) (hn : n ≤ m) : Nice C m d := ⟨h.sh, h.nd, Nat.le_trans h.dp hn, h.cl, Nat.le_trans h.le hB⟩
theorem nice_none : Nice 4 0 .none := ⟨by simp [PyData.showable], by simp [PyData.hasDict], by simp [PyData.depth], by simp [PyData.canLay0], by simp only [PyData.shown]; decide +kernel⟩
theorem nice_bool (b : Bool) : Nice 5 0 (.bool b) := ⟨by simp [PyData.showable], by simp [PyData.hasDict], by simp [PyData.depth], by simp [PyData.canLay0], by simp only [PyData.shown]; cases b <;> decide +kernel⟩
theorem nice_int {i : Int} (h : i.natAbs.log2 < 1000) : Nice 1001 0 (.int i) := ⟨by simp [PyData.showable]; omega, by simp [PyData.hasDict], by simp [PyData.depth], by simp [PyData.canLay0], by
  simp only [PyData.shown]
  have e := int_text_length_le (a := i) (k := 1000) (by decide) h
  rw [ofString_length]
  exact e⟩
theorem nice_ints {i : Int} (h : -(2 ^ 200) < i) (h2 : i < 2 ^ 200) : Nice 1001 0 (.int i) := nice_int (by
  by_cases z : i.natAbs = 0
  · rw [z]; decide
  · exact (Nat.log2_lt z).mpr (Nat.lt_of_lt_of_le (show i.natAbs < 2 ^ 200 by omega) (Nat.pow_le_pow_right (by decide) (by decide))))
theorem nice_str {x : Str} {B : Nat} (h : PyData.strOk x = true) (hl : (reprText x).length ≤ B) : Nice B 0 (.str x) := ⟨by simp [PyData.showable], by simp [PyData.hasDict], by simp [PyData.depth], by simp [PyData.canLay0, h], by simpa only [PyData.shown] using hl⟩
theorem shownAll_map {α : Type} (f : α → PD) : ∀ xs : List α, PyData.shownAll (xs.map f) = xs.map fun x => (f x).shown
  | [] => by simp [PyData.shownAll]
  | x :: xs => by simp [PyData.shownAll, shownAll_map f xs]
theorem sum_le_mul {α : Type} {f : α → Nat} {B : Nat} : ∀ {xs : List α}, (∀ x ∈ xs, f x ≤ B) → (xs.map f).sum ≤ xs.length * B
  | [], _ => by simp
  | x :: xs, h => by
    have h1 := h x (List.mem_cons_self ..)
    have h2 := sum_le_mul (xs := xs) fun y hy => h y (List.mem_cons_of_mem _ hy)
    simp only [List.map_cons, List.sum_cons, List.length_cons, Nat.succ_mul]
    omega
theorem nice_all {B n : Nat} : ∀ {ds : List PD}, (∀ d ∈ ds, Nice B n d) → PyData.showableAll ds = true ∧ PyData.hasDictAll ds = false ∧ PyData.depthAll ds ≤ n ∧ PyData.canLayAll0 ds = true ∧ ((PyData.shownAll ds).map (·.length)).sum ≤ ds.length * B ∧ (PyData.shownAll ds).length = ds.length
  | [], _ => by simp [PyData.showableAll, PyData.hasDictAll, PyData.depthAll, PyData.canLayAll0, PyData.shownAll]
  | d :: ds, h => by
    have h1 := h d (List.mem_cons_self ..)
    obtain ⟨a, b, c, e, f, g⟩ := nice_all (ds := ds) fun y hy => h y (List.mem_cons_of_mem _ hy)
    have := h1.dp
    have := h1.le
    simp only [PyData.showableAll, PyData.hasDictAll, PyData.depthAll, PyData.canLayAll0, PyData.shownAll, h1.sh, h1.nd, h1.cl, a, b, e, List.map_cons, List.sum_cons, List.length_cons, g, Nat.succ_mul, Bool.and_self, Bool.or_self, true_and]
    exact ⟨by omega, by omega, trivial⟩
theorem nice_list {B n : Nat} {ds : List PD} (h : ∀ d ∈ ds, Nice B n d) : Nice (ds.length * (B + 2) + 3) (n + 1) (.list ds) := by
  obtain ⟨a, b, c, e, f, g⟩ := nice_all h
  refine ⟨by simpa only [PyData.showable] using a, by simpa only [PyData.hasDict] using b, by simp only [PyData.depth]; omega, by simpa only [PyData.canLay0] using e, ?_⟩
  simp only [PyData.shown]
  have := listText_len_le (PyData.shownAll ds)
  rw [g] at this
  rw [Nat.mul_add]
  omega
theorem nice_tup {B n : Nat} {ds : List PD} (h : ∀ d ∈ ds, Nice B n d) : Nice (ds.length * (B + 2) + 3) (n + 1) (.tuple ds) := by
  obtain ⟨a, b, c, e, f, g⟩ := nice_all h
  refine ⟨by simpa only [PyData.showable] using a, by simpa only [PyData.hasDict] using b, by simp only [PyData.depth]; omega, by simpa only [PyData.canLay0] using e, ?_⟩
  simp only [PyData.shown]
  have := tupleText_len_le (PyData.shownAll ds)
  rw [g] at this
  rw [Nat.mul_add]
  omega
theorem gReprA_of {B n : Nat} {d : PD} (h : Nice B n d) (hn : n ≤ 60 := by decide) (hB : B ≤ 10000000 := by omega) : gReprA [d] = some (.val (.str d.shown)) := by
  have hs : smallL d.shown.length = true := by simp; have := h.le; omega
  have ok : reprAOk d = true := by
    cases d with
    | none => rfl
    | bool b => rfl
    | int i => simpa [reprAOk, PyData.showable] using h.sh
    | str x => simpa only [reprAOk, PyData.shown] using hs
    | list l => simp only [reprAOk, reprOk, h.sh, h.nd, h.cl, hs, isLT, Bool.not_false, Bool.and_true, Bool.true_and]; exact decide_eq_true (Nat.le_trans h.dp hn)
    | tuple l => simp only [reprAOk, reprOk, h.sh, h.nd, h.cl, hs, isLT, Bool.not_false, Bool.and_true, Bool.true_and]; exact decide_eq_true (Nat.le_trans h.dp hn)
    | dict l => have := h.nd; simp [PyData.hasDict] at this
  simp only [gReprA, ok, if_true]
section
variable {ρ : Dn}
def andR (d : PD) (k : M Rv) (ρ : Dn) : Rs Rv := match d with | .bool true => k ρ | .bool false => .ok (.val (.bool false)) ρ | _ => .no
@[simp] theorem andR_b (b : Bool) (k : M Rv) : andR (.bool b) k ρ = if b = true then k ρ else .ok (.val (.bool false)) ρ := nrf (by cases b <;> rfl)
@[simp] theorem eAndV_ap (a b : M Rv) : eAndV a b ρ = (a ρ).thn fun x ρ => (rdM x ρ).thn fun d ρ => andR d b ρ := by
  refine nrf ?_
  unfold eAndV
  rw [bnd_ap]
  congr 1
  funext x ρ1
  rw [bnd_ap]
  congr 1
  funext d ρ2
  cases d with
  | bool b => cases b <;> rfl
  | _ => rfl
def orR (d : PD) (k : M Rv) (ρ : Dn) : Rs Rv := match d with | .bool false => k ρ | .bool true => .ok (.val (.bool true)) ρ | _ => .no
@[simp] theorem orR_b (b : Bool) (k : M Rv) : orR (.bool b) k ρ = if b = true then .ok (.val (.bool true)) ρ else k ρ := nrf (by cases b <;> rfl)
@[simp] theorem eOrV_ap (a b : M Rv) : eOrV a b ρ = (a ρ).thn fun x ρ => (rdM x ρ).thn fun d ρ => orR d b ρ := by
  refine nrf ?_
  unfold eOrV
  rw [bnd_ap]
  congr 1
  funext x ρ1
  rw [bnd_ap]
  congr 1
  funext d ρ2
  cases d with
  | bool b => cases b <;> rfl
  | _ => rfl
def notR (d : PD) (ρ : Dn) : Rs Rv := match d with | .bool b => .ok (.val (.bool (!b))) ρ | _ => .no
@[simp] theorem notR_b (b : Bool) : notR (.bool b) ρ = .ok (.val (.bool (!b))) ρ := nrf rfl
@[simp] theorem eNotV_ap (a : M Rv) : eNotV a ρ = (a ρ).thn fun x ρ => (rdM x ρ).thn fun d ρ => notR d ρ := by
  refine nrf ?_
  unfold eNotV
  rw [bnd_ap]
  congr 1
  funext x ρ1
  rw [bnd_ap]
  congr 1
  funext d ρ2
  cases d <;> rfl
def chR (d : PD) (k : M Rv) (ρ : Dn) : Rs Rv := match d with | .bool true => k ρ | .bool false => .ok (.val (.bool false)) ρ | _ => .no
@[simp] theorem chR_b (b : Bool) (k : M Rv) : chR (.bool b) k ρ = if b = true then k ρ else .ok (.val (.bool false)) ρ := nrf (by cases b <;> rfl)
@[simp] theorem eChain_ap (g g' : PD → PD → Option Rc) (a b c : M Rv) : eChain g g' a b c ρ = (a ρ).thn fun x ρ => (b ρ).thn fun y ρ => (rdM x ρ).thn fun d1 ρ => (rdM y ρ).thn fun d2 ρ => (fin (g d1 d2) ρ).thn fun z ρ => (rdM z ρ).thn fun dz ρ =>
    chR dz (fun ρ => (c ρ).thn fun w ρ => (rdM y ρ).thn fun d2' ρ => (rdM w ρ).thn fun d3 ρ => fin (g' d2' d3) ρ) ρ := by
  refine nrf ?_
  unfold eChain
  rw [bnd_ap]
  congr 1
  funext x ρ1
  rw [bnd_ap]
  congr 1
  funext y ρ2
  rw [bnd_ap]
  congr 1
  funext d1 ρ3
  rw [bnd_ap]
  congr 1
  funext d2 ρ4
  rw [bnd_ap]
  congr 1
  funext z ρ5
  rw [bnd_ap]
  congr 1
  funext dz ρ6
  cases dz with
  | bool b => cases b <;> rfl
  | _ => rfl
@[simp] theorem partM_none : partM none ρ = .ok none ρ := nrf rfl
def partR (d : PD) (ρ : Dn) : Rs (Option Int) := match d with | .int i => .ok (some i) ρ | _ => .no
@[simp] theorem partR_int (i : Int) : partR (.int i) ρ = .ok (some i) ρ := nrf rfl
@[simp] theorem partM_some (f : M Rv) : partM (some f) ρ = (f ρ).thn fun r ρ => (rdM r ρ).thn fun d ρ => partR d ρ := by
  refine nrf ?_
  show bnd f (fun r => bnd (rdM r) fun d => match d with
    | .int i => retM (some i)
    | _ => noM) ρ = _
  rw [bnd_ap]
  congr 1
  funext r ρ1
  rw [bnd_ap]
  congr 1
  funext d ρ2
  cases d <;> rfl
@[simp] theorem eSl_ap (f : M Rv) (lo hi : Option (M Rv)) : eSl f lo hi ρ = (f ρ).thn fun x ρ => (partM lo ρ).thn fun l ρ => (partM hi ρ).thn fun h ρ => (rdM x ρ).thn fun d ρ => fin (gSl d l h) ρ := nrf rfl
@[simp] theorem gSl_list (ds : List PD) (lo hi : Option Int) : gSl (.list ds) lo hi = some (.fresh (.list (cutD ds lo hi))) := nrf rfl
@[simp] theorem gSl_tuple (ds : List PD) (lo hi : Option Int) : gSl (.tuple ds) lo hi = some (.val (.tuple (cutD ds lo hi))) := nrf rfl
end
theorem cut_from (ds : List PD) (k : Nat) (h : k ≤ ds.length) : cutD ds (some (k : Int)) none = ds.drop k := by
  unfold cutD
  rw [HT.sIx_nat, HT.sIx_none, Nat.min_eq_left h, List.take_of_length_le (by simp)]
theorem cut_to (ds : List PD) (k : Nat) (h : k ≤ ds.length) : cutD ds none (some (k : Int)) = ds.take k := by
  unfold cutD
  rw [HT.sIx_nat, HT.sIx_none, Nat.min_eq_left h]
  simp
theorem cut_tail (ds : List PD) : cutD ds (some 1) none = ds.drop 1 := by
  unfold cutD
  rw [show (some (1 : Int)) = some ((1 : Nat) : Int) from rfl, HT.sIx_nat, HT.sIx_none]
  cases ds with
  | nil => rfl
  | cons d ds => rw [Nat.min_eq_left (by simp)]; simp
end DP
namespace DP
open PySem L2
theorem boolsOf_map {α : Type} (f : α → Bool) : ∀ ks : List α, boolsOf (ks.map fun k => .bool (f k)) = some (ks.map f)
  | [] => rfl
  | k :: ks => by simp [boolsOf, boolsOf_map f ks]
theorem gAll_map {α : Type} (f : α → Bool) (ks : List α) : gAll [.list (ks.map fun k => .bool (f k))] = some (.val (.bool (ks.all f))) := by
  simp only [gAll, boolsOf_map, Option.map_some, List.all_map]
  congr 3
def risesL : List Int → Bool
  | a :: b :: l => decide (a < b) && risesL (b :: l)
  | _ => true
theorem rises_zip : ∀ ks : List Int, (ks.zip ks.tail).all (fun p => decide (p.1 < p.2)) = risesL ks
  | [] => rfl
  | [a] => rfl
  | a :: b :: l => by
    have := rises_zip (b :: l)
    simp only [List.tail_cons, List.zip_cons_cons, List.all_cons, risesL] at this ⊢
    rw [this]
theorem zipL_tail (ks : List Int) : zipL (ks.map .int) (ks.map PyData.int).tail = (ks.zip ks.tail).map fun p => PyData.tuple [.int p.1, .int p.2] := by
  unfold zipL
  rw [← List.map_tail, List.zipWith_map, List.zip, List.map_zipWith]
end DP
namespace DP
open PySem L2
theorem rises_snoc : ∀ {l : List Int} {x : Int}, risesL l = true → (∀ y ∈ l, y < x) → risesL (l ++ [x]) = true
  | [], _, _, _ => rfl
  | [a], x, _, h => by
    have := h a (List.mem_cons_self ..)
    simp [risesL, this]
  | a :: b :: l, x, h1, h2 => by
    simp only [risesL, Bool.and_eq_true, decide_eq_true_eq] at h1
    have ih := rises_snoc (l := b :: l) (x := x) h1.2 fun y hy => h2 y (List.mem_cons_of_mem _ hy)
    simp only [List.cons_append, risesL, Bool.and_eq_true, decide_eq_true_eq] at ih ⊢
    exact ⟨h1.1, ih⟩
/-- a sum of the pool, told in full -/
structure SumOk2 (n : Nat) (s : Sm) : Prop where
  ok : SumOk n s
  rise : risesL (s.1.map fun t => (t.2.natAbs : Int)) = true
  fac : ∀ t ∈ s.1, t.1 ≤ 100000000000000000000
  low : -10 ≤ s.2
  high : s.2 ≤ 10 + (n : Int) * 100000000000000000000
theorem sum_fac {n : Nat} : ∀ {ts : List (Int × Int)}, (∀ t ∈ ts, 0 < t.1 ∧ t.1 ≤ 100000000000000000000) → 0 ≤ (ts.map (·.1)).sum ∧ (ts.map (·.1)).sum ≤ (ts.length : Int) * 100000000000000000000
  | [], _ => by simp
  | t :: ts, h => by
    have h1 := h t (List.mem_cons_self ..)
    have h2 := sum_fac (n := n) (ts := ts) fun u hu => h u (List.mem_cons_of_mem _ hu)
    simp only [List.map_cons, List.sum_cons, List.length_cons]
    omega
@[simp] theorem gEqS_ap (neg : Bool) (x y : Str) : gEqS neg (.str x) (.str y) = some (.val (.bool (if neg = true then !decide (x = y) else decide (x = y)))) := nrf rfl
end DP
namespace LW
open PySem L2 DP
theorem pool_run (ns : List Int) (k : Int) (hn : ns.length ≤ 63) (h0 : 0 ≤ k) (h1 : k < 64) : ∃ ρ', b__law_pool (some (.scr ns) :: some (.imm (.int k)) :: List.replicate (N__law_pool.length - 2) none) = .rt (.fresh (poolD ns k)) ρ' := by
  have hk : -18446744073709551616 < k ∧ k < 18446744073709551616 := by omega
  have hc : ∃ x : Int, (if k < (ns.length : Int) then (atI ns k).getD 0 else 11 * (ns.take 63).sum + k) = x ∧ (k < (ns.length : Int) → atI ns k = some x) ∧ (¬ k < (ns.length : Int) → 11 * (ns.take 63).sum + k = x) := by
    by_cases h : k < (ns.length : Int)
    · obtain ⟨x, e, _⟩ := atI_some h0 h
      exact ⟨x, by simp [h, e], fun _ => e, fun z => absurd h z⟩
    · exact ⟨_, rfl, fun z => absurd z h, fun _ => by simp [h]⟩
  obtain ⟨x, ex, e1, e2⟩ := hc
  unfold poolD poolOf
  dsimp only
  rw [ex]
  generalize hg : (if x < 0 then -x else x) = g
  have hm : 0 ≤ g % 2147483629 ∧ g % 2147483629 < 2147483629 := ⟨Int.emod_nonneg _ (by decide), Int.emod_lt_of_pos _ (by decide)⟩
  generalize hmx : (g % 2147483629 + 7919 * k * k + 31 * k + 17) * 48271 % 2147483647 = m
  have hmm : -18446744073709551616 < m ∧ m < 18446744073709551616 := by
    have := Int.emod_nonneg ((g % 2147483629 + 7919 * k * k + 31 * k + 17) * 48271) (show (2147483647 : Int) ≠ 0 by decide)
    have := Int.emod_lt_of_pos ((g % 2147483629 + 7919 * k * k + 31 * k + 17) * 48271) (show (0 : Int) < 2147483647 by decide)
    omega
  have hi : -18446744073709551616 < (if 1000000000000000000 ≤ g then (1 : Int) else 0) ∧ (if 1000000000000000000 ≤ g then (1 : Int) else 0) < 18446744073709551616 := by split <;> decide
  by_cases h : k < (ns.length : Int)
  · rw [b__law_pool]; simp [cut63, gMul_l, gMul_r, gMod_ap, gPow_ap, h, e1 h, hg, hmx, hmm, hk, hi]
  · rw [b__law_pool]; simp [cut63, gMul_l, gMul_r, gMod_ap, gPow_ap, h, e2 h, hg, hmx, hmm, hk, hi]
theorem take_run {p : PD} (hp : PoolOk p) (n : Int) (h0 : 0 < n) (h1 : n ≤ 1000000000) : ∃ (r : Int) (p' : PD), m__law_take [p, .int n] = .ok (.val (.int r)) [p'] ∧ PoolOk p' ∧ 0 ≤ r ∧ r < n := by
  obtain ⟨g, x, rfl, hg, hx, hx2⟩ := hp
  have hn : n < 2 ^ 200 := by omega
  by_cases h : 0 < g
  · refine ⟨g % n, dInts [g / n, x], ?_, ⟨g / n, x, rfl, Int.ediv_nonneg hg (by omega), hx, hx2⟩, Int.emod_nonneg _ (by omega), Int.emod_lt_of_pos _ h0⟩
    rw [me__law_take, b__law_take]; simp [dInts, h, gMod_ap h0, gFdiv_ap h0 hn, ixN]
  · generalize hy : (x * 48271 + 11) % 2147483647 = y
    have hy0 : 0 ≤ y := by rw [← hy]; exact Int.emod_nonneg _ (by decide)
    have hy1 : y < 2147483647 := by rw [← hy]; exact Int.emod_lt_of_pos _ (by decide)
    refine ⟨y * y % 2147483629 / 16 % n, dInts [g, y], ?_, ⟨g, y, rfl, hg, hy0, hy1⟩, Int.emod_nonneg _ (by omega), Int.emod_lt_of_pos _ h0⟩
    have hb : -18446744073709551616 < y ∧ y < 18446744073709551616 := by omega
    rw [me__law_take, b__law_take]; simp [dInts, h, gMod_ap, gMod_ap h0, gFdiv_ap, ixN, gMul_r, gMul_l, hy, hb]
theorem fillings_run (n : Nat) (h0 : 1 ≤ n) (h1 : n ≤ 12) : ∃ fs : List (List Bool), m__law_fillings [.int n] = .ok (.fresh (.list (fs.map dFill))) [] ∧ fs.Perm (fillL n) := by
  have hs : sortOk ((fillL n).map dFill) = true := sortOk_map (n := 1) (fun x _ y _ => alike_fill x y) (.inl fun x hx => by
    have := mem_fillL.mp hx
    cases x with
    | nil => simp at this; omega
    | cons a b => rfl) (fun x _ => sh_fill x)
  obtain ⟨ys, e1, _, hp⟩ := gSorted_map hs
  refine ⟨ys, ?_, hp⟩
  have hi : in62 (n : Int) = true := in62_of (by omega) (by omega)
  have key := forL_inv (g := gNm 2) (body := sSet 1 (eOp2 gAdd (eComp (iSeqM (eVar 1)) (gNm 3) [3] (retM true) (eOp2 gAdd (eVar 3) (eTup (aCons (eC (.bool false)) aNil)))) (eComp (iSeqM (eVar 1)) (gNm 3) [3] (retM true) (eOp2 gAdd (eVar 3) (eTup (aCons (eC (.bool true)) aNil))))))
    (enc := fun i : Nat => PyData.int (0 + (i : Int))) (xs := List.range n) (ρ := [some (.imm (.int n)), some (.own false (.list [.tuple []])), none, none])
    (Q := fun o => ∃ a, freeO a = true ∧ o = .nx [some (.imm (.int n)), some (.own false (.list ((fillL n).map dFill))), a, none])
    (fun ys ρ => ∃ a, freeO a = true ∧ ρ = [some (.imm (.int n)), some (.own false (.list ((fillL ys.length).map dFill))), a, none])
    ⟨none, rfl, rfl⟩ ?_ ?_
  · obtain ⟨a, ha, e⟩ := key
    rw [me__law_fillings, b__law_fillings]; simp [hi, rngL]
    simp at e
    rw [e]
    simp [e1]
  · rintro ys y zs ρ he ⟨a, ha, rfl⟩
    have hl : ys.length ≤ 12 := by
      have := congrArg List.length he
      simp at this
      omega
    have hp := Nat.pow_le_pow_right (show 0 < 2 by decide) hl
    refine ⟨_, by simp [ha]; rfl, ?_⟩
    simp
    rw [eComp_all (xs := fillL ys.length) (enc := dFill) (fun f => dFill (f ++ [false])) ?a ?w ?z ?b]
    case a => simp; rfl
    case w => rfl
    case z => rw [fillL_len]; omega
    case b =>
      intro f hf
      have := mem_fillL.mp hf
      have h9 : ys.length ≤ 9999999 := by omega
      simp [wipeD, dFill, this, h9]
    simp
    rw [eComp_all (xs := fillL ys.length) (enc := dFill) (fun f => dFill (f ++ [true])) ?a ?w ?z ?b]
    case a => simp; rfl
    case w => rfl
    case z => rw [fillL_len]; omega
    case b =>
      intro f hf
      have := mem_fillL.mp hf
      have h9 : ys.length ≤ 9999999 := by omega
      simp [wipeD, dFill, this, h9]
    have hq : 2 ^ ys.length + 2 ^ ys.length ≤ 10000000 := by omega
    simp [fillL_len, hq, fillL, Function.comp_def]
  · rintro ρ ⟨a, ha, rfl⟩
    exact ⟨a, ha, by simp⟩
theorem is_so_run {n : Nat} {m : Int} {f : List Bool} (hm : okM n m) (hf : f.length = n) : m__law_is_so [.int m, dFill f] = .ok (.val (.bool (isSo m f))) [] := by
  rw [me__law_is_so, b__law_is_so]
  obtain ⟨h1, h2⟩ := hm
  have hx : (if m < 0 then -m else m) - 1 = ((m.natAbs - 1 : Nat) : Int) := by split <;> omega
  have hl : m.natAbs - 1 < f.length := by omega
  have he : atI (f.map PyData.bool) ((m.natAbs - 1 : Nat) : Int) = some (.bool (f.getD (m.natAbs - 1) false)) := by
    obtain ⟨x, e1, _, e2⟩ := atI_some (xs := f.map PyData.bool) (i := ((m.natAbs - 1 : Nat) : Int)) (by omega) (by simp; omega)
    rw [e1]
    simp only [Int.toNat_natCast, List.getElem?_map] at e2
    cases e3 : f[m.natAbs - 1]? with
    | none => rw [e3] at e2; cases e2
    | some b => rw [e3] at e2; simp only [Option.map_some, Option.some.injEq] at e2; rw [← e2, List.getD_eq_getElem?_getD, e3]; rfl
  simp [dFill, hx, he, isSo]
theorem weight_run {n : Nat} {s : Sm} {f : List Bool} (hs : SumOk n s) (hn : n ≤ 1000) (hf : f.length = n) : m__law_weight [dSum s, dFill f] = .ok (.val (.int (weightL s f))) [] := by
  rw [me__law_weight, b__law_weight]
  simp [dSum]
  rw [eComp_run (xs := s.1) (enc := dTerm) (fun t => isSo t.2 f) (fun t => .int t.1) ?a ?w ?z ?b]
  case a => simp; rfl
  case w => rfl
  case z => have := hs.len; omega
  case b =>
    intro t ht
    have e := is_so_run (hs.ok t ht) hf
    simp [dTerm, wipeD, e]
  simp [intsOf_map', weightL]
theorem is_held_run {n : Nat} {s : Sm} {f : List Bool} (hs : SumOk n s) (hn : n ≤ 1000) (hf : f.length = n) : m__law_is_held [dSum s, dFill f] = .ok (.val (.bool (heldL s f))) [] := by
  have e := weight_run hs hn hf
  rw [me__law_is_held, b__law_is_held]
  simp [e]
  simp [dSum, heldL]
theorem p_is_so_run {n : Nat} {m : Int} {f : List Bool} (hm : okM n m) (hf : f.length = n) : m_is_so [.int m, dFill f] = .ok (.val (.bool (isSo m f))) [] := by
  rw [me_is_so, b_is_so]
  obtain ⟨h1, h2⟩ := hm
  have hx : (if m < 0 then -m else m) - 1 = ((m.natAbs - 1 : Nat) : Int) := by split <;> omega
  have hl : m.natAbs - 1 < f.length := by omega
  have he : atI (f.map PyData.bool) ((m.natAbs - 1 : Nat) : Int) = some (.bool (f.getD (m.natAbs - 1) false)) := by
    obtain ⟨x, e1, _, e2⟩ := atI_some (xs := f.map PyData.bool) (i := ((m.natAbs - 1 : Nat) : Int)) (by omega) (by simp; omega)
    rw [e1]
    simp only [Int.toNat_natCast, List.getElem?_map] at e2
    cases e3 : f[m.natAbs - 1]? with
    | none => rw [e3] at e2; cases e2
    | some b => rw [e3] at e2; simp only [Option.map_some, Option.some.injEq] at e2; rw [← e2, List.getD_eq_getElem?_getD, e3]; rfl
  simp [dFill, hx, he, isSo]
theorem p_weight_run {n : Nat} {s : Sm} {f : List Bool} (hs : SumOk n s) (hn : n ≤ 1000) (hf : f.length = n) : m_weight [dSum s, dFill f] = .ok (.val (.int (weightL s f))) [] := by
  rw [me_weight, b_weight]
  simp [dSum]
  rw [eComp_run (xs := s.1) (enc := dTerm) (fun t => isSo t.2 f) (fun t => .int t.1) ?a ?w ?z ?b]
  case a => simp; rfl
  case w => rfl
  case z => have := hs.len; omega
  case b =>
    intro t ht
    have e := p_is_so_run (hs.ok t ht) hf
    simp [dTerm, wipeD, e]
  simp [intsOf_map', weightL]
theorem p_is_held_run {n : Nat} {s : Sm} {f : List Bool} (hs : SumOk n s) (hn : n ≤ 1000) (hf : f.length = n) : m_is_held [dSum s, dFill f] = .ok (.val (.bool (heldL s f))) [] := by
  have e := p_weight_run hs hn hf
  rw [me_is_held, b_is_held]
  simp [e]
  simp [dSum, heldL]
def isWholeD : PD → Bool
  | .int _ => true
  | _ => false
theorem is_whole_run (d : PD) : m_is_whole [d] = .ok (.val (.bool (isWholeD d))) [] := by
  rw [me_is_whole, b_is_whole]
  cases d <;> simp [isWholeD]
def isMarkD (n : Int) : PD → Bool
  | .int i => decide (1 ≤ i.natAbs ∧ (i.natAbs : Int) ≤ n)
  | _ => false
theorem abs_if (i : Int) : (if i < 0 then -i else i) = (i.natAbs : Int) := by split <;> omega
theorem is_mark_run (d : PD) (n : Int) : m_is_mark [d, .int n] = .ok (.val (.bool (isMarkD n d))) [] := by
  have e := is_whole_run d
  rw [me_is_mark, b_is_mark]
  cases d with
  | int i =>
    simp only [isWholeD] at e
    by_cases h1 : (1 : Int) ≤ (i.natAbs : Int)
    · have h1' : 1 ≤ i.natAbs := by omega
      simp [e, abs_if, isMarkD, h1, h1']
    · have h1' : ¬ 1 ≤ i.natAbs := by omega
      simp [e, abs_if, isMarkD, h1, h1']
  | _ =>
    simp only [isWholeD] at e
    simp [e, isMarkD]
def isTermD (n : Int) : PD → Bool
  | .tuple [a, b] => (match a with | .int f => decide (1 ≤ f) | _ => false) && isMarkD n b
  | _ => false
theorem is_term_run (d : PD) (n : Int) : m_is_term [d, .int n] = .ok (.val (.bool (isTermD n d))) [] := by
  rw [me_is_term, b_is_term]
  cases d with
  | tuple l =>
    match l with
    | [a, b] =>
      have e := is_whole_run a
      have e2 := is_mark_run b n
      cases a with
      | int f =>
        simp only [isWholeD] at e
        by_cases h : 1 ≤ f <;> simp [e, e2, isTermD, h]
      | _ =>
        simp only [isWholeD] at e
        simp [e, isTermD]
    | [] => simp [isTermD]
    | [a] => simp [isTermD]
    | a :: b :: c :: l =>
      have h : ¬ ((l.length : Int) + 1 + 1 + 1 = 2) := by omega
      simp [isTermD, h]
  | _ => simp [isTermD]
theorem is_rising_run (ks : List Int) (h : ks.length ≤ 1000) : m_is_rising [dInts ks] = .ok (.val (.bool (risesL ks))) [] := by
  rw [me_is_rising, b_is_rising]
  simp
  rw [eComp_all (xs := ks.zip ks.tail) (enc := fun p => PyData.tuple [.int p.1, .int p.2]) (fun p => .bool (decide (p.1 < p.2))) ?a ?w ?z ?b]
  case a => rw [← zipL_tail]; simp [dInts, cut_tail]; rfl
  case w => rfl
  case z => simp; omega
  case b =>
    rintro ⟨a, b⟩ hp
    simp
  simp [gAll_map, rises_zip]
def markAbs : PD → Int
  | .tuple [_, .int m] => (m.natAbs : Int)
  | _ => 0
def isSumD (n : Int) : PD → Bool
  | .tuple [.tuple ts, l] => isWholeD l && (ts.all (isTermD n) && risesL (ts.map markAbs))
  | _ => false
theorem term_form {n : Int} {d : PD} (h : isTermD n d = true) : ∃ f m : Int, d = .tuple [.int f, .int m] ∧ 1 ≤ f ∧ 1 ≤ m.natAbs ∧ (m.natAbs : Int) ≤ n := by
  unfold isTermD at h
  split at h
  · rename_i a b
    cases a with
    | int f => cases b with
      | int m =>
        simp only [isMarkD, Bool.and_eq_true, decide_eq_true_eq] at h
        exact ⟨f, m, rfl, h.1, h.2.1, h.2.2⟩
      | _ => simp [isMarkD] at h
    | _ => simp at h
  · cases h
theorem is_sum_tuple (ts : List PD) (l : PD) (n : Int) (hl : ts.length ≤ 1000) : m_is_sum [.tuple [.tuple ts, l], .int n] = .ok (.val (.bool (isWholeD l && (ts.all (isTermD n) && risesL (ts.map markAbs))))) [] := by
  have e := is_whole_run l
  rw [me_is_sum, b_is_sum]
  cases hw : isWholeD l with
  | false =>
    rw [hw] at e
    simp [e]
  | true =>
    rw [hw] at e
    simp [e]
    rw [eComp_all (xs := ts) (enc := fun t => t) (fun t => .bool (isTermD n t)) ?a ?w ?z ?b]
    case a => simp; rfl
    case w => rfl
    case z => omega
    case b =>
      intro t ht
      have e2 := is_term_run t n
      simp [e2]
    cases ha : ts.all (isTermD n) with
    | false => simp [gAll_map, ha]
    | true =>
      simp [gAll_map, ha]
      rw [eComp_all (xs := ts) (enc := fun t => t) (fun t => .int (markAbs t)) ?a ?w ?z ?b]
      case a => simp; rfl
      case w => rfl
      case z => omega
      case b =>
        intro t ht
        obtain ⟨f, m, rfl, _⟩ := term_form (List.all_eq_true.mp ha t ht)
        simp [abs_if, markAbs]
      have e3 := is_rising_run (ts.map markAbs) (by simpa using hl)
      simp only [dInts, List.map_map] at e3
      have e4 : (ts.map fun t => PyData.int (markAbs t)) = ts.map (PyData.int ∘ markAbs) := rfl
      rw [e4]
      simp [e3]
theorem is_sum_run (d : PD) (n : Int) (hl : ∀ ts l, d = .tuple [.tuple ts, l] → ts.length ≤ 1000) : m_is_sum [d, .int n] = .ok (.val (.bool (isSumD n d))) [] := by
  cases d with
  | tuple l =>
    match l with
    | [a, b] =>
      cases a with
      | tuple ts => exact is_sum_tuple ts b n (hl ts b rfl)
      | _ => rw [me_is_sum, b_is_sum]; simp [isSumD]
    | [] => rw [me_is_sum, b_is_sum]; simp [isSumD]
    | [a] => rw [me_is_sum, b_is_sum]; simp [isSumD]
    | a :: b :: c :: l =>
      have h : ¬ ((l.length : Int) + 1 + 1 + 1 = 2) := by omega
      rw [me_is_sum, b_is_sum]
      simp [isSumD, h]
  | _ => rw [me_is_sum, b_is_sum]; simp [isSumD]
theorem law_is_whole_run (d : PD) : m__law_is_whole [d] = .ok (.val (.bool (isWholeD d))) [] := by
  rw [me__law_is_whole, b__law_is_whole]
  cases d <;> simp [isWholeD]
/-- the law's own walk over the terms -/
def termOk (n last : Int) : PD → Bool
  | .tuple [.int f, .int m] => decide (1 ≤ f) && (decide (last < m.natAbs) && decide ((m.natAbs : Int) ≤ n))
  | _ => false
def okFrom (n : Int) : Int → List PD → Bool
  | _, [] => true
  | last, t :: ts => termOk n last t && okFrom n (markAbs t) ts
def lawTerm : SM := (sSeq (sIf (tOrM (tNotM (tBool (eIsi "tuple" (eVar 3)))) (tOrM (tBool (eOp2 (gEq true) (eOpN gLen (aCons (eVar 3) aNil)) (eC (.int 2)))) (tOrM (tNotM (tBool (eCall [false] m__law_is_whole (aCons (eOp2 gIx (eVar 3) (eC (.int 0))) aNil)))) (tNotM (tBool (eCall [false] m__law_is_whole (aCons (eOp2 gIx (eVar 3) (eC (.int 1))) aNil))))))) (sRet (eC (.bool false))) sNil)
    (sSeq (sIf (tOrM (tBool (eOp2 gLt (eOp2 gIx (eVar 3) (eC (.int 0))) (eC (.int 1)))) (tNotM (tBool (eChain gLt gLe (eVar 2) (eOpN gAbs (aCons (eOp2 gIx (eVar 3) (eC (.int 1))) aNil)) (eVar 1))))) (sRet (eC (.bool false))) sNil)
    (sSet 2 (eOpN gAbs (aCons (eOp2 gIx (eVar 3) (eC (.int 1))) aNil)))))
theorem lawTerm_run (x0 : Option Sl) (t : PD) (n last : Int) :
    (termOk n last t = true → lawTerm [x0, some (.imm (.int n)), some (.imm (.int last)), some (.imm t)] = .nx [x0, some (.imm (.int n)), some (.imm (.int (markAbs t))), some (.imm t)]) ∧
    (termOk n last t = false → ∃ ρ', lawTerm [x0, some (.imm (.int n)), some (.imm (.int last)), some (.imm t)] = .rt (.val (.bool false)) ρ') := by
  have no : termOk n last t = false → (∃ ρ', lawTerm [x0, some (.imm (.int n)), some (.imm (.int last)), some (.imm t)] = .rt (.val (.bool false)) ρ') → (termOk n last t = true → lawTerm [x0, some (.imm (.int n)), some (.imm (.int last)), some (.imm t)] = .nx [x0, some (.imm (.int n)), some (.imm (.int (markAbs t))), some (.imm t)]) ∧
    (termOk n last t = false → ∃ ρ', lawTerm [x0, some (.imm (.int n)), some (.imm (.int last)), some (.imm t)] = .rt (.val (.bool false)) ρ') := fun h e => ⟨fun z => absurd (h.symm.trans z) Bool.false_ne_true, fun _ => e⟩
  cases t with
  | tuple l =>
    match l with
    | [a, b] =>
      have ea := law_is_whole_run a
      have eb := law_is_whole_run b
      cases a with
      | int f => cases b with
        | int m =>
          simp only [isWholeD] at ea eb
          unfold lawTerm
          by_cases h1 : 1 ≤ f
          · have h1' : ¬ f < 1 := by omega
            by_cases h2 : last < (m.natAbs : Int)
            · by_cases h3 : (m.natAbs : Int) ≤ n
              · simp [ea, eb, termOk, h1, h1', h2, h3, abs_if, markAbs]
              · simp [ea, eb, termOk, h1, h1', h2, h3, abs_if, markAbs]
            · simp [ea, eb, termOk, h1, h1', h2, abs_if, markAbs]
          · have h1' : f < 1 := by omega
            simp [ea, eb, termOk, h1, h1', abs_if, markAbs]
        | _ =>
          simp only [isWholeD] at ea eb
          exact no rfl (by unfold lawTerm; simp [ea, eb])
      | _ =>
        simp only [isWholeD] at ea
        exact no (by simp [termOk]) (by unfold lawTerm; simp [ea])
    | [] => exact no rfl (by unfold lawTerm; simp)
    | [a] => exact no (by cases a <;> rfl) (by unfold lawTerm; simp)
    | a :: b :: c :: l =>
      have h : ¬ ((l.length : Int) + 1 + 1 + 1 = 2) := by omega
      exact no (by simp [termOk]) (by unfold lawTerm; simp [h])
  | _ => exact no rfl (by unfold lawTerm; simp)
theorem lawTerms_run (x0 : Option Sl) (n : Int) : ∀ (ts : List PD) (last : Int) (a : Option Sl), freeO a = true →
    (okFrom n last ts = true → ∃ x a', forL (gNm 3) lawTerm ts [x0, some (.imm (.int n)), some (.imm (.int last)), a] = .nx [x0, some (.imm (.int n)), some (.imm (.int x)), a']) ∧
    (okFrom n last ts = false → ∃ ρ', forL (gNm 3) lawTerm ts [x0, some (.imm (.int n)), some (.imm (.int last)), a] = .rt (.val (.bool false)) ρ')
  | [], last, a, ha => ⟨fun _ => ⟨last, a, by simp [forL]⟩, fun h => by simp [okFrom] at h⟩
  | t :: ts, last, a, ha => by
    obtain ⟨h1, h2⟩ := lawTerm_run x0 t n last
    cases ht : termOk n last t with
    | false =>
      obtain ⟨ρ', e⟩ := h2 ht
      refine ⟨fun z => by simp [okFrom, ht] at z, fun _ => ⟨ρ', ?_⟩⟩
      rw [forL]
      simp [ha, e]
    | true =>
      have e := h1 ht
      obtain ⟨g1, g2⟩ := lawTerms_run x0 n ts (markAbs t) (some (.imm t)) rfl
      refine ⟨fun z => ?_, fun z => ?_⟩
      · simp only [okFrom, ht, Bool.true_and] at z
        obtain ⟨x, a', e2⟩ := g1 z
        refine ⟨x, a', ?_⟩
        rw [forL]
        simp [ha, e, e2]
      · simp only [okFrom, ht, Bool.true_and] at z
        obtain ⟨ρ', e2⟩ := g2 z
        refine ⟨ρ', ?_⟩
        rw [forL]
        simp [ha, e, e2]
theorem okFrom_eq (n : Int) : ∀ (ts : List PD) (last : Int), 0 ≤ last → okFrom n last ts = (ts.all (isTermD n) && risesL (last :: ts.map markAbs))
  | [], last, _ => by simp [okFrom, risesL]
  | t :: ts, last, h => by
    have hm : 0 ≤ markAbs t := by unfold markAbs; split <;> omega
    have ih := okFrom_eq n ts (markAbs t) hm
    simp only [okFrom, ih, List.all_cons, List.map_cons, risesL]
    cases ht : isTermD n t with
    | true =>
      obtain ⟨f, m, rfl, h1, h2, h3⟩ := term_form ht
      simp only [termOk, markAbs, h1, h3, decide_true, Bool.true_and, Bool.and_true]
      rw [Bool.and_left_comm]
      rfl
    | false =>
      have z : termOk n last t = false := by
        unfold termOk
        split
        · rename_i f m
          simp only [isTermD, isMarkD, Bool.and_eq_false_iff, decide_eq_false_iff_not] at ht ⊢
          rcases ht with z | z
          · exact .inl z
          · by_cases z2 : (m.natAbs : Int) ≤ n
            · right; left; omega
            · right; right; exact z2
        · rfl
      simp [z]
theorem law_is_sum_run (d : PD) (n : Int) : m__law_is_sum [d, .int n] = .ok (.val (.bool (isSumD n d))) [] := by
  cases d with
  | tuple l =>
    match l with
    | [a, b] =>
      cases a with
      | tuple ts =>
        have e := law_is_whole_run b
        rw [me__law_is_sum, b__law_is_sum]
        cases hw : isWholeD b with
        | false =>
          rw [hw] at e
          simp [e, isSumD, hw]
        | true =>
          rw [hw] at e
          obtain ⟨g1, g2⟩ := lawTerms_run (some (.imm (.tuple [.tuple ts, b]))) n ts 0 none rfl
          have k := okFrom_eq n ts 0 (Int.le_refl 0)
          have k2 : (ts.all (isTermD n) && risesL (0 :: ts.map markAbs)) = (ts.all (isTermD n) && risesL (ts.map markAbs)) := by
            cases ts with
            | nil => rfl
            | cons t ts =>
              cases ht : isTermD n t with
              | false => simp [ht]
              | true =>
                obtain ⟨f, m, rfl, _, h2, _⟩ := term_form ht
                have : (0 : Int) < markAbs (.tuple [.int f, .int m]) := by simp only [markAbs]; omega
                simp [risesL, this]
          rw [k2] at k
          unfold lawTerm at g1 g2
          cases ho : okFrom n 0 ts with
          | true =>
            obtain ⟨x, a', e2⟩ := g1 ho
            rw [ho] at k
            simp [e]
            rw [e2]
            simp [isSumD, hw, ← k]
          | false =>
            obtain ⟨ρ', e2⟩ := g2 ho
            rw [ho] at k
            simp [e]
            rw [e2]
            simp [isSumD, hw, ← k]
      | _ => rw [me__law_is_sum, b__law_is_sum]; simp [isSumD]
    | [] => rw [me__law_is_sum, b__law_is_sum]; simp [isSumD]
    | [a] => rw [me__law_is_sum, b__law_is_sum]; simp [isSumD]
    | a :: b :: c :: l =>
      have h : ¬ ((l.length : Int) + 1 + 1 + 1 = 2) := by omega
      rw [me__law_is_sum, b__law_is_sum]
      simp [isSumD, h]
  | _ => rw [me__law_is_sum, b__law_is_sum]; simp [isSumD]
def reachL (s : Sm) : Int := (s.1.map (·.1)).sum
theorem reach_run (s : Sm) (h : s.1.length ≤ 1000) : m_reach [dSum s] = .ok (.val (.int (reachL s))) [] := by
  rw [me_reach, b_reach]
  simp [dSum]
  rw [eComp_all (xs := s.1) (enc := dTerm) (fun t => .int t.1) ?a ?w ?z ?b]
  case a => simp; rfl
  case w => rfl
  case z => omega
  case b =>
    intro t ht
    simp [dTerm]
  simp [intsOf_map', reachL]
def contraryL (s : Sm) : Sm := (s.1.map fun t => (t.1, -t.2), reachL s - s.2 + 1)
theorem contrary_run (s : Sm) (h : s.1.length ≤ 1000) : m_contrary [dSum s] = .ok (.val (dSum (contraryL s))) [] := by
  have e := reach_run s h
  simp only [dSum] at e
  rw [me_contrary, b_contrary]
  simp [dSum]
  rw [eComp_all (xs := s.1) (enc := dTerm) (fun t => dTerm (t.1, -t.2)) ?a ?w ?z ?b]
  case a => simp; rfl
  case w => rfl
  case z => omega
  case b =>
    intro t ht
    simp [dTerm]
  simp [e, contraryL, Function.comp_def]
/-- a thing whose text is short; if it looks like a sum, with few terms -/
def ItemOk (d : PD) : Prop := Nice 2000000 4 d ∧ ∀ ts l, d = .tuple [.tuple ts, l] → ts.length ≤ 1000
def oddL (n : Nat) : List PD := [.tuple [.int 0, .int 1], .tuple [.int 1, .int 0], .tuple [.int (-1), .int 1], .tuple [.int 1, .int ((n : Int) + 1)], .tuple [.bool true, .int 1], .tuple [.int 1, .bool true], .tuple [.int 1], .list [.int 1, .int 1], .none, .tuple [.int 1, .int 1], .tuple [.str ("1" : Str), .int 1],
  .tuple [.int 1, .int 1, .int 1], .tuple [.int 1, .none], .tuple [.int 1, .str ("1" : Str)], .tuple [.int 1, .list [.int 1]]]
theorem nice3 {B n : Nat} {ds : List PD} (h : ∀ d ∈ ds, Nice B n d) (hl : ds.length ≤ 3) : Nice (3 * (B + 2) + 3) (n + 1) (.tuple ds) := (nice_tup h).mono (by have := Nat.mul_le_mul_right (B + 2) hl; omega) (Nat.le_refl _)
theorem nice3l {B n : Nat} {ds : List PD} (h : ∀ d ∈ ds, Nice B n d) (hl : ds.length ≤ 3) : Nice (3 * (B + 2) + 3) (n + 1) (.list ds) := (nice_list h).mono (by have := Nat.mul_le_mul_right (B + 2) hl; omega) (Nat.le_refl _)
theorem odd_nice (n : Nat) (hn : n ≤ 12) : ∀ d ∈ oddL n, Nice 20000 2 d := by
  have i : ∀ z : Int, -1000 < z → z < 1000 → Nice 1001 0 (.int z) := fun z h1 h2 => nice_ints (by omega) (by omega)
  have b := (nice_bool true).mono (show 5 ≤ 1001 by decide) (Nat.le_refl 0)
  have u := nice_none.mono (show 4 ≤ 1001 by decide) (Nat.le_refl 0)
  have t : Nice 1001 0 (.str ("1" : Str)) := nice_str (by decide +kernel) (by decide +kernel)
  have two : ∀ {x y : PD}, Nice 1001 0 x → Nice 1001 0 y → Nice 20000 2 (.tuple [x, y]) := fun hx hy => (nice3 (by simp; exact ⟨hx, hy⟩) (by simp)).mono (by decide) (by decide)
  intro d hd
  simp only [oddL, List.mem_cons, List.not_mem_nil, or_false] at hd
  rcases hd with rfl | rfl | rfl | rfl | rfl | rfl | rfl | rfl | rfl | rfl | rfl | rfl | rfl | rfl | rfl
  · exact two (i 0 (by decide) (by decide)) (i 1 (by decide) (by decide))
  · exact two (i 1 (by decide) (by decide)) (i 0 (by decide) (by decide))
  · exact two (i (-1) (by decide) (by decide)) (i 1 (by decide) (by decide))
  · exact two (i 1 (by decide) (by decide)) (i _ (by omega) (by omega))
  · exact two b (i 1 (by decide) (by decide))
  · exact two (i 1 (by decide) (by decide)) b
  · exact (nice3 (by simp; exact i 1 (by decide) (by decide)) (by simp)).mono (by decide) (by decide)
  · exact (nice3l (by simp; exact i 1 (by decide) (by decide)) (by simp)).mono (by decide) (by decide)
  · exact u.mono (by decide) (by decide)
  · exact two (i 1 (by decide) (by decide)) (i 1 (by decide) (by decide))
  · exact two t (i 1 (by decide) (by decide))
  · exact (nice3 (by simp; exact i 1 (by decide) (by decide)) (by simp)).mono (by decide) (by decide)
  · exact two (i 1 (by decide) (by decide)) u
  · exact two (i 1 (by decide) (by decide)) t
  · have l1 : Nice 4000 1 (.list [.int 1]) := (nice3l (by simp; exact i 1 (by decide) (by decide)) (by simp)).mono (by decide) (by decide)
    refine (nice3 (B := 4000) (n := 1) ?_ (by simp)).mono (by decide) (by decide)
    simp
    exact ⟨(i 1 (by decide) (by decide)).mono (by decide) (by decide), l1⟩
theorem bent_run {n : Nat} {p : PD} {s : Sm} (hp : PoolOk p) (hs : SumOk n s) (hn : n ≤ 12) (hf : ∀ t ∈ s.1, t.1 ≤ 10 ^ 20) (hl : -(10 ^ 30) < s.2 ∧ s.2 < 10 ^ 30) : ∃ (d p' : PD), m__law_bent [p, dSum s, .int n] = .ok (.val d) [p'] ∧ PoolOk p' ∧ ItemOk d := by
  have hsl := hs.len
  obtain ⟨r1, p1, e1, hp1, hr10, hr11⟩ := take_run hp ((s.1.length : Int) + 1) (by omega) (by omega)
  obtain ⟨k, hk⟩ : ∃ k : Nat, r1 = (k : Int) := ⟨r1.toNat, by omega⟩
  subst hk
  have hkl : k ≤ (s.1.map dTerm).length := by simp; omega
  obtain ⟨r2, p2, e2, hp2, hr20, hr21⟩ := take_run hp1 15 (by decide) (by decide)
  obtain ⟨r3, p3, e3, hp3, hr30, hr31⟩ := take_run hp2 12 (by decide) (by decide)
  have c1 := cut_to (s.1.map dTerm) k hkl
  have c2 := cut_from (s.1.map dTerm) k hkl
  obtain ⟨od, e4, hm, _⟩ := atI_some (xs := oddL n) hr20 (by simpa [oddL] using hr21)
  have no := odd_nice n hn od hm
  simp only [oddL] at e4

  have l1 : min k s.1.length + 1 ≤ 10000000 := by omega
  have l2 : min k s.1.length + 1 + (s.1.length - k) ≤ 10000000 := by omega
  have l3 : s.1.length + s.1.length ≤ 10000000 := by omega
  have nT : ∀ d ∈ s.1.map dTerm, Nice 20000 2 d := by
    intro d hd
    obtain ⟨t, ht, rfl⟩ := List.mem_map.mp hd
    have h1 := hf t ht
    have h2 := hs.pos t ht
    have h3 := hs.ok t ht
    obtain ⟨h4, h5⟩ := h3
    exact (nice3 (B := 1001) (n := 0) (by simp; exact ⟨nice_ints (by omega) (by omega), nice_ints (by omega) (by omega)⟩) (by simp)).mono (by decide) (by decide)
  have big : ∀ ds : List PD, (∀ d ∈ ds, Nice 20000 2 d) → ds.length ≤ 24 → Nice 480100 3 (.tuple ds) := fun ds h hl => (nice_tup h).mono (by have := Nat.mul_le_mul_right (20000 + 2) hl; omega) (by decide)
  have bigl : ∀ ds : List PD, (∀ d ∈ ds, Nice 20000 2 d) → ds.length ≤ 24 → Nice 480100 3 (.list ds) := fun ds h hl => (nice_list h).mono (by have := Nat.mul_le_mul_right (20000 + 2) hl; omega) (by decide)
  have hlen : (s.1.map dTerm).length ≤ 12 := by simp; omega
  generalize hT : s.1.map dTerm = T at *
  have nA := big T nT (by omega)
  have nL := bigl T nT (by omega)
  have nR := big T.reverse (fun d hd => nT d (by simpa using hd)) (by simp; omega)
  have nD := big (T ++ T) (fun d hd => nT d (by simpa using hd)) (by simp; omega)
  have nO := big (T.take k ++ od :: T.drop k) (fun d hd => by
    rw [List.mem_append, List.mem_cons] at hd
    rcases hd with h | rfl | h
    · exact nT d (List.mem_of_mem_take h)
    · exact no
    · exact nT d (List.mem_of_mem_drop h)) (by simp; omega)
  have nl : Nice 480100 3 (.int s.2) := (nice_ints (by omega) (by omega)).mono (by decide) (by decide)
  have nu : Nice 480100 3 .none := nice_none.mono (by decide) (by decide)
  have nb : Nice 480100 3 (.bool true) := (nice_bool true).mono (by decide) (by decide)
  have n0 : Nice 480100 3 (.int 0) := (nice_ints (by omega) (by omega)).mono (by decide) (by decide)
  have two : ∀ {x y : PD}, Nice 480100 3 x → Nice 480100 3 y → Nice 2000000 4 (.tuple [x, y]) := fun hx hy => (nice3 (by simp; exact ⟨hx, hy⟩) (by simp)).mono (by decide) (by decide)
  obtain ⟨it, e5, hm2, _⟩ := atI_some (xs := [PyData.tuple [.tuple (T.take k ++ od :: T.drop k), .int s.2], .tuple [.tuple T, .none], .tuple [.tuple T, .bool true], .tuple [.list T, .int s.2], .tuple [.tuple T], .list [.tuple T, .int s.2], .tuple T, .none,
    .tuple [.tuple T.reverse, .int s.2], .tuple [.tuple T, .int s.2, .int 0], .tuple [.tuple (T ++ T), .int s.2], .str ("sum" : Str)]) hr30 (by simpa using hr31)
  refine ⟨it, p3, ?_, hp3, ?_⟩
  · have l1' : min k T.length + 1 ≤ 10000000 := by omega
    have l2' : min k T.length + 1 + (T.length - k) ≤ 10000000 := by omega
    have l3' : T.length + T.length ≤ 10000000 := by omega
    have hTl : T.length = s.1.length := by rw [← hT]; simp
    rw [← hTl] at e1
    rw [me__law_bent, b__law_bent]
    simp [dSum, hT, e1, c1, c2, e2, e4, l1', l2', l3', e3, e5]
  · simp only [List.mem_cons, List.not_mem_nil, or_false] at hm2
    have lenOk : ∀ {ts : List PD}, ts.length ≤ 24 → ts.length ≤ 1000 := fun h => by omega
    rcases hm2 with rfl | rfl | rfl | rfl | rfl | rfl | rfl | rfl | rfl | rfl | rfl | rfl
    · exact ⟨two nO nl, fun ts l e => by cases e; simp; omega⟩
    · exact ⟨two nA nu, fun ts l e => by cases e; omega⟩
    · exact ⟨two nA nb, fun ts l e => by cases e; omega⟩
    · exact ⟨two nL nl, fun ts l e => by cases e⟩
    · exact ⟨(nice3 (by simp; exact nA) (by simp)).mono (by decide) (by decide), fun ts l e => by cases e⟩
    · exact ⟨(nice3l (by simp; exact ⟨nA, nl⟩) (by simp)).mono (by decide) (by decide), fun ts l e => by cases e⟩
    · refine ⟨nA.mono (by decide) (by decide), fun ts l e => ?_⟩
      injection e with e
      have : T.length = 2 := by rw [e]; rfl
      have hmem : PyData.tuple ts ∈ T := by rw [e]; simp
      rw [← hT] at hmem
      obtain ⟨t, _, ht⟩ := List.mem_map.mp hmem
      unfold dTerm at ht
      injection ht with ht
      rw [← ht]
      simp
    · exact ⟨nu.mono (by decide) (by decide), fun ts l e => by cases e⟩
    · exact ⟨two nR nl, fun ts l e => by cases e; simp; omega⟩
    · exact ⟨(nice3 (by simp; exact ⟨nA, nl, n0⟩) (by simp)).mono (by decide) (by decide), fun ts l e => by cases e⟩
    · exact ⟨two nD nl, fun ts l e => by cases e; simp; omega⟩
    · exact ⟨(nice_str (B := 100) (by decide +kernel) (by decide +kernel)).mono (by decide) (by decide), fun ts l e => by cases e⟩
theorem sum_run2 {n : Nat} {p : PD} (hp : PoolOk p) (hn : n ≤ 1000) : ∃ (s : Sm) (p' : PD), m__law_sum [p, .int n] = .ok (.val (dSum s)) [p'] ∧ PoolOk p' ∧ SumOk2 n s := by
  have hi : in62 ((n : Int) + 1) = true := in62_of (by omega) (by omega)
  have hi1 : in62 1 = true := in62_of (by omega) (by omega)
  have key := forL_inv (g := gNm 3) (body := sIf (tBool (eOp2 gGt (eCall [true, false] m__law_take (aCons (eVar 0) (aCons (eC (.int 3)) aNil))) (eC (.int 0)))) (sSeq (sSet 4 (eOp2 gIx (eLst (aCons (eC (.int 1)) (aCons (eC (.int 1)) (aCons (eC (.int 1)) (aCons (eC (.int 2)) (aCons (eC (.int 3)) (aCons (eC (.int 7)) (aCons (eOp2 gPow (eC (.int 10)) (eC (.int 20))) aNil)))))))) (eCall [true, false] m__law_take (aCons (eVar 0) (aCons (eC (.int 7)) aNil)))))
    (sApp 2 (eTup (aCons (eVar 4) (aCons (eOp2 gIx (eLst (aCons (eVar 3) (aCons (eOp2 gSub (eC (.int 0)) (eVar 3)) aNil))) (eCall [true, false] m__law_take (aCons (eVar 0) (aCons (eC (.int 2)) aNil)))) aNil))))) sNil)
    (enc := fun i : Nat => PyData.int (1 + (i : Int))) (xs := List.range n) (ρ := [some (.own true p), some (.imm (.int n)), some (.own false (.list [])), none, none, none, none, none])
    (Q := fun o => ∃ (p' : PD) (ts : List (Int × Int)) (a b : Option Sl), PoolOk p' ∧ (∀ t ∈ ts, (0 : Int) < t.1 ∧ okM n t.2 ∧ t.1 ≤ 100000000000000000000) ∧ risesL (ts.map fun t => (t.2.natAbs : Int)) = true ∧ ts.length ≤ n ∧ freeO a = true ∧ immO b = true ∧ o = .nx [some (.own true p'), some (.imm (.int n)), some (.own false (.list (ts.map dTerm))), a, b, none, none, none])
    (fun ys ρ => ∃ (p' : PD) (ts : List (Int × Int)) (a b : Option Sl), PoolOk p' ∧ (∀ t ∈ ts, (0 : Int) < t.1 ∧ okM n t.2 ∧ t.1 ≤ 100000000000000000000 ∧ t.2.natAbs ≤ ys.length) ∧ risesL (ts.map fun t => (t.2.natAbs : Int)) = true ∧ ts.length ≤ ys.length ∧ freeO a = true ∧ immO b = true ∧ ρ = [some (.own true p'), some (.imm (.int n)), some (.own false (.list (ts.map dTerm))), a, b, none, none, none])
    ⟨p, [], none, none, hp, by simp, rfl, by simp, rfl, rfl, rfl⟩ ?_ ?_
  · obtain ⟨p', ts, a, b, hp', hts, hri, hl, ha, hb, e⟩ := key
    rw [me__law_sum, b__law_sum]
    simp [hi, hi1, rngL]
    rw [e]
    simp
    rw [eComp_all (xs := ts) (enc := dTerm) (fun t => .int t.1) ?a ?w ?z ?b]
    case a => simp; rfl
    case w => simp [hb]
    case z => omega
    case b => intro t ht; simp [dTerm]
    simp [intsOf_map', gFdiv_ap]
    have hsum := sum_fac (n := n) (ts := ts) fun t ht => ⟨(hts t ht).1, (hts t ht).2.2⟩
    generalize htot : (ts.map (·.1)).sum = tot
    rw [htot] at hsum
    have hmul : (ts.length : Int) * 100000000000000000000 ≤ (n : Int) * 100000000000000000000 := by omega
    have hn0 : (0 : Int) ≤ (n : Int) * 100000000000000000000 := by omega
    generalize htop : (n : Int) * 100000000000000000000 = top at *
    generalize (ts.length : Int) * 100000000000000000000 = mid at *
    obtain ⟨r, p'', e2, hp'', hr0, hr1⟩ := take_run hp' 8 (by decide) (by decide)
    obtain ⟨x, e3, hm, _⟩ := atI_some (xs := [PyData.int 1, .int 1, .int 2, .int tot, .int (tot + 1), .int 0, .int (-3), .int (1 + tot / 2)]) hr0 (by simpa using hr1)
    have hx : ∃ i, x = .int i ∧ -10 ≤ i ∧ i ≤ 10 + top := by
      simp only [List.mem_cons, List.not_mem_nil, or_false] at hm
      rcases hm with h | h | h | h | h | h | h | h <;> exact ⟨_, h, by omega, by omega⟩
    obtain ⟨i, rfl, hi0, hi1⟩ := hx
    refine ⟨ts, i, p'', ?_, hp'', ⟨⟨fun t ht => (hts t ht).1, fun t ht => (hts t ht).2.1, hl⟩, hri, fun t ht => (hts t ht).2.2, hi0, by rw [htop]; exact hi1⟩⟩
    simp [e2, e3, dSum]
  · rintro ys y zs ρ he ⟨p', ts, a, b, hp', hts, hri, hl, ha, hb, rfl⟩
    have hy : ys.length < n ∧ y = ys.length := by
      have h1 := congrArg List.length he
      have h2 := congrArg (fun l => l[ys.length]?) he
      simp at h1 h2
      exact ⟨by omega, by rw [List.getElem?_range (by omega)] at h2; simpa using h2.symm⟩
    have hbf := immO_free hb
    refine ⟨_, by simp [ha]; rfl, ?_⟩
    obtain ⟨r, p1, e1, hp1, hr0, hr1⟩ := take_run hp' 3 (by decide) (by decide)
    simp [e1]
    by_cases hr : 0 < r
    · obtain ⟨r2, p2, e2, hp2, h20, h21⟩ := take_run hp1 7 (by decide) (by decide)
      obtain ⟨x, e3, hm, _⟩ := atI_some (xs := [PyData.int 1, .int 1, .int 1, .int 2, .int 3, .int 7, .int 100000000000000000000]) h20 (by simpa using h21)
      have hx : ∃ i, x = .int i ∧ 0 < i ∧ i ≤ 100000000000000000000 := by
        simp only [List.mem_cons, List.not_mem_nil, or_false] at hm
        rcases hm with h | h | h | h | h | h | h <;> exact ⟨_, h, by decide, by decide⟩
      obtain ⟨i, rfl, hi0, hi20⟩ := hx
      obtain ⟨r3, p3, e4, hp3, h30, h31⟩ := take_run hp2 2 (by decide) (by decide)
      obtain ⟨x, e5, hm, _⟩ := atI_some (xs := [PyData.int (1 + (y : Int)), .int (0 - (1 + (y : Int)))]) h30 (by simpa using h31)
      have hx : ∃ m, x = .int m ∧ okM n m ∧ m.natAbs = y + 1 := by
        simp only [List.mem_cons, List.not_mem_nil, or_false] at hm
        rcases hm with h | h
        · exact ⟨_, h, by unfold okM; omega, by omega⟩
        · exact ⟨_, h, by unfold okM; omega, by omega⟩
      obtain ⟨m, rfl, hmk, hmy⟩ := hx
      have hs : ts.length ≤ 10000000 := by omega
      simp at e5
      simp [hr, gPow_ap, e2, e3, hbf, e4, e5, hs]
      refine ⟨p3, hp3, ts ++ [(i, m)], ?_, ?_, by simp; omega, some (.imm (.int (1 + y))), rfl, some (.imm (.int i)), rfl, by simp [dTerm]⟩
      intro a c ht
      simp at ht
      rcases ht with h | ⟨rfl, rfl⟩
      · have := hts _ h
        exact ⟨this.1, this.2.1, this.2.2.1, by have := this.2.2.2; omega⟩
      · exact ⟨hi0, hmk, hi20, by omega⟩
      · rw [List.map_append]
        refine rises_snoc hri fun z hz => ?_
        obtain ⟨t, ht, rfl⟩ := List.mem_map.mp hz
        have := (hts t ht).2.2.2
        simp only
        omega
    · simp [hr]
      refine ⟨p1, hp1, ts, ?_, hri, by omega, some (.imm (.int (1 + y))), rfl, b, hb, rfl, rfl, rfl, rfl⟩
      intro a c ht
      have := hts _ ht
      exact ⟨this.1, this.2.1, this.2.2.1, by have := this.2.2.2; omega⟩
  · rintro ρ ⟨p', ts, a, b, hp', hts, hri, hl, ha, hb, rfl⟩
    exact ⟨p', ts, a, b, hp', fun t ht => ⟨(hts t ht).1, (hts t ht).2.1, (hts t ht).2.2.1⟩, hri, by simpa using hl, ha, hb, rfl⟩
theorem want_run {n : Nat} {p : PD} (hp : PoolOk p) (hn : n ≤ 1000) (most : Int) : ∃ (ms : List Int) (p' : PD), m__law_want [p, .int n, .int most] = .ok (.val (.tuple (ms.map .int))) [p'] ∧ PoolOk p' ∧ (∀ m ∈ ms, okM n m) ∧ ms.length ≤ n := by
  have hi : in62 ((n : Int) + 1) = true := in62_of (by omega) (by omega)
  have hi1 : in62 1 = true := in62_of (by omega) (by omega)
  have key := forL_inv (g := gNm 4) (body := sSeq (sSet 5 (eCall [true, false] m__law_take (aCons (eVar 0) (aCons (eC (.int 3)) aNil))))
    (sIf (tAndM (tBool (eOp2 gLt (eVar 5) (eC (.int 2)))) (tBool (eOp2 gLt (eOpN gLen (aCons (eVar 3) aNil)) (eVar 2)))) (sApp 3 (eOp2 gIx (eLst (aCons (eVar 4) (aCons (eOp2 gSub (eC (.int 0)) (eVar 4)) aNil))) (eVar 5))) sNil))
    (enc := fun i : Nat => PyData.int (1 + (i : Int))) (xs := List.range n) (ρ := [some (.own true p), some (.imm (.int n)), some (.imm (.int most)), some (.own false (.list [])), none, none])
    (Q := fun o => ∃ (p' : PD) (ms : List Int) (a b : Option Sl), PoolOk p' ∧ (∀ m ∈ ms, okM n m) ∧ ms.length ≤ n ∧ o = .nx [some (.own true p'), some (.imm (.int n)), some (.imm (.int most)), some (.own false (.list (ms.map .int))), a, b])
    (fun ys ρ => ∃ (p' : PD) (ms : List Int) (a b : Option Sl), PoolOk p' ∧ (∀ m ∈ ms, okM n m) ∧ ms.length ≤ ys.length ∧ freeO a = true ∧ freeO b = true ∧ ρ = [some (.own true p'), some (.imm (.int n)), some (.imm (.int most)), some (.own false (.list (ms.map .int))), a, b])
    ⟨p, [], none, none, hp, by simp, by simp, rfl, rfl, rfl⟩ ?_ ?_
  · obtain ⟨p', ms, a, b, hp', hms, hl, e⟩ := key
    refine ⟨ms, p', ?_, hp', hms, hl⟩
    rw [me__law_want, b__law_want]
    simp [hi, hi1, rngL]
    rw [e]
    simp
  · rintro ys y zs ρ he ⟨p', ms, a, b, hp', hms, hl, ha, hb, rfl⟩
    have hy : ys.length < n ∧ y = ys.length := by
      have h1 := congrArg List.length he
      have h2 := congrArg (fun l => l[ys.length]?) he
      simp at h1 h2
      exact ⟨by omega, by rw [List.getElem?_range (by omega)] at h2; simpa using h2.symm⟩
    refine ⟨_, by simp [ha]; rfl, ?_⟩
    obtain ⟨r, p1, e1, hp1, hr0, hr1⟩ := take_run hp' 3 (by decide) (by decide)
    by_cases hr : r < 2
    · by_cases hlm : (ms.length : Int) < most
      · obtain ⟨x, e5, hm, _⟩ := atI_some (xs := [PyData.int (1 + (y : Int)), .int (0 - (1 + (y : Int)))]) hr0 (by simpa using hr)
        have hx : ∃ m, x = .int m ∧ okM n m := by
          simp only [List.mem_cons, List.not_mem_nil, or_false] at hm
          rcases hm with h | h
          · exact ⟨_, h, by unfold okM; omega⟩
          · exact ⟨_, h, by unfold okM; omega⟩
        obtain ⟨m, rfl, hmk⟩ := hx
        have hs : ms.length ≤ 10000000 := by omega
        simp at e5
        simp [hr, e1, hb, hlm, e5, hs]
        refine ⟨p1, hp1, ms ++ [m], ?_, by simp; omega, some (.imm (.int (1 + y))), rfl, some (.imm (.int r)), rfl, by simp⟩
        intro c ht
        simp at ht
        rcases ht with h | rfl
        · exact hms _ h
        · exact hmk
      · simp [hr, e1, hb, hlm]
        exact ⟨p1, hp1, ms, hms, by omega, some (.imm (.int (1 + y))), rfl, some (.imm (.int r)), rfl, rfl, rfl, rfl, rfl⟩
    · simp [hr, e1, hb]
      exact ⟨p1, hp1, ms, hms, by omega, some (.imm (.int (1 + y))), rfl, some (.imm (.int r)), rfl, rfl, rfl, rfl, rfl⟩
  · rintro ρ ⟨p', ms, a, b, hp', hms, hl, ha, hb, rfl⟩
    exact ⟨p', ms, a, b, hp', hms, by simpa using hl, rfl⟩
def wantS (ms : List Int) : Sm := (ms.map fun m => (1, m), 1)
theorem sum_of_run (ms : List Int) (h : ms.length ≤ 1000) : m_sum_of [.tuple (ms.map .int)] = .ok (.val (dSum (wantS ms))) [] := by
  rw [me_sum_of, b_sum_of]
  simp
  rw [eComp_all (xs := ms) (enc := PyData.int) (fun m => dTerm (1, m)) ?a ?w ?z ?b]
  case a => simp; rfl
  case w => rfl
  case z => omega
  case b =>
    intro m hm
    simp [dTerm]
  simp [dSum, wantS, Function.comp_def]
theorem law_reach_run (s : Sm) (h : s.1.length ≤ 1000) : m__law_reach [dSum s] = .ok (.val (.int (reachL s))) [] := by
  rw [me__law_reach, b__law_reach]
  simp [dSum]
  rw [eComp_all (xs := s.1) (enc := dTerm) (fun t => .int t.1) ?a ?w ?z ?b]
  case a => simp; rfl
  case w => rfl
  case z => omega
  case b =>
    intro t ht
    simp [dTerm]
  simp [intsOf_map', reachL]
theorem law_holds_run {n : Nat} {ms : List Int} {f : List Bool} (hm : ∀ m ∈ ms, okM n m) (hl : ms.length ≤ 1000) (hf : f.length = n) : m__law_holds [.tuple (ms.map .int), dFill f] = .ok (.val (.bool (ms.any fun m => isSo m f))) [] := by
  rw [me__law_holds, b__law_holds]
  simp
  rw [eComp_run (xs := ms) (enc := PyData.int) (fun m => isSo m f) PyData.int ?a ?w ?z ?b]
  case a => simp; rfl
  case w => rfl
  case z => omega
  case b =>
    intro m h
    have e := is_so_run (hm m h) hf
    simp [e]
  have hs := gEq_nil (neg := true) (sh_ints (ms.filter fun m => isSo m f))
  rw [isEmpty_map, filter_isEmpty] at hs
  simp only [if_true] at hs
  have e2 : (!(ms.all fun x => !isSo x f)) = ms.any fun m => isSo m f := by
    rw [List.all_eq_not_any_not]
    simp
  rw [e2] at hs
  simp [hs]
/-- the rows about one thing -/
def itemB : SM := (sSeq (sSet 9 (eOpN gReprA (aCons (eVar 5) aNil)))
    (sSeq (sSet 10 (eLst (aCons (eCall [false, false] m_is_sum (aCons (eVar 5) (aCons (eFz (eVar 3)) aNil))) (aCons (eCallK [false, false] m_is_sum 2 [1, 0] (aCons (eFz (eVar 3)) (aCons (eVar 5) aNil))) aNil))))
    (sIf (tOrM (tBool (eOp2 (gEqS true) (eOpN gReprA (aCons (eVar 10) aNil)) (eOpN gReprA (aCons (eOp2 gMul (eLst (aCons (eCall [false, false] m__law_is_sum (aCons (eVar 5) (aCons (eFz (eVar 3)) aNil))) aNil)) (eC (.int 2))) aNil)))) (tBool (eOp2 (gEqS true) (eOpN gReprA (aCons (eVar 5) aNil)) (eVar 9)))) (sRet (eC (.bool false))) sNil)))
theorem item_run {x0 x1 x2 x6 x7 x8 x9 x10 x11 x12 : Option Sl} {one d : PD} {n : Nat} (hd : ItemOk d) (h9 : freeO x9 = true) (h10 : freeO x10 = true) : ∃ a b : Option Sl, freeO a = true ∧ freeO b = true ∧
    itemB [x0, x1, x2, some (.imm (.int n)), some (.imm one), some (.imm d), x6, x7, x8, x9, x10, x11, x12] = .nx [x0, x1, x2, some (.imm (.int n)), some (.imm one), some (.imm d), x6, x7, x8, a, b, x11, x12] := by
  have e1 := gReprA_of hd.1
  have e2 := is_sum_run d n hd.2
  have e3 := law_is_sum_run d n
  have nb : Nice 5 0 (.bool (isSumD n d)) := nice_bool _
  have e4 := gReprA_of (nice_list (ds := [.bool (isSumD n d), .bool (isSumD n d)]) (by simp; exact nb)) (by decide) (by show 2 * (5 + 2) + 3 ≤ 10000000; decide)
  have e5 : gMul (.list [.bool (isSumD n d)]) (.int 2) = some (.fresh (.list [.bool (isSumD n d), .bool (isSumD n d)])) := rfl
  refine ⟨some (.imm (.str d.shown)), some (.own false (.list [.bool (isSumD n d), .bool (isSumD n d)])), rfl, rfl, ?_⟩
  unfold itemB
  simp [e1, e2, e3, h9, h10, e4, e5, pick]
theorem weight_contrary {n : Nat} {s : Sm} {f : List Bool} (hs : SumOk n s) (hf : f.length = n) : weightL (contraryL s) f = reachL s - weightL s f := by
  obtain ⟨ts, l⟩ := s
  have hok : ∀ t ∈ ts, okM n t.2 := hs.ok
  clear hs
  unfold weightL contraryL reachL
  simp only
  induction ts with
  | nil => rfl
  | cons t ts ih =>
    have i := ih fun u hu => hok u (List.mem_cons_of_mem _ hu)
    have h := isSo_neg (hok t (List.mem_cons_self ..)) hf
    simp only [List.map_cons, List.filter_cons, h, List.sum_cons]
    cases isSo t.2 f <;> simp <;> omega
theorem sm_contrary {n : Nat} {s : Sm} (hs : SumOk n s) : SumOk n (contraryL s) := by
  refine ⟨fun t ht => ?_, fun t ht => ?_, by simpa [contraryL] using hs.len⟩
  · simp only [contraryL, List.mem_map] at ht
    obtain ⟨u, hu, rfl⟩ := ht
    exact hs.pos u hu
  · simp only [contraryL, List.mem_map] at ht
    obtain ⟨u, hu, rfl⟩ := ht
    have := hs.ok u hu
    unfold okM at this ⊢
    simpa using this
theorem held_contrary {n : Nat} {s : Sm} {f : List Bool} (hs : SumOk n s) (hf : f.length = n) : heldL (contraryL s) f = !heldL s f := by
  unfold heldL
  rw [weight_contrary hs hf]
  have e : (contraryL s).2 = reachL s - s.2 + 1 := rfl
  rw [e]
  by_cases h : s.2 ≤ weightL s f
  · simp [h]; omega
  · simp [h]; omega
theorem held_want {ms : List Int} {f : List Bool} : heldL (wantS ms) f = ms.any fun m => isSo m f := by
  unfold heldL weightL wantS
  simp only
  have key : ∀ ms : List Int, 0 ≤ (((ms.map fun m => ((1 : Int), m)).filter fun t => isSo t.2 f).map (·.1)).sum ∧ (1 ≤ (((ms.map fun m => ((1 : Int), m)).filter fun t => isSo t.2 f).map (·.1)).sum ↔ (ms.any fun m => isSo m f) = true) := by
    intro ms
    induction ms with
    | nil => simp
    | cons m ms ih =>
      simp only [List.map_cons, List.filter_cons, List.any_cons]
      cases h : isSo m f with
      | true => simp; omega
      | false => simpa using ih
  rw [Bool.eq_iff_iff, decide_eq_true_eq]
  exact (key ms).2
theorem sm_want {n : Nat} {ms : List Int} (h : ∀ m ∈ ms, okM n m) (hl : ms.length ≤ n) : SumOk n (wantS ms) := by
  refine ⟨fun t ht => ?_, fun t ht => ?_, by simpa [wantS] using hl⟩
  · simp only [wantS, List.mem_map] at ht
    obtain ⟨u, hu, rfl⟩ := ht
    show (0 : Int) < 1; decide
  · simp only [wantS, List.mem_map] at ht
    obtain ⟨u, hu, rfl⟩ := ht
    exact h u hu
/-- the rows about one filling -/
def fillB : SM := (sSeq (sIf (tBool (eOp2 (gEq true) (eCall [false, false] m_weight (aCons (eFz (eVar 4)) (aCons (eVar 8) aNil))) (eCall [false, false] m__law_weight (aCons (eFz (eVar 4)) (aCons (eVar 8) aNil))))) (sRet (eC (.bool false))) sNil)
    (sSeq (sIf (tBool (eOp2 (gEqS true) (eOpN gReprA (aCons (eCall [false, false] m_is_held (aCons (eFz (eVar 4)) (aCons (eVar 8) aNil))) aNil)) (eOpN gReprA (aCons (eCall [false, false] m__law_is_held (aCons (eFz (eVar 4)) (aCons (eVar 8) aNil))) aNil)))) (sRet (eC (.bool false))) sNil)
    (sSeq (sIf (tBool (eOp2 (gEq false) (eCall [false, false] m_is_held (aCons (eCall [false] m_contrary (aCons (eFz (eVar 4)) aNil)) (aCons (eVar 8) aNil))) (eCall [false, false] m_is_held (aCons (eFz (eVar 4)) (aCons (eVar 8) aNil))))) (sRet (eC (.bool false))) sNil)
    (sIf (tBool (eOp2 (gEq true) (eCall [false, false] m_is_held (aCons (eCall [false] m_sum_of (aCons (eFz (eVar 7)) aNil)) (aCons (eVar 8) aNil))) (eCall [false, false] m__law_holds (aCons (eFz (eVar 7)) (aCons (eVar 8) aNil))))) (sRet (eC (.bool false))) sNil))))
theorem fill_run {x0 x1 x2 x3 x5 x6 x9 x10 x11 x12 : Option Sl} {n : Nat} {s : Sm} {ms : List Int} {f : List Bool} (hs : SumOk n s) (hn : n ≤ 12) (hm : ∀ m ∈ ms, okM n m) (hl : ms.length ≤ n) (hf : f.length = n) :
    fillB [x0, x1, x2, x3, some (.imm (dSum s)), x5, x6, some (.imm (.tuple (ms.map .int))), some (.imm (dFill f)), x9, x10, x11, x12] = .nx [x0, x1, x2, x3, some (.imm (dSum s)), x5, x6, some (.imm (.tuple (ms.map .int))), some (.imm (dFill f)), x9, x10, x11, x12] := by
  have e1 := p_weight_run hs (by omega) hf
  have e2 := weight_run hs (by omega) hf
  have e3 := p_is_held_run hs (by omega) hf
  have e4 := is_held_run hs (by omega) hf
  have e5 := contrary_run s (by have := hs.len; omega)
  have e6 := p_is_held_run (sm_contrary hs) (by omega) hf
  have e7 := sum_of_run ms (by omega)
  have e8 := p_is_held_run (sm_want hm hl) (by omega) hf
  have e9 := law_holds_run hm (by omega) hf
  have e10 := gReprA_of (nice_bool (heldL s f)) (by decide) (by decide)
  rw [held_contrary hs hf] at e6
  rw [held_want] at e8
  unfold fillB
  simp [e1, e2, e3, e4, e5, e6, e7, e8, e9, e10]
theorem seq_nx_of {o : Ou} {k : Dn → Ou} {P : Ou → Prop} (Q : Dn → Prop) (h : ∃ ρ, o = .nx ρ ∧ Q ρ) (hk : ∀ ρ, Q ρ → P (k ρ)) : P (o.seq k) := by
  obtain ⟨ρ, rfl, hq⟩ := h
  exact hk ρ hq
theorem eqv_terms : ∀ xs ys : List (Int × Int), PyData.eqvAll (xs.map dTerm) (ys.map dTerm) = decide (xs = ys) := eqvAll_inj eqv_term
theorem eqv_sum (s t : Sm) : PyData.eqv (dSum s) (dSum t) = decide (s = t) := by
  obtain ⟨a, b⟩ := s
  obtain ⟨c, d⟩ := t
  simp only [dSum, PyData.eqv, PyData.eqvAll, eqv_terms, Prod.mk.injEq]
  by_cases h : a = c <;> by_cases h2 : b = d <;> simp [h, h2]
theorem gEq_sum (neg : Bool) (s t : Sm) : gEq neg (dSum s) (dSum t) = some (.val (.bool (if neg = true then !decide (s = t) else decide (s = t)))) := by
  rw [gEq_of (sh_sum s) (sh_sum t), eqv_sum]
theorem is_sum_good {n : Nat} {s : Sm} (h : SumOk2 n s) : isSumD n (dSum (contraryL s)) = true := by
  simp only [dSum, contraryL, isSumD, isWholeD, Bool.true_and, Bool.and_eq_true, List.all_eq_true, List.map_map]
  refine ⟨fun d hd => ?_, ?_⟩
  · obtain ⟨t, ht, rfl⟩ := List.mem_map.mp hd
    have h1 := h.ok.pos t ht
    have h2 := h.ok.ok t ht
    unfold okM at h2
    simp only [Function.comp, dTerm, isTermD, isMarkD, Bool.and_eq_true, decide_eq_true_eq]
    omega
  · have := h.rise
    have e : (List.map (markAbs ∘ dTerm ∘ fun t : Int × Int => (t.1, -t.2)) s.1) = s.1.map fun t => (t.2.natAbs : Int) := by
      apply List.map_congr_left
      intro t _
      simp [markAbs, dTerm]
    rw [e]
    exact this
theorem forL_raw {g : PD → Dn → Option Dn} {body : SM} {P : Ou → Prop} (I : Dn → Prop) {xs : List PD} {ρ : Dn} (h0 : I ρ)
    (hs : ∀ y ρ, y ∈ xs → I ρ → ∃ ρ1 ρ2, g y ρ = some ρ1 ∧ body ρ1 = .nx ρ2 ∧ I ρ2) (hn : ∀ ρ, I ρ → P (.nx ρ)) : P (forL g body xs ρ) := by
  induction xs generalizing ρ with
  | nil => exact hn ρ h0
  | cons x xs ih =>
    obtain ⟨ρ1, ρ2, e1, e2, h2⟩ := hs x ρ (List.mem_cons_self ..) h0
    rw [forL]
    simp only [e1, e2]
    exact ih h2 fun y ρ hy => hs y ρ (List.mem_cons_of_mem _ hy)
theorem nice_sum {n : Nat} {s : Sm} (h : SumOk2 n s) (hn : n ≤ 12) : ItemOk (dSum s) := by
  have nT : ∀ d ∈ s.1.map dTerm, Nice 20000 2 d := by
    intro d hd
    obtain ⟨t, ht, rfl⟩ := List.mem_map.mp hd
    have h1 := h.fac t ht
    have h2 := h.ok.pos t ht
    obtain ⟨h4, h5⟩ := h.ok.ok t ht
    exact (nice3 (B := 1001) (n := 0) (by simp; exact ⟨nice_ints (by omega) (by omega), nice_ints (by omega) (by omega)⟩) (by simp)).mono (by decide) (by decide)
  have hl := h.ok.len
  have hlow := h.low
  have hhigh := h.high
  have nA : Nice 480100 3 (.tuple (s.1.map dTerm)) := (nice_tup nT).mono (by have := Nat.mul_le_mul_right (20000 + 2) (show (s.1.map dTerm).length ≤ 24 by simp; omega); omega) (by decide)
  have nl : Nice 480100 3 (.int s.2) := (nice_ints (by omega) (by omega)).mono (by decide) (by decide)
  exact ⟨(nice3 (by simp; exact ⟨nA, nl⟩) (by simp)).mono (by decide) (by decide), fun ts l e => by cases e; simp; omega⟩
theorem nice_small (i : Int) (h : -1000 < i) (h2 : i < 1000) : ItemOk (.tuple [.tuple [], .int i]) := by
  have nA : Nice 480100 3 (.tuple []) := (nice_tup (B := 0) (n := 0) (ds := []) (by simp)).mono (by decide) (by decide)
  have nl : Nice 480100 3 (.int i) := (nice_ints (by omega) (by omega)).mono (by decide) (by decide)
  exact ⟨(nice3 (by simp; exact ⟨nA, nl⟩) (by simp)).mono (by decide) (by decide), fun ts l e => by cases e; simp⟩
def LawI (ns : List Int) (ρ : Dn) : Prop := ∃ a1 a2 a3 a4 a5 a6 a7 a8 a9 a10 : Option Sl, freeO a1 = true ∧ freeO a2 = true ∧ freeO a3 = true ∧ freeO a4 = true ∧ freeO a5 = true ∧ freeO a6 = true ∧ freeO a7 = true ∧ freeO a8 = true ∧ freeO a9 = true ∧ freeO a10 = true ∧ ρ = [some (.scr ns), a1, a2, a3, a4, a5, a6, a7, a8, a9, a10, none, none]
theorem law_run (ns : List Int) (hn : ns.length ≤ 63) : ∃ ρ', b_law (some (.scr ns) :: List.replicate (N_law.length - 1) none) = .rt (.val (.bool true)) ρ' := by
  rw [b_law]
  simp
  generalize hr : max (1 : Int) (min (ns.length : Int) 20) = r
  have hr1 : 0 ≤ r ∧ r ≤ 20 := by omega
  have hi : in62 r = true := in62_of hr1.1 (by omega)
  simp [hi, rngL]
  refine seq_nx_of (P := fun o => ∃ ρ', o = .rt (.val (.bool true)) ρ') (LawI ns) ?_ ?_
  · refine forL_inv (enc := fun i : Nat => PyData.int (i : Int)) (Q := fun o => ∃ ρ, o = .nx ρ ∧ LawI ns ρ) (fun _ => LawI ns) ⟨none, none, none, none, none, none, none, none, none, none, rfl, rfl, rfl, rfl, rfl, rfl, rfl, rfl, rfl, rfl, rfl⟩ ?_ ?_
    · rintro ys k zs ρ he ⟨a1, a2, a3, a4, a5, a6, a7, a8, a9, a10, h1, h2, h3, h4, h5, h6, h7, h8, h9, h10, rfl⟩
      have hk : k < 20 := by
        have : k ∈ List.range r.toNat := by rw [he]; simp
        rw [List.mem_range] at this
        omega
      refine ⟨_, by simp [h1]; rfl, ?_⟩
      have hk2 : (0 : Int) ≤ (k : Int) ∧ (k : Int) < 64 := by omega
      obtain ⟨r1, p1, e1, hp1, hr10, hr11⟩ := take_run (poolOk_of (ns := ns) (k := (k : Int))) 5 (by decide) (by decide)
      obtain ⟨n, hnr⟩ : ∃ n : Nat, 1 + r1 = (n : Int) := ⟨(1 + r1).toNat, by omega⟩
      have hn1 : 1 ≤ n ∧ n ≤ 5 := by omega
      obtain ⟨s, p2, e2, hp2, hs⟩ := sum_run2 (n := n) hp1 (by omega)
      obtain ⟨d1, p3, e3, hp3, hd1⟩ := bent_run hp2 hs.ok (by omega) hs.fac (by have := hs.low; have := hs.high; omega)
      obtain ⟨d2, p4, e4, hp4, hd2⟩ := bent_run hp3 hs.ok (by omega) hs.fac (by have := hs.low; have := hs.high; omega)
      obtain ⟨ms, p5, e5, hp5, hms, hml⟩ := want_run (n := n) hp4 (by omega) 5
      simp [hn, hk2, h2, e1, h3, hnr, e2, h4, e3, e4]
      have iz : ∀ y ∈ [dSum s, d1, d2, PyData.tuple [.tuple [], .int 0], PyData.tuple [.tuple [], .int (-5)]], ItemOk y := by
        intro y hy
        simp only [List.mem_cons, List.not_mem_nil, or_false] at hy
        rcases hy with rfl | rfl | rfl | rfl | rfl
        · exact nice_sum hs (by omega)
        · exact hd1
        · exact hd2
        · exact nice_small 0 (by decide) (by decide)
        · exact nice_small (-5) (by decide) (by decide)
      refine forL_raw (P := fun o => (o.seq _).steps _ _) (fun ρ => ∃ x5 x9 x10 : Option Sl, freeO x5 = true ∧ freeO x9 = true ∧ freeO x10 = true ∧ ρ = [some (.scr ns), some (.imm (.int (k : Int))), some (.own false p4), some (.imm (.int n)), some (.imm (dSum s)), x5, a6, a7, a8, x9, x10, none, none]) ⟨a5, a9, a10, h5, h9, h10, rfl⟩ ?_ ?_
      · rintro y ρ hy ⟨x5, x9, x10, g5, g9, g10, rfl⟩
        obtain ⟨a, b, ha, hb, e⟩ := item_run (x0 := some (.scr ns)) (x1 := some (.imm (.int (k : Int)))) (x2 := some (.own false p4)) (x6 := a6) (x7 := a7) (x8 := a8) (x11 := none) (x12 := none) (one := dSum s) (n := n) (iz y hy) g9 g10
        exact ⟨_, _, by simp [g5], e, some (.imm y), a, b, rfl, ha, hb, rfl⟩
      rintro ρ ⟨x5, x9, x10, g5, g9, g10, rfl⟩
      have hl0 := hs.ok.len
      have f1 := contrary_run s (by omega)
      have f2 := reach_run s (by omega)
      have f3 := law_reach_run s (by omega)
      have f4 := is_sum_run (dSum (contraryL s)) n (fun ts l e => by cases e; simpa [contraryL] using (show s.1.length ≤ 1000 by omega))
      rw [is_sum_good hs] at f4
      have f5 := sum_of_run ms (by omega)
      have g1 : gEq true (dSum (contraryL s)) (.tuple [.tuple (s.1.map fun t => dTerm (t.1, -t.2)), .int (reachL s - s.2 + 1)]) = some (.val (.bool false)) := by
        have e : PyData.tuple [.tuple (s.1.map fun t => dTerm (t.1, -t.2)), .int (reachL s - s.2 + 1)] = dSum (contraryL s) := by simp [dSum, contraryL, Function.comp_def]
        rw [e, gEq_sum]
        simp
      have g2 : gEq true (dSum (wantS ms)) (.tuple [.tuple (ms.map fun m => dTerm (1, m)), .int 1]) = some (.val (.bool false)) := by
        have e : PyData.tuple [.tuple (ms.map fun m => dTerm (1, m)), .int 1] = dSum (wantS ms) := by simp [dSum, wantS, Function.comp_def]
        rw [e, gEq_sum]
        simp
      have g0 : gIx (dSum s) (.int 0) = some (.val (.tuple (s.1.map dTerm))) := rfl
      have g3 : gIx (dSum s) (.int 1) = some (.val (.int s.2)) := rfl
      simp [f1, h6]
      rw [eComp_all (xs := s.1) (enc := dTerm) (fun t => dTerm (t.1, -t.2)) ?a ?w ?z ?b]
      case a => simp [g0]; rfl
      case w => rfl
      case z => omega
      case b =>
        intro t ht
        simp [dTerm]
      simp [f3, g3, g1, f2, f4, e5, h7, f5]
      rw [eComp_all (xs := ms) (enc := PyData.int) (fun m => dTerm (1, m)) ?a ?w ?z ?b]
      case a => simp; rfl
      case w => rfl
      case z => omega
      case b =>
        intro m hm
        simp [dTerm]
      obtain ⟨fs, ef, pf⟩ := fillings_run n hn1.1 (by omega)
      simp [g2, ef]
      refine forL_inv (enc := dFill) (xs := fs) (Q := fun o => o.steps (LawI ns) fun o => ∃ ρ, o = .nx ρ ∧ LawI ns ρ) (fun _ ρ => ∃ x8 : Option Sl, freeO x8 = true ∧ ρ = [some (.scr ns), some (.imm (.int (k : Int))), some (.own false p5), some (.imm (.int n)), some (.imm (dSum s)), x5, some (.imm (dSum (contraryL s))), some (.imm (.tuple (ms.map .int))), x8, x9, x10, none, none]) ⟨a8, h8, rfl⟩ ?_ ?_
      · rintro zs' f zs'' ρ hz ⟨x8, g8, rfl⟩
        have hf : f.length = n := mem_fillL.mp (pf.mem_iff.mp (by rw [hz]; simp))
        have e := fill_run (x0 := some (.scr ns)) (x1 := some (.imm (.int (k : Int)))) (x2 := some (.own false p5)) (x3 := some (.imm (.int n))) (x5 := x5) (x6 := some (.imm (dSum (contraryL s)))) (x9 := x9) (x10 := x10) (x11 := none) (x12 := none) hs.ok (by omega) hms hml hf
        refine ⟨_, by simp [g8]; rfl, ?_⟩
        unfold fillB at e
        rw [e]
        exact ⟨some (.imm (dFill f)), rfl, rfl⟩
      · rintro ρ ⟨x8, g8, rfl⟩
        exact ⟨_, _, _, _, x5, _, _, x8, _, _, rfl, rfl, rfl, rfl, g5, rfl, rfl, g8, g9, g10, rfl⟩
    · exact fun ρ h => ⟨ρ, rfl, h⟩
  · rintro ρ ⟨a1, a2, a3, a4, a5, a6, a7, a8, a9, a10, h1, h2, h3, h4, h5, h6, h7, h8, h9, h10, rfl⟩
    simp
end LW
open PySem PySem.W PySem.Calls PyProof.Rows
theorem LW.holds (hp : ∀ (ns : List Int) (k : Int), ns.length ≤ 63 → 0 ≤ k → k < 64 → ∃ ρ', LW.b__law_pool (some (.scr ns) :: some (.imm (.int k)) :: List.replicate (LW.N__law_pool.length - 2) none) = .rt (.fresh (DP.poolD ns k)) ρ') (hl : ∀ ns : List Int, ns.length ≤ 63 → ∃ ρ', LW.b_law (some (.scr ns) :: List.replicate (LW.N_law.length - 1) none) = .rt (.val (.bool true)) ρ') : PySem.Challenge.rw_leastbroken_k07_sums_or_none.Holds := by
  w_on; o_law
  refine HandSHeadRun.head_any (r := OpenLaw.row PySem.Challenge.rw_leastbroken_k07_sums_or_none) (q := view (OpenLaw.row PySem.Challenge.rw_leastbroken_k07_sums_or_none).prog [27]) (H := LW.hk) (ob := LW.ob) (M := 4000) (loose := LW.loose) (d := HandSHeadRun.topDef (OpenLaw.row PySem.Challenge.rw_leastbroken_k07_sums_or_none).prog 27) (kwd := []) LW.ob_eq
    (by kernel_rfl) (fun s => by kernel_rfl) LW.run (by kernel_rfl) (by kernel_rfl) (by kernel_rfl) (by rfl) (by first | assumption | decide +kernel) (by decide +kernel) ⟨rfl, rfl, rfl, rfl, rfl, by decide +kernel⟩ ?hw ?hc
  case hw => w_witness2
  case hc =>
    refine DP.walk_ofG (l := PySem.Challenge.rw_leastbroken_k07_sums_or_none) (n := 63) (k := 5) (x := "_law_script") rfl (by decide) (by kernel_rfl) ⟨rfl, by decide, by decide⟩ ?F
    intro w mg fa h Y G hmg0
    obtain ⟨K, KX, c⟩ := Y
    have hmg : mg ("law" : PySem.Str) = some (.ref fa) := by
      have e : (HandSHeadRun.topDef (OpenLaw.row PySem.Challenge.rw_leastbroken_k07_sums_or_none).prog 27).name = ("law" : PySem.Str) := by kernel_rfl
      rw [← e]
      exact hmg0
    obtain ⟨fd, hb, hF⟩ := LW.facts (P := (PySem.Challenge.rw_leastbroken_k07_sums_or_none).prog) (w := w) KX G hmg c hp hl
    exact ⟨K, fd, DP.spLaw K, KX, hb, fun H a ns hl hO hS => ⟨a, ns, rfl, DP.Scr.of hO hS, hl, fun _ => rfl⟩, hF⟩
theorem PySem.Challenge.cw_leastbroken_k07_sums_or_none_holds : PySem.Challenge.rw_leastbroken_k07_sums_or_none.Holds :=
  LW.holds LW.pool_run LW.law_run
