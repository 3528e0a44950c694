import PyProof.Rows.All
import HandS.ForMost
import HandS.ForExc
import HandS.ExcOwn
import HandS.Wide
import HandS.IsInst
import HandS.TupAny
import HandS.Style
import HandS.Flow
import HandS.Evl
import HandS.Iter
import HandS.Comp
import HandS.Deep
import HandS.TupLe
import HandS.SortInts
import KE.SortData
import KE.DataCmp
import HandS.DictComp
import HandS.Defaults
import HandS.Head0
import HandS.Head1
import HandS.Head2
import HandS.HeadEnd
import HandS.HeadHook1
import HandS.HeadHook2
import HandS.Zip
import HandS.List
import HandS.SetBool
import HandS.Strs
import HandS.SetFor
import PySem.Challenge.RW_leastbroken_k13_what_sums_push
import PyProof.ReprLen
set_option Elab.async false
set_option linter.all false
set_option maxRecDepth 100000
set_option maxHeartbeats 4000000
/-! DPA: plain data in the tracked heap; a def's slots as plain data; what a piece of syntax comes to as a plain function of them. -/
namespace DP
open PySem L2
abbrev PD := PyData
abbrev AS := Addr → Prop
def kD : Key → PD
  | .inl i => .int i
  | .inr x => .str x
mutual
/-- the value v stands for the data d; its lists and dicts lie in A -/
inductive Rp (A : AS) (H : Hp) : V → PD → Prop
  | non : Rp A H .non .none
  | bl (b : Bool) : Rp A H (.bl b) (.bool b)
  | int (i : Int) : Rp A H (.int i) (.int i)
  | str (x : Str) : Rp A H (.str x) (.str x)
  | lst {a : Addr} {xs : List V} {ds : List PD} : A a → H a = some (.lst xs) → RpAll A H xs ds → Rp A H (.ref a) (.list ds)
  | tup {a : Addr} {xs : List V} {ds : List PD} : H a = some (.tup xs) → RpAll A H xs ds → Rp A H (.ref a) (.tuple ds)
  | dic {a : Addr} {kvs : List (Key × V)} {ds : List (PD × PD)} : A a → H a = some (.dK kvs) → RpKV A H kvs ds → Rp A H (.ref a) (.dict ds)
inductive RpAll (A : AS) (H : Hp) : List V → List PD → Prop
  | nil : RpAll A H [] []
  | cons {v : V} {vs : List V} {d : PD} {ds : List PD} : Rp A H v d → RpAll A H vs ds → RpAll A H (v :: vs) (d :: ds)
inductive RpKV (A : AS) (H : Hp) : List (Key × V) → List (PD × PD) → Prop
  | nil : RpKV A H [] []
  | cons {k : Key} {v : V} {kvs : List (Key × V)} {d : PD} {ds : List (PD × PD)} : Rp A H v d → RpKV A H kvs ds → RpKV A H ((k, v) :: kvs) ((kD k, d) :: ds)
end
/-- what keeps data: A's objects, and tuples -/
structure Kp (A A' : AS) (H H' : Hp) : Prop where
  sub : ∀ a, A a → A' a
  obj : ∀ a o, A a → H a = some o → H' a = some o
  tup : ∀ a xs, H a = some (.tup xs) → H' a = some (.tup xs)
mutual
theorem Rp.kp {A A' : AS} {H H' : Hp} (k : Kp A A' H H') : ∀ {v : V} {d : PD}, Rp A H v d → Rp A' H' v d
  | _, _, .non => .non
  | _, _, .bl b => .bl b
  | _, _, .int i => .int i
  | _, _, .str x => .str x
  | _, _, .lst ha hr r => .lst (k.sub _ ha) (k.obj _ _ ha hr) (RpAll.kp k r)
  | _, _, .tup h r => .tup (k.tup _ _ h) (RpAll.kp k r)
  | _, _, .dic ha h r => .dic (k.sub _ ha) (k.obj _ _ ha h) (RpKV.kp k r)
theorem RpAll.kp {A A' : AS} {H H' : Hp} (k : Kp A A' H H') : ∀ {vs : List V} {ds : List PD}, RpAll A H vs ds → RpAll A' H' vs ds
  | _, _, .nil => .nil
  | _, _, .cons r rs => .cons (Rp.kp k r) (RpAll.kp k rs)
theorem RpKV.kp {A A' : AS} {H H' : Hp} (k : Kp A A' H H') : ∀ {vs : List (Key × V)} {ds : List (PD × PD)}, RpKV A H vs ds → RpKV A' H' vs ds
  | _, _, .nil => .nil
  | _, _, .cons r rs => .cons (Rp.kp k r) (RpKV.kp k rs)
end
end DP
/-! DPB: owned lists and dicts, the relation of slots, steps. -/
namespace DP
open PySem L2
/-- the object at p, owned, holds d: a list or a dict whose parts are data -/
def OwnObj (A : AS) (H : Hp) (p : Addr) (d : PD) : Prop :=
  match d with
  | .list ds => ∃ xs, H p = some (.lst xs) ∧ RpAll A H xs ds
  | .dict ds => ∃ kvs, H p = some (.dK kvs) ∧ RpKV A H kvs ds
  | _ => False
def isLD : Option HO → Prop
  | some (.lst _) => True
  | some (.dK _) => True
  | _ => False
theorem OwnObj.ld {A : AS} {H : Hp} {p : Addr} {d : PD} (h : OwnObj A H p d) : isLD (H p) := by
  cases d <;> simp only [OwnObj] at h
  · obtain ⟨xs, e, _⟩ := h; rw [e]; trivial
  · obtain ⟨xs, e, _⟩ := h; rw [e]; trivial
theorem OwnObj.kp {A A' : AS} {H H' : Hp} {p : Addr} {d : PD} (k : Kp A A' H H') (e : H' p = H p) (h : OwnObj A H p d) : OwnObj A' H' p d := by
  cases d <;> simp only [OwnObj] at h ⊢
  · obtain ⟨xs, e1, r⟩ := h; exact ⟨xs, by rw [e, e1], r.kp k⟩
  · obtain ⟨xs, e1, r⟩ := h; exact ⟨xs, by rw [e, e1], r.kp k⟩
/-- what a slot holds: data that stays; an owned list or dict (true: handed in to be changed) -/
inductive Sl where
  | imm (d : PD)
  | own (b : Bool) (d : PD)
  | scr (ns : List Int)
abbrev Dn := List (Option Sl)
/-- a value on the way: data that stays; a new list or dict that nobody else has; a slot's -/
inductive Rv where
  | val (d : PD)
  | fresh (d : PD)
  | slot (i : Nat)
def Ow (σ : L2.St) (ρ : Dn) (p : Addr) : Prop := ∃ (i : Nat) (b : Bool) (d : PD), ρ[i]? = some (some (.own b d)) ∧ σ[i]? = some (some (.ref p))
/-- a def's entry -/
structure Ent where
  A : AS
  H : Hp
  ins : List (Nat × Addr)
def Ent.S (F : Ent) (p : Addr) : Prop := ∃ q ∈ F.ins, q.2 = p
/-- the script: read, never written -/
def Scr (K : PySem.W.Frag) (H : Hp) (p : Addr) (xs : List V) : Prop := ∀ H' : Hp, (∀ o u, H p = some (.frz o u) → H' p = some (.frz o u)) → SqL K H' p xs
theorem Scr.kp {K : PySem.W.Frag} {H H' : Hp} {p : Addr} {xs : List V} (h : ∀ o u, H p = some (.frz o u) → H' p = some (.frz o u)) (s : Scr K H p xs) : Scr K H' p xs := fun H2 h2 => s H2 fun o u e => h2 o u (h o u e)
def SlR (K : PySem.W.Frag) (A : AS) (H : Hp) (v : V) : Sl → Prop
  | .imm d => Rp A H v d
  | .own _ d => ∃ p, v = .ref p ∧ ¬ A p ∧ OwnObj A H p d
  | .scr ns => ∃ p, v = .ref p ∧ Scr K H p (ns.map V.int)
structure ER (K : PySem.W.Frag) (F : Ent) (A : AS) (H : Hp) (σ : L2.St) (ρ : Dn) : Prop where
  len : σ.length = ρ.length
  slot : ∀ (i : Nat) (s : Sl), ρ[i]? = some (some s) → ∃ v, σ[i]? = some (some v) ∧ SlR K A H v s
  dist : ∀ (i j : Nat) (b b' : Bool) (d d' : PD) (p : Addr), ρ[i]? = some (some (.own b d)) → ρ[j]? = some (some (.own b' d')) → σ[i]? = some (some (.ref p)) → σ[j]? = some (some (.ref p)) → i = j
  dom : ∀ a, A a → H a ≠ none
  kp : ∀ b o, F.H b = some o → ¬ F.S b → H b = some o
  mono : ∀ a, F.A a → A a
  grow : ∀ a, A a → F.A a ∨ F.H a = none
  ownF : ∀ (i : Nat) (b : Bool) (d : PD) (p : Addr), ρ[i]? = some (some (.own b d)) → σ[i]? = some (some (.ref p)) → if b = true then F.S p else F.H p = none
  FS : ∀ p, F.S p → ¬ A p
  ins : ∀ q ∈ F.ins, σ[q.1]? = some (some (.ref q.2)) ∧ ∃ d, ρ[q.1]? = some (some (.own true d))
structure Step (A : AS) (H : Hp) (σ : L2.St) (ρ : Dn) (A' : AS) (H' : Hp) (ρ' : Dn) : Prop where
  kp : ∀ b o, H b = some o → ¬ Ow σ ρ b → H' b = some o
  mono : ∀ a, A a → A' a
  grow : ∀ a, A' a → A a ∨ H a = none ∨ Ow σ ρ a
  sub : ∀ p, Ow σ ρ' p → Ow σ ρ p
  def_ : ∀ (i : Nat) (s : Sl), ρ[i]? = some (some s) → ∃ s', ρ'[i]? = some (some s')
  live : ∀ b, H' b = none → H b = none
  len : ρ'.length = ρ.length
section
variable {K : PySem.W.Frag} {F : Ent} {A A' A'' : AS} {H H' H'' : Hp} {σ : L2.St} {ρ ρ' ρ'' : Dn}
theorem ER.ow (E : ER K F A H σ ρ) {p : Addr} (h : Ow σ ρ p) : ¬ A p ∧ isLD (H p) := by
  obtain ⟨i, b, d, e1, e2⟩ := h
  obtain ⟨v, e3, p', rfl, h1, h2⟩ := E.slot i _ e1
  rw [e2] at e3
  cases e3
  exact ⟨h1, h2.ld⟩
theorem ER.free (E : ER K F A H σ ρ) {p : Addr} (h : H p = none) : ¬ A p := fun z => E.dom p z h
theorem ER.notOw (E : ER K F A H σ ρ) {p : Addr} (h : A p) : ¬ Ow σ ρ p := fun z => (E.ow z).1 h
theorem Step.kpr (s : Step A H σ ρ A' H' ρ') (E : ER K F A H σ ρ) : Kp A A' H H' :=
  ⟨s.mono, fun a o ha e => s.kp a o e (E.notOw ha), fun a xs e => s.kp a _ e fun z => by
    have := (E.ow z).2
    rw [e] at this
    exact this⟩
theorem Step.refl : Step A H σ ρ A H ρ := ⟨fun _ _ h _ => h, fun _ h => h, fun _ h => .inl h, fun _ h => h, fun _ s h => ⟨s, h⟩, fun _ h => h, rfl⟩
theorem Step.trans (s : Step A H σ ρ A' H' ρ') (t : Step A' H' σ ρ' A'' H'' ρ'') : Step A H σ ρ A'' H'' ρ'' := by
  refine ⟨fun b o h n => t.kp b o (s.kp b o h n) fun z => n (s.sub b z), fun a h => t.mono a (s.mono a h), fun a h => ?_, fun p h => s.sub p (t.sub p h), fun i sl h => ?_, fun b h => s.live b (t.live b h), t.len.trans s.len⟩
  · rcases t.grow a h with h1 | h1 | h1
    · exact s.grow a h1
    · by_cases ho : Ow σ ρ a
      · exact .inr (.inr ho)
      · cases e : H a with
        | none => exact .inr (.inl rfl)
        | some o => rw [s.kp a o e ho] at h1; cases h1
    · exact .inr (.inr (s.sub a h1))
  · obtain ⟨s', h'⟩ := s.def_ i sl h
    exact t.def_ i s' h'
theorem keep_none (h : ∀ b o, H b = some o → H' b = some o) {b : Addr} (e : H' b = none) : H b = none := by
  cases q : H b with
  | none => rfl
  | some o => rw [h b o q] at e; cases e
/-- all that stood is kept, new things are there -/
theorem Step.ext (h : ∀ b o, H b = some o → H' b = some o) : Step A H σ ρ A H' ρ := ⟨fun b o e _ => h b o e, fun _ h => h, fun _ h => .inl h, fun _ h => h, fun _ s h => ⟨s, h⟩, fun b e => keep_none h e, rfl⟩
theorem Kp.ext (h : ∀ b o, H b = some o → H' b = some o) : Kp A A H H' := ⟨fun _ h => h, fun a o _ e => h a o e, fun a xs e => h a _ e⟩
theorem SlR.kp {v : V} {s : Sl} (k : Kp A A H H') (hx : ∀ b o, H b = some o → H' b = some o) (e : ∀ b d p, s = .own b d → v = .ref p → H' p = H p) (h : SlR K A H v s) : SlR K A H' v s := by
  cases s with
  | imm d => exact Rp.kp k h
  | own b d =>
    obtain ⟨p, rfl, n, o⟩ := h
    exact ⟨p, rfl, n, o.kp k (e b d p rfl rfl)⟩
  | scr ns =>
    obtain ⟨p, rfl, q⟩ := h
    exact ⟨p, rfl, q.kp fun o u e => hx p _ e⟩
theorem ER.ext (E : ER K F A H σ ρ) (h : ∀ b o, H b = some o → H' b = some o) : ER K F A H' σ ρ := by
  refine ⟨E.len, fun i s e => ?_, E.dist, fun a ha z => ?_, fun b o e n => h b o (E.kp b o e n), E.mono, E.grow, E.ownF, E.FS, E.ins⟩
  · obtain ⟨v, e1, r⟩ := E.slot i s e
    refine ⟨v, e1, r.kp (Kp.ext h) h fun b d p e2 e3 => ?_⟩
    subst e2 e3
    obtain ⟨p', e4, _, o⟩ := r
    cases e4
    have := o.ld
    cases e5 : H p with
    | none => rw [e5] at this; exact this.elim
    | some o => exact h p o e5
  · cases e : H a with
    | none => exact E.dom a ha e
    | some o => rw [h a o e] at z; cases z
end
/-- a value on the way, at its place -/
def RvR (F : Ent) (Z : Hp) (A : AS) (H : Hp) (σ : L2.St) (ρ : Dn) (v : V) : Rv → Prop
  | .val d => Rp A H v d
  | .fresh d => ∃ p, v = .ref p ∧ (¬ A p ∧ ¬ Ow σ ρ p ∧ F.H p = none ∧ Z p = none) ∧ OwnObj A H p d
  | .slot i => σ[i]? = some (some v) ∧ ∃ s, ρ[i]? = some (some s)
theorem RvR.step {K : PySem.W.Frag} {F : Ent} {Z : Hp} {A A' : AS} {H H' : Hp} {σ : L2.St} {ρ ρ' : Dn} {v : V} {r : Rv} (E : ER K F A H σ ρ) (s : Step A H σ ρ A' H' ρ') (h : RvR F Z A H σ ρ v r) : RvR F Z A' H' σ ρ' v r := by
  cases r with
  | val d => exact Rp.kp (s.kpr E) h
  | fresh d =>
    obtain ⟨p, rfl, ⟨h1, h2, h3, hz⟩, h4⟩ := h
    have hl := h4.ld
    refine ⟨p, rfl, ⟨fun z => ?_, fun z => h2 (s.sub p z), h3, hz⟩, h4.kp (s.kpr E) ?_⟩
    · rcases s.grow p z with q | q | q
      · exact h1 q
      · rw [q] at hl; exact hl
      · exact h2 q
    · cases e : H p with
      | none => rw [e] at hl; exact hl.elim
      | some o => exact s.kp p o e h2
  | slot i =>
    obtain ⟨e, sl, h⟩ := h
    exact ⟨e, s.def_ i sl h⟩
theorem RvR.back {F : Ent} {Z Z' : Hp} {A : AS} {H : Hp} {σ : L2.St} {ρ : Dn} {v : V} {r : Rv} (l : ∀ b, Z b = none → Z' b = none) (h : RvR F Z A H σ ρ v r) : RvR F Z' A H σ ρ v r := by
  cases r with
  | val d => exact h
  | fresh d => obtain ⟨p, rfl, ⟨h1, h2, h3, hz⟩, h4⟩ := h; exact ⟨p, rfl, ⟨h1, h2, h3, l p hz⟩, h4⟩
  | slot i => exact h
/-- what is read of a value on the way -/
def slD : Sl → Option PD
  | .imm d => some d
  | .own _ d => some d
  | .scr _ => none
def rd (r : Rv) (ρ : Dn) : Option PD :=
  match r with
  | .val d => some d
  | .fresh d => some d
  | .slot i => match ρ[i]? with
    | some (some s) => slD s
    | _ => none
/-- to be read: data that stays, or an owned thing -/
def Rt (A : AS) (H : Hp) (v : V) (d : PD) : Prop := Rp A H v d ∨ ∃ p, v = .ref p ∧ OwnObj A H p d
theorem RvR.rt {K : PySem.W.Frag} {F : Ent} {Z : Hp} {A : AS} {H : Hp} {σ : L2.St} {ρ : Dn} {v : V} {r : Rv} {d : PD} (E : ER K F A H σ ρ) (h : RvR F Z A H σ ρ v r) (e : rd r ρ = some d) : Rt A H v d := by
  cases r with
  | val d' => cases e; exact .inl h
  | fresh d' => cases e; obtain ⟨p, rfl, _, o⟩ := h; exact .inr ⟨p, rfl, o⟩
  | slot i =>
    obtain ⟨e1, s, e2⟩ := h
    obtain ⟨v', e3, r⟩ := E.slot i s e2
    rw [e1] at e3
    cases e3
    simp only [rd, e2] at e
    cases s with
    | imm d => cases e; exact .inl r
    | own b d => cases e; obtain ⟨p, rfl, _, o⟩ := r; exact .inr ⟨p, rfl, o⟩
    | scr ns => cases e
end DP
/-! DPC: what expressions come to. -/
namespace DP
open PySem L2
structure Exn where
  cls : Str
  fs : List (Str × PD)
inductive Rs (α : Type) where
  | ok (a : α) (ρ : Dn)
  | ex (e : Exn) (ρ : Dn)
  | no
abbrev M (α : Type) := Dn → Rs α
def bnd {α β : Type} (m : M α) (k : α → M β) : M β := fun ρ =>
  match m ρ with
  | .ok a ρ' => k a ρ'
  | .ex e ρ' => .ex e ρ'
  | .no => .no
def retM {α : Type} (a : α) : M α := fun ρ => .ok a ρ
def optM {α : Type} (o : Option α) : M α := fun ρ =>
  match o with
  | some a => .ok a ρ
  | none => .no
/-- an exception of a class of the module: its fields -/
def XR (mg : Str → Option Value) (A : AS) (H : Hp) (e : Exn) (cls : Value) (d : Option Addr) : Prop :=
  ∃ C, mg e.cls = some (.ref C) ∧ cls = .ref C ∧ ((e.fs = [] ∧ d = none) ∨ ∃ (da : Addr) (fs : List (Str × V)), d = some da ∧ H da = some (.xd fs) ∧ fs.map (·.1) = e.fs.map (·.1) ∧ RpAll A H (fs.map (·.2)) (e.fs.map (·.2)))
/-- what is wanted behind -/
def Pst {α β : Type} (K : PySem.W.Frag) (mg : Str → Option Value) (W : WX) (F : Ent) (A : AS) (H : Hp) (σ : L2.St) (ρ : Dn) (RR : AS → Hp → Dn → β → α → Prop) (Q : β → Hp → Prop) : Rs α → Prop
  | .ok a ρ' => ∀ A' H' b, ER K F A' H' σ ρ' → Step A H σ ρ A' H' ρ' → RR A' H' ρ' b a → Q b H'
  | .ex e ρ' => ∀ A' H' cls d, ER K F A' H' σ ρ' → Step A H σ ρ A' H' ρ' → XR mg A' H' e cls d → W cls d σ H'
  | .no => False
section
variable {α β γ δ : Type} {K : PySem.W.Frag} {mg : Str → Option Value} {W : WX} {F : Ent} {A A1 : AS} {H H1 : Hp} {σ : L2.St} {ρ ρ1 : Dn}
theorem Pst.after {RR : AS → Hp → Dn → β → α → Prop} {Q : β → Hp → Prop} {r : Rs α} (S : Step A H σ ρ A1 H1 ρ1) (h : Pst K mg W F A H σ ρ RR Q r) : Pst K mg W F A1 H1 σ ρ1 RR Q r := by
  cases r with
  | ok a ρ' => exact fun A' H' b E S' R => h A' H' b E (S.trans S') R
  | ex e ρ' => exact fun A' H' c d E S' R => h A' H' c d E (S.trans S') R
  | no => exact h
theorem Pst.split {RR : AS → Hp → Dn → β → α → Prop} {RR1 : AS → Hp → Dn → δ → γ → Prop} {Q : β → Hp → Prop} {Q1 : δ → Hp → Prop} {m : M γ} {k : γ → M α} (h : Pst K mg W F A H σ ρ RR Q (bnd m k ρ))
    (hk : ∀ a ρ1 A1 H1 b, ER K F A1 H1 σ ρ1 → Step A H σ ρ A1 H1 ρ1 → RR1 A1 H1 ρ1 b a → Pst K mg W F A H σ ρ RR Q (k a ρ1) → Q1 b H1) : Pst K mg W F A H σ ρ RR1 Q1 (m ρ) := by
  unfold bnd at h
  cases e : m ρ with
  | ok a ρ1 =>
    rw [e] at h
    exact fun A1 H1 b E S R => hk a ρ1 A1 H1 b E S R h
  | ex x ρ1 =>
    rw [e] at h
    exact h
  | no => rw [e] at h; exact h
end
/-- an expression comes to f -/
def RE (F : Ent) (Z : Hp) (σ : L2.St) : AS → Hp → Dn → V → Rv → Prop := fun A H ρ v r => RvR F Z A H σ ρ v r
def SimE (X : Cx) (W : WX) (e : Expr) (f : M Rv) : Prop := ∃ t : TE, PE X e t ∧ ∀ F A H σ ρ, ER X.K F A H σ ρ → ∀ Q : VK, Pst X.K X.mg W F A H σ ρ (RE F H σ) Q (f ρ) → t σ H Q
inductive RvRs (F : Ent) (Z : Hp) (A : AS) (H : Hp) (σ : L2.St) (ρ : Dn) : List V → List Rv → Prop
  | nil : RvRs F Z A H σ ρ [] []
  | cons {v : V} {vs : List V} {r : Rv} {rs : List Rv} : RvR F Z A H σ ρ v r → RvRs F Z A H σ ρ vs rs → RvRs F Z A H σ ρ (v :: vs) (r :: rs)
def RA (F : Ent) (Z : Hp) (σ : L2.St) : AS → Hp → Dn → List V → List Rv → Prop := fun A H ρ v r => RvRs F Z A H σ ρ v r
def SimA (X : Cx) (W : WX) (es : List Expr) (f : M (List Rv)) : Prop := ∃ t : TA, PA X es t ∧ ∀ F A H σ ρ, ER X.K F A H σ ρ → ∀ Q : List V → Hp → Prop, Pst X.K X.mg W F A H σ ρ (RA F H σ) Q (f ρ) → t σ H Q
def RT : AS → Hp → Dn → Bool → Bool → Prop := fun _ _ _ b c => b = c
def SimT (X : Cx) (W : WX) (e : Expr) (f : M Bool) : Prop := ∃ t : TT, PT X e t ∧ ∀ F A H σ ρ, ER X.K F A H σ ρ → ∀ Q : Bool → Hp → Prop, Pst X.K X.mg W F A H σ ρ RT Q (f ρ) → t σ H Q
def SimW (X : Cx) (W : WX) (e : Expr) (f : M Bool) : Prop := ∃ t : TT, PW X e t ∧ ∀ F A H σ ρ, ER X.K F A H σ ρ → ∀ Q : Bool → Hp → Prop, Pst X.K X.mg W F A H σ ρ RT Q (f ρ) → t σ H Q
/-- what an operation hands back: data, or a new list or dict -/
inductive Rc where
  | val (d : PD)
  | fresh (d : PD)
def Rc.rv : Rc → Rv
  | .val d => .val d
  | .fresh d => .fresh d
def NewR (A : AS) (H H' : Hp) (v : V) (c : Rc) : Prop := (∀ b o, H b = some o → H' b = some o) ∧
  match c with
  | .val d => Rp A H' v d
  | .fresh d => ∃ p, v = .ref p ∧ H p = none ∧ OwnObj A H' p d
section
variable {X : Cx} {K : PySem.W.Frag} {W : WX} {F : Ent} {Z : Hp} {A A' : AS} {H H' : Hp} {σ : L2.St} {ρ : Dn} {v : V} {c : Rc}
theorem ER.fnone (E : ER K F A H σ ρ) {p : Addr} (h : H p = none) : F.H p = none := by
  cases e : F.H p with
  | none => rfl
  | some o =>
    by_cases hs : F.S p
    · obtain ⟨q, hq, rfl⟩ := hs
      obtain ⟨e1, d, e2⟩ := E.ins q hq
      have := (E.ow ⟨q.1, true, d, e2, e1⟩).2
      rw [h] at this
      exact this.elim
    · rw [E.kp p o e hs] at h
      cases h
theorem ER.owne (E : ER K F A H σ ρ) {p : Addr} (h : H p = none) : ¬ Ow σ ρ p := fun z => by
  have := (E.ow z).2
  rw [h] at this
  exact this
theorem NewR.rv (l : ∀ b, H b = none → Z b = none) (E : ER K F A H σ ρ) (h : NewR A H H' v c) : ER K F A H' σ ρ ∧ Step A H σ ρ A H' ρ ∧ RvR F Z A H' σ ρ v c.rv := by
  obtain ⟨k, h⟩ := h
  refine ⟨E.ext k, Step.ext k, ?_⟩
  cases c with
  | val d => exact h
  | fresh d =>
    obtain ⟨p, rfl, hn, o⟩ := h
    exact ⟨p, rfl, ⟨E.free hn, E.owne hn, E.fnone hn, l p hn⟩, o⟩
/-- the values on the way, read -/
def rds (rs : List Rv) (ρ : Dn) : Option (List PD) :=
  match rs with
  | [] => some []
  | r :: rs => match rd r ρ with
    | some d => (rds rs ρ).map (d :: ·)
    | none => none
inductive Rts (A : AS) (H : Hp) : List V → List PD → Prop
  | nil : Rts A H [] []
  | cons {v : V} {vs : List V} {d : PD} {ds : List PD} : Rt A H v d → Rts A H vs ds → Rts A H (v :: vs) (d :: ds)
theorem RvRs.rts (E : ER K F A H σ ρ) : ∀ {vs : List V} {rs : List Rv} {ds : List PD}, RvRs F Z A H σ ρ vs rs → rds rs ρ = some ds → Rts A H vs ds
  | _, _, _, .nil, e => by cases e; exact .nil
  | _, _, ds, .cons (r := r) (rs := rs) h hs, e => by
    unfold rds at e
    cases e1 : rd r ρ with
    | none => rw [e1] at e; cases e
    | some d =>
      rw [e1] at e
      simp only at e
      cases e2 : rds rs ρ with
      | none => rw [e2] at e; cases e
      | some ds' =>
        rw [e2] at e
        cases e
        exact .cons (h.rt E e1) (RvRs.rts E hs e2)
theorem RvRs.back {Z' : Hp} (l : ∀ b, Z b = none → Z' b = none) : ∀ {vs : List V} {rs : List Rv}, RvRs F Z A H σ ρ vs rs → RvRs F Z' A H σ ρ vs rs
  | _, _, .nil => .nil
  | _, _, .cons h hs => .cons (h.back l) (RvRs.back l hs)
theorem RvRs.step {A' : AS} {H' : Hp} {ρ' : Dn} (E : ER K F A H σ ρ) (s : Step A H σ ρ A' H' ρ') : ∀ {vs : List V} {rs : List Rv}, RvRs F Z A H σ ρ vs rs → RvRs F Z A' H' σ ρ' vs rs
  | _, _, .nil => .nil
  | _, _, .cons h hs => .cons (h.step E s) (RvRs.step E s hs)
end
/-- an operation, by values, on data -/
structure Op2 (r : R2) (g : PD → PD → Option Rc) : Prop where
  run : ∀ A H x y d1 d2 c (Q : VK), (∀ a, A a → H a ≠ none) → Rt A H x d1 → Rt A H y d2 → g d1 d2 = some c → (∀ v H', NewR A H H' v c → Q v H') → r x y H Q
structure Op1 (r : V → Hp → VK → Prop) (g : PD → Option Rc) : Prop where
  run : ∀ A H x d1 c (Q : VK), (∀ a, A a → H a ≠ none) → Rt A H x d1 → g d1 = some c → (∀ v H', NewR A H H' v c → Q v H') → r x H Q
structure OpN (r : List V → Hp → VK → Prop) (g : List PD → Option Rc) : Prop where
  run : ∀ A H xs ds c (Q : VK), (∀ a, A a → H a ≠ none) → Rts A H xs ds → g ds = some c → (∀ v H', NewR A H H' v c → Q v H') → r xs H Q
/-- handing an operation's answer on -/
def fin (o : Option Rc) : M Rv := fun ρ =>
  match o with
  | some c => .ok c.rv ρ
  | none => .no
def rdM (r : Rv) : M PD := fun ρ =>
  match rd r ρ with
  | some d => .ok d ρ
  | none => .no
def rdsM (r : List Rv) : M (List PD) := fun ρ =>
  match rds r ρ with
  | some d => .ok d ρ
  | none => .no
def eOp2 (g : PD → PD → Option Rc) (a b : M Rv) : M Rv := bnd a fun x => bnd b fun y => bnd (rdM x) fun d1 => bnd (rdM y) fun d2 => fin (g d1 d2)
def eOp1 (g : PD → Option Rc) (a : M Rv) : M Rv := bnd a fun x => bnd (rdM x) fun d1 => fin (g d1)
def eOpN (g : List PD → Option Rc) (a : M (List Rv)) : M Rv := bnd a fun xs => bnd (rdsM xs) fun ds => fin (g ds)
section
variable {X : Cx} {W : WX} {F : Ent} {A : AS} {H : Hp} {σ : L2.St} {ρ : Dn} {v : V} {α : Type}
theorem Pst.rd {β : Type} {RR : AS → Hp → Dn → β → α → Prop} {Q : β → Hp → Prop} {r : Rv} {k : PD → M α} {ρ1 : Dn} (h : Pst X.K X.mg W F A H σ ρ RR Q (bnd (rdM r) k ρ1)) : ∃ d, rd r ρ1 = some d ∧ Pst X.K X.mg W F A H σ ρ RR Q (k d ρ1) := by
  unfold bnd rdM at h
  cases e : DP.rd r ρ1 with
  | none => rw [e] at h; exact h.elim
  | some d => rw [e] at h; exact ⟨d, rfl, h⟩
theorem Pst.rds {β : Type} {RR : AS → Hp → Dn → β → α → Prop} {Q : β → Hp → Prop} {r : List Rv} {k : List PD → M α} {ρ1 : Dn} (h : Pst X.K X.mg W F A H σ ρ RR Q (bnd (rdsM r) k ρ1)) : ∃ d, rds r ρ1 = some d ∧ Pst X.K X.mg W F A H σ ρ RR Q (k d ρ1) := by
  unfold bnd rdsM at h
  cases e : DP.rds r ρ1 with
  | none => rw [e] at h; exact h.elim
  | some d => rw [e] at h; exact ⟨d, rfl, h⟩
theorem Pst.fin {Q : VK} {o : Option Rc} {A1 : AS} {H1 : Hp} {ρ1 : Dn} (S : Step A H σ ρ A1 H1 ρ1) (E : ER X.K F A1 H1 σ ρ1) (h : Pst X.K X.mg W F A H σ ρ (RE F H σ) Q (fin o ρ1)) : ∃ c, o = some c ∧ ∀ v H', NewR A1 H1 H' v c → Q v H' := by
  unfold DP.fin at h
  cases o with
  | none => exact h.elim
  | some c => exact ⟨c, rfl, fun v H' n => let ⟨a, b, r⟩ := n.rv S.live E; h A1 H' v a (S.trans b) r⟩
theorem Pst.fin' {Q : VK} {o : Option Rc} {A0 A1 : AS} {H0 H1 : Hp} {ρ0 ρ1 : Dn} (S : Step A H σ ρ A1 H1 ρ1) (E : ER X.K F A1 H1 σ ρ1) (S0 : Step A0 H0 σ ρ0 A H ρ) (h : Pst X.K X.mg W F A H σ ρ (RE F H0 σ) Q (DP.fin o ρ1)) : ∃ c, o = some c ∧ ∀ v H', NewR A1 H1 H' v c → Q v H' := by
  unfold DP.fin at h
  cases o with
  | none => exact h.elim
  | some c => exact ⟨c, rfl, fun v H' n => let ⟨a, b, r⟩ := n.rv (S0.trans S).live E; h A1 H' v a (S.trans b) r⟩
variable {a b : Expr} {fa fb : M Rv} {es : List Expr} {fs : M (List Rv)} {r : R2} {g : PD → PD → Option Rc} {pos : Pos}
theorem op2_run {ta tb : TE} (hg : Op2 r g) (ha : ∀ F A H σ ρ, ER X.K F A H σ ρ → ∀ Q : VK, Pst X.K X.mg W F A H σ ρ (RE F H σ) Q (fa ρ) → ta σ H Q) (hb : ∀ F A H σ ρ, ER X.K F A H σ ρ → ∀ Q : VK, Pst X.K X.mg W F A H σ ρ (RE F H σ) Q (fb ρ) → tb σ H Q) :
    ∀ F A H σ ρ, ER X.K F A H σ ρ → ∀ Q : VK, Pst X.K X.mg W F A H σ ρ (RE F H σ) Q (eOp2 g fa fb ρ) → tOp r ta tb σ H Q := by
  intro F A H σ ρ E Q h
  refine ha F A H σ ρ E _ (h.split fun x ρ1 A1 H1 v1 E1 S1 R1 h1 => ?_)
  refine hb F A1 H1 σ ρ1 E1 _ ((h1.after S1).split fun y ρ2 A2 H2 v2 E2 S2 R2 h2 => ?_)
  obtain ⟨d1, e1, h3⟩ := h2.rd
  obtain ⟨d2, e2, h4⟩ := h3.rd
  obtain ⟨c, e3, h5⟩ := h4.fin' S2 E2 S1
  have R1' : RvR F H A2 H2 σ ρ2 v1 x := RvR.step E1 S2 R1
  exact hg.run A2 H2 v1 v2 d1 d2 c Q E2.dom (R1'.rt E2 e1) (RvR.rt E2 R2 e2) e3 h5
theorem sim_op {op : Operator} (ho : OpR X (binaryOp op) r) (hg : Op2 r g) (ha : SimE X W a fa) (hb : SimE X W b fb) : SimE X W (.BinOp a op b pos) (eOp2 g fa fb) := by
  obtain ⟨ta, pa, ha⟩ := ha
  obtain ⟨tb, pb, hb⟩ := hb
  exact ⟨_, pe_op ho pa pb, op2_run hg ha hb⟩
theorem sim_cmp {op : CmpOp} (ho : OpR X (compareOp op) r) (hg : Op2 r g) (ha : SimE X W a fa) (hb : SimE X W b fb) (hm : behindInMarks op b = false) : SimE X W (.Compare a [op] [b] pos) (eOp2 g fa fb) := by
  obtain ⟨ta, pa, ha⟩ := ha
  obtain ⟨tb, pb, hb⟩ := hb
  exact ⟨_, pe_cmpR ho pa pb hm, op2_run hg ha hb⟩
theorem sim_ix (ho : IxR X r) (hg : Op2 r g) (ha : SimE X W a fa) (hb : SimE X W b fb) (hs : PlainIx b) : SimE X W (.Subscript a b pos) (eOp2 g fa fb) := by
  obtain ⟨ta, pa, ha⟩ := ha
  obtain ⟨tb, pb, hb⟩ := hb
  exact ⟨_, pe_ix ho pa pb hs, op2_run hg ha hb⟩
theorem sim_un {op : UnaryOp} {r : V → Hp → VK → Prop} {g : PD → Option Rc} (ho : UnR X (unaryOp op) r) (hg : Op1 r g) (ha : SimE X W a fa) : SimE X W (.UnaryOp op a pos) (eOp1 g fa) := by
  obtain ⟨ta, pa, ha⟩ := ha
  refine ⟨_, pe_un ho pa, fun F A H σ ρ E Q h => ?_⟩
  refine ha F A H σ ρ E _ (h.split fun x ρ1 A1 H1 v1 E1 S1 R1 h1 => ?_)
  obtain ⟨d1, e1, h3⟩ := h1.rd
  obtain ⟨c, e3, h5⟩ := h3.fin S1 E1
  exact hg.run A1 H1 v1 d1 c Q E1.dom (RvR.rt E1 R1 e1) e3 h5
/-! names, constants -/
def eVar (i : Nat) : M Rv := fun ρ =>
  match ρ[i]? with
  | some (some (.imm d)) => .ok (.val d) ρ
  | some (some (.own _ _)) => .ok (.slot i) ρ
  | _ => .no
def eC (d : PD) : M Rv := fun ρ => .ok (.val d) ρ
theorem sim_var {i : Nat} {x : Str} {pos : Pos} (h : PE X (.Name x pos) (tVar i)) : SimE X W (.Name x pos) (eVar i) := by
  refine ⟨_, h, fun F A H σ ρ E Q h => ?_⟩
  unfold eVar at h
  cases e : ρ[i]? with
  | none => rw [e] at h; exact h.elim
  | some o =>
    rw [e] at h
    cases o with
    | none => exact h.elim
    | some s =>
      obtain ⟨v, e1, r⟩ := E.slot i s e
      refine ⟨v, e1, ?_⟩
      cases s with
      | imm d => exact h A H v E Step.refl r
      | own b d => exact h A H v E Step.refl ⟨e1, _, e⟩
      | scr ns => exact h.elim
theorem sim_c {e : Expr} {v : V} {d : PD} (h : PE X e (tC v)) (hr : ∀ A H, Rp A H v d) : SimE X W e (eC d) :=
  ⟨_, h, fun F A H σ ρ E Q h => h A H v E Step.refl (hr A H)⟩
theorem sim_int {i : Int} {j : Nat} {pos : Pos} : SimE X W (.Constant (.int i) j pos) (eC (.int i)) := sim_c pe_int fun _ _ => .int i
theorem sim_bl {i : Bool} {j : Nat} {pos : Pos} : SimE X W (.Constant (.bool i) j pos) (eC (.bool i)) := sim_c pe_bl fun _ _ => .bl i
theorem sim_non {j : Nat} {pos : Pos} : SimE X W (.Constant .none j pos) (eC .none) := sim_c pe_non fun _ _ => .non
theorem sim_str {i : Str} {j : Nat} {pos : Pos} : SimE X W (.Constant (.str i) j pos) (eC (.str i)) := sim_c pe_str fun _ _ => .str i
/-! argument lists -/
def aNil : M (List Rv) := fun ρ => .ok [] ρ
def aCons (a : M Rv) (b : M (List Rv)) : M (List Rv) := bnd a fun x => bnd b fun xs => retM (x :: xs)
theorem sim_anil : SimA X W [] aNil := ⟨_, pa_nil, fun F A H σ ρ E Q h => h A H [] E Step.refl .nil⟩
theorem sim_acons (ha : SimE X W a fa) (hb : SimA X W es fs) (hs : starEach (a :: es) X.env = (false, eval a X.env) :: starEach es X.env := by rfl) : SimA X W (a :: es) (aCons fa fs) := by
  obtain ⟨ta, pa, ha⟩ := ha
  obtain ⟨tb, pb, hb⟩ := hb
  refine ⟨_, pa_cons pa pb hs, fun F A H σ ρ E Q h => ?_⟩
  refine ha F A H σ ρ E _ (h.split fun x ρ1 A1 H1 v1 E1 S1 R1 h1 => ?_)
  refine hb F A1 H1 σ ρ1 E1 _ ((h1.after S1).split fun xs ρ2 A2 H2 vs E2 S2 R2 h2 => ?_)
  exact h2 A2 H2 (v1 :: vs) E2 S2 (.cons (RvR.step E1 S2 R1) (R2.back S1.live))
/-- a call of a built-in by its name -/
theorem sim_callB {r : List V → Hp → VK → Prop} {g : List PD → Option Rc} {id : String} {x : Str} {p : Pos} (hc : CallR X (.builtin id) r) (hg : OpN r g) (hgl : Gl X x) (hm : X.mg x = none) (hv : bootBuiltins x = some (.builtin id)) (ha : SimA X W (a :: es) fs) (hn : x ≠ "__name__" := by decide) (hdb : (x == ("__debug__" : Str)) = false := by decide)
    (he : starEach (a :: es) X.env = (false, eval a X.env) :: starEach es X.env := by rfl) (hpl : (backTo pos (starEach es X.env)).any (·.1) = false := by rfl) : SimE X W (.Call (.Name x p) (a :: es) [] pos) (eOpN g fs) := by
  obtain ⟨ta, pa, ha⟩ := ha
  refine ⟨_, pe_callB hc hgl hm hv pa hn hdb he hpl, fun F A H σ ρ E Q h => ?_⟩
  refine ha F A H σ ρ E _ (h.split fun xs ρ1 A1 H1 vs E1 S1 R1 h1 => ?_)
  obtain ⟨ds, e1, h3⟩ := h1.rds
  obtain ⟨c, e3, h5⟩ := h3.fin S1 E1
  exact hg.run A1 H1 vs ds c Q E1.dom (RvRs.rts E1 R1 e1) e3 h5
theorem sim_callTy {r : List V → Hp → VK → Prop} {g : List PD → Option Rc} {T : String} {x : Str} {p : Pos} (hc : CallR X (.type T) r) (hg : OpN r g) (hgl : Gl X x) (hm : X.mg x = none) (hv : bootBuiltins x = some (.type T)) (ha : SimA X W (a :: es) fs) (hn : x ≠ "__name__" := by decide) (hdb : (x == ("__debug__" : Str)) = false := by decide)
    (he : starEach (a :: es) X.env = (false, eval a X.env) :: starEach es X.env := by rfl) (hpl : (backTo pos (starEach es X.env)).any (·.1) = false := by rfl) : SimE X W (.Call (.Name x p) (a :: es) [] pos) (eOpN g fs) := by
  obtain ⟨ta, pa, ha⟩ := ha
  refine ⟨_, pe_callTy hc hgl hm hv pa hn hdb he hpl, fun F A H σ ρ E Q h => ?_⟩
  refine ha F A H σ ρ E _ (h.split fun xs ρ1 A1 H1 vs E1 S1 R1 h1 => ?_)
  obtain ⟨ds, e1, h3⟩ := h1.rds
  obtain ⟨c, e3, h5⟩ := h3.fin S1 E1
  exact hg.run A1 H1 vs ds c Q E1.dom (RvRs.rts E1 R1 e1) e3 h5
end
end DP
/-! DPD: slots set and frozen; tests; targets; statements; loops; comprehensions. -/
namespace DP
open PySem L2
section
variable {K : PySem.W.Frag} {F : Ent} {A : AS} {H : Hp} {σ : L2.St} {ρ : Dn} {v : V} {d : PD} {i : Nat} {p : Addr}
/-- slot i may be stored to -/
def freeSl (ρ : Dn) (i : Nat) : Bool :=
  match ρ[i]? with
  | some (some (.own true _)) => false
  | some _ => true
  | none => false
theorem freeSl_lt (h : freeSl ρ i = true) : i < ρ.length := by
  unfold freeSl at h
  cases e : ρ[i]? with
  | none => rw [e] at h; cases h
  | some o => exact (List.getElem?_eq_some_iff.mp e).1
theorem freeSl_no (h : freeSl ρ i = true) : ρ[i]? ≠ some (some (.own true d)) := by
  intro e
  unfold freeSl at h
  rw [e] at h
  cases h
theorem get_set_self {α : Type} {l : List α} {i : Nat} {a : α} (h : i < l.length) : (l.set i a)[i]? = some a := List.getElem?_set_self h
theorem get_set_ne {α : Type} {l : List α} {i j : Nat} {a : α} (h : i ≠ j) : (l.set i a)[j]? = l[j]? := List.getElem?_set_ne h
/-- a store to a slot: data that stays, or a thing of its own -/
theorem ER.store (E : ER K F A H σ ρ) (hf : freeSl ρ i = true) {s : Sl} (hs : SlR K A H v s) (ho : ∀ b d p, s = .own b d → v = .ref p → b = false ∧ (∀ j, j ≠ i → ∀ b' d', ρ[j]? = some (some (.own b' d')) → σ[j]? ≠ some (some (.ref p))) ∧ F.H p = none) :
    ER K F A H (σ.set i (some v)) (ρ.set i (some s)) := by
  have hi := freeSl_lt hf
  have hiσ : i < σ.length := by rw [E.len]; exact hi
  refine ⟨by simp [E.len], fun j t e => ?_, fun j k b b' d d' q e1 e2 e3 e4 => ?_, E.dom, E.kp, E.mono, E.grow, fun j b d q e1 e2 => ?_, E.FS, fun q hq => ?_⟩
  · by_cases hj : i = j
    · subst hj
      rw [get_set_self hi] at e
      cases e
      exact ⟨v, get_set_self hiσ, hs⟩
    · rw [get_set_ne hj] at e
      rw [get_set_ne hj]
      exact E.slot j t e
  · by_cases hj : i = j
    · by_cases hk : i = k
      · exact hj.symm.trans hk
      · subst hj
        rw [get_set_self hi] at e1
        rw [get_set_self hiσ] at e3
        rw [get_set_ne hk] at e2 e4
        cases e1
        cases e3
        exact absurd e4 ((ho _ _ q rfl rfl).2.1 k (Ne.symm hk) _ _ e2)
    · by_cases hk : i = k
      · subst hk
        rw [get_set_self hi] at e2
        rw [get_set_self hiσ] at e4
        rw [get_set_ne hj] at e1 e3
        cases e2
        cases e4
        exact absurd e3 ((ho _ _ q rfl rfl).2.1 j (Ne.symm hj) _ _ e1)
      · rw [get_set_ne hj] at e1 e3
        rw [get_set_ne hk] at e2 e4
        exact E.dist j k b b' d d' q e1 e2 e3 e4
  · by_cases hj : i = j
    · subst hj
      rw [get_set_self hi] at e1
      rw [get_set_self hiσ] at e2
      cases e1
      cases e2
      obtain ⟨rfl, _, z⟩ := ho _ _ q rfl rfl
      exact z
    · rw [get_set_ne hj] at e1 e2
      exact E.ownF j b d q e1 e2
  · obtain ⟨e1, d, e2⟩ := E.ins q hq
    have hne : i ≠ q.1 := fun z => by subst z; exact freeSl_no hf e2
    exact ⟨by rw [get_set_ne hne]; exact e1, d, by rw [get_set_ne hne]; exact e2⟩
theorem ER.setImm (E : ER K F A H σ ρ) (hf : freeSl ρ i = true) (h : Rp A H v d) : ER K F A H (σ.set i (some v)) (ρ.set i (some (.imm d))) :=
  E.store hf (s := .imm d) h fun _ _ _ e => nomatch e
theorem ER.setOwn (E : ER K F A H σ ρ) (hf : freeSl ρ i = true) (h1 : ¬ A p) (h2 : ¬ Ow σ ρ p) (h3 : F.H p = none) (h4 : OwnObj A H p d) : ER K F A H (σ.set i (some (.ref p))) (ρ.set i (some (.own false d))) :=
  E.store hf (s := .own false d) ⟨p, rfl, h1, h4⟩ fun b d' q e1 e2 => by
    cases e1
    cases e2
    exact ⟨rfl, fun j _ b' d' e3 e4 => h2 ⟨j, b', d', e3, e4⟩, h3⟩
/-- A and p -/
def plus (A : AS) (p : Addr) : AS := fun a => A a ∨ a = p
theorem Kp.plus : Kp A (plus A p) H H := ⟨fun _ h => .inl h, fun _ _ _ e => e, fun _ _ e => e⟩
theorem OwnObj.rp (h : OwnObj A H p d) : Rp (plus A p) H (.ref p) d := by
  cases d <;> simp only [OwnObj] at h
  · obtain ⟨xs, e, r⟩ := h; exact .lst (.inr rfl) e (r.kp Kp.plus)
  · obtain ⟨xs, e, r⟩ := h; exact .dic (.inr rfl) e (r.kp Kp.plus)
theorem OwnObj.ne (h : OwnObj A H p d) : H p ≠ none := fun z => by
  have := h.ld
  rw [z] at this
  exact this
/-- a new thing that nobody else has is frozen -/
theorem ER.freeze (E : ER K F A H σ ρ) (h1 : ¬ A p) (h2 : ¬ Ow σ ρ p) (h3 : F.H p = none) (h4 : H p ≠ none) : ER K F (plus A p) H σ ρ := by
  refine ⟨E.len, fun i s e => ?_, E.dist, fun a ha => ?_, E.kp, fun a ha => .inl (E.mono a ha), fun a ha => ?_, E.ownF, fun q hq z => ?_, E.ins⟩
  · obtain ⟨v, e1, r⟩ := E.slot i s e
    refine ⟨v, e1, ?_⟩
    cases s with
    | imm d => exact Rp.kp Kp.plus r
    | own b d =>
      obtain ⟨q, rfl, n, o⟩ := r
      refine ⟨q, rfl, fun z => z.elim n fun z => ?_, o.kp Kp.plus rfl⟩
      subst z
      exact h2 ⟨i, b, d, e, e1⟩
    | scr ns => exact r
  · rcases ha with ha | rfl
    · exact E.dom a ha
    · exact h4
  · rcases ha with ha | rfl
    · exact E.grow a ha
    · exact .inr h3
  · rcases z with z | rfl
    · exact E.FS q hq z
    · obtain ⟨q', hq', rfl⟩ := hq
      obtain ⟨e1, d, e2⟩ := E.ins q' hq'
      exact h2 ⟨q'.1, true, d, e2, e1⟩
/-- a slot's own thing is frozen -/
theorem ER.freezeSlot (E : ER K F A H σ ρ) (e1 : ρ[i]? = some (some (.own false d))) (e2 : σ[i]? = some (some (.ref p))) : ER K F (plus A p) H σ (ρ.set i (some (.imm d))) ∧ Step A H σ ρ (plus A p) H (ρ.set i (some (.imm d))) ∧ Rp (plus A p) H (.ref p) d := by
  have hi : i < ρ.length := (List.getElem?_eq_some_iff.mp e1).1
  obtain ⟨v, e3, p', rfl, hn, ho⟩ := E.slot i _ e1
  rw [e2] at e3
  cases e3
  have hr : Rp (plus A p) H (.ref p) d := ho.rp
  have sub : ∀ q, Ow σ (ρ.set i (some (.imm d))) q → Ow σ ρ q ∧ q ≠ p := fun q ⟨j, b, d', f1, f2⟩ => by
    by_cases hj : i = j
    · subst hj
      rw [get_set_self hi] at f1
      cases f1
    · rw [get_set_ne hj] at f1
      refine ⟨⟨j, b, d', f1, f2⟩, fun z => ?_⟩
      subst z
      exact hj (E.dist i j _ _ _ _ q e1 f1 e2 f2)
  refine ⟨⟨by simp [E.len], fun j s e => ?_, fun j k b b' d1 d2 q f1 f2 f3 f4 => ?_, fun a ha => ?_, E.kp, fun a ha => .inl (E.mono a ha), fun a ha => ?_, fun j b d1 q f1 f2 => ?_, fun q hq z => ?_, fun q hq => ?_⟩, ⟨fun b o e _ => e, fun _ h => .inl h, fun a ha => ?_, fun q h => (sub q h).1, fun j s e => ?_, fun _ h => h, by simp⟩, hr⟩
  · by_cases hj : i = j
    · subst hj
      rw [get_set_self hi] at e
      cases e
      exact ⟨_, e2, hr⟩
    · rw [get_set_ne hj] at e
      obtain ⟨v, e1', r⟩ := E.slot j s e
      refine ⟨v, e1', ?_⟩
      cases s with
      | imm d => exact Rp.kp Kp.plus r
      | own b d1 =>
        obtain ⟨q, rfl, n, o⟩ := r
        refine ⟨q, rfl, fun z => z.elim n fun z => ?_, o.kp Kp.plus rfl⟩
        subst z
        exact hj (E.dist i j _ _ _ _ q e1 e e2 e1')
      | scr ns => exact r
  · by_cases hj : i = j
    · subst hj; rw [get_set_self hi] at f1; cases f1
    · by_cases hk : i = k
      · subst hk; rw [get_set_self hi] at f2; cases f2
      · rw [get_set_ne hj] at f1
        rw [get_set_ne hk] at f2
        exact E.dist j k _ _ _ _ q f1 f2 f3 f4
  · rcases ha with ha | rfl
    · exact E.dom a ha
    · exact ho.ne
  · rcases ha with ha | rfl
    · exact E.grow a ha
    · have := E.ownF i false d a e1 e2
      exact .inr (by simpa using this)
  · by_cases hj : i = j
    · subst hj; rw [get_set_self hi] at f1; cases f1
    · rw [get_set_ne hj] at f1
      exact E.ownF j b d1 q f1 f2
  · rcases z with z | rfl
    · exact E.FS q hq z
    · obtain ⟨q', hq', hqe⟩ := hq
      obtain ⟨g1, d', g2⟩ := E.ins q' hq'
      subst hqe
      have hj := E.dist i q'.1 _ _ _ _ q'.2 e1 g2 e2 g1
      rw [← hj, e1] at g2
      cases g2
  · obtain ⟨g1, d', g2⟩ := E.ins q hq
    have hne : i ≠ q.1 := fun z => by rw [← z, e1] at g2; cases g2
    exact ⟨g1, d', by rw [get_set_ne hne]; exact g2⟩
  · rcases ha with ha | rfl
    · exact .inl ha
    · exact .inr (.inr ⟨i, false, d, e1, e2⟩)
  · by_cases hj : i = j
    · subst hj; exact ⟨_, get_set_self hi⟩
    · exact ⟨s, by rw [get_set_ne hj]; exact e⟩
end
/-- a value on the way becomes data that stays -/
def frz (r : Rv) : M PD := fun ρ =>
  match r with
  | .val d => .ok d ρ
  | .fresh d => .ok d ρ
  | .slot i => match ρ[i]? with
    | some (some (.imm d)) => .ok d ρ
    | some (some (.own false d)) => .ok d (ρ.set i (some (.imm d)))
    | _ => .no
/-- several, one after another -/
def frzs : List Rv → M (List PD)
  | [] => fun ρ => .ok [] ρ
  | r :: rs => bnd (frz r) fun d => bnd (frzs rs) fun ds => retM (d :: ds)
/-- a value waiting to be frozen -/
def RvQ (F : Ent) (Z : Hp) (A : AS) (H : Hp) (σ : L2.St) (ρ : Dn) (v : V) : Rv → Prop
  | .val d => Rp A H v d
  | .fresh d => ∃ p, v = .ref p ∧ (¬ Ow σ ρ p ∧ F.H p = none ∧ Z p = none) ∧ OwnObj A H p d
  | .slot i => σ[i]? = some (some v) ∧ ∃ s, ρ[i]? = some (some s)
theorem RvR.q {F : Ent} {Z : Hp} {A : AS} {H : Hp} {σ : L2.St} {ρ : Dn} {v : V} {r : Rv} (h : RvR F Z A H σ ρ v r) : RvQ F Z A H σ ρ v r := by
  cases r with
  | val d => exact h
  | fresh d => obtain ⟨p, e, ⟨_, h2, h3, h4⟩, h5⟩ := h; exact ⟨p, e, ⟨h2, h3, h4⟩, h5⟩
  | slot i => exact h
inductive RvQs (F : Ent) (Z : Hp) (A : AS) (H : Hp) (σ : L2.St) (ρ : Dn) : List V → List Rv → Prop
  | nil : RvQs F Z A H σ ρ [] []
  | cons {v : V} {vs : List V} {r : Rv} {rs : List Rv} : RvQ F Z A H σ ρ v r → RvQs F Z A H σ ρ vs rs → RvQs F Z A H σ ρ (v :: vs) (r :: rs)
theorem RvRs.q {F : Ent} {Z : Hp} {A : AS} {H : Hp} {σ : L2.St} {ρ : Dn} : ∀ {vs : List V} {rs : List Rv}, RvRs F Z A H σ ρ vs rs → RvQs F Z A H σ ρ vs rs
  | _, _, .nil => .nil
  | _, _, .cons h hs => .cons h.q (RvRs.q hs)
section
variable {X : Cx} {K : PySem.W.Frag} {mg : Str → Option Value} {W : WX} {F : Ent} {A0 A : AS} {H0 H : Hp} {σ : L2.St} {ρ0 ρ : Dn} {v : V} {r : Rv} {α β : Type}
/-- A' more than A, the heap as it is -/
theorem RvQ.more {A' : AS} {ρ' : Dn} (k : Kp A A' H H) (hs : ∀ p, Ow σ ρ' p → Ow σ ρ p) (hd : ∀ (i : Nat) (s : Sl), ρ[i]? = some (some s) → ∃ s', ρ'[i]? = some (some s')) (h : RvQ F H0 A H σ ρ v r) : RvQ F H0 A' H σ ρ' v r := by
  cases r with
  | val d => exact Rp.kp k h
  | fresh d => obtain ⟨p, e, ⟨h2, h3, h4⟩, h5⟩ := h; exact ⟨p, e, ⟨fun z => h2 (hs p z), h3, h4⟩, h5.kp k rfl⟩
  | slot i => obtain ⟨e, s, h⟩ := h; exact ⟨e, hd i s h⟩
theorem RvQs.more {A' : AS} {ρ' : Dn} (k : Kp A A' H H) (hs : ∀ p, Ow σ ρ' p → Ow σ ρ p) (hd : ∀ (i : Nat) (s : Sl), ρ[i]? = some (some s) → ∃ s', ρ'[i]? = some (some s')) : ∀ {vs : List V} {rs : List Rv}, RvQs F H0 A H σ ρ vs rs → RvQs F H0 A' H σ ρ' vs rs
  | _, _, .nil => .nil
  | _, _, .cons h h' => .cons (h.more k hs hd) (RvQs.more k hs hd h')
theorem frz_run (E : ER K F A H σ ρ) (S : Step A0 H0 σ ρ0 A H ρ) (R : RvQ F H0 A H σ ρ v r) {d : PD} {ρ' : Dn} (h : frz r ρ = .ok d ρ') :
    ∃ A', ER K F A' H σ ρ' ∧ Step A0 H0 σ ρ0 A' H ρ' ∧ Rp A' H v d ∧ Kp A A' H H ∧ (∀ p, Ow σ ρ' p → Ow σ ρ p) ∧ (∀ (i : Nat) (s : Sl), ρ[i]? = some (some s) → ∃ s', ρ'[i]? = some (some s')) := by
  cases r with
  | val d' => cases h; exact ⟨A, E, S, R, ⟨fun _ h => h, fun _ _ _ e => e, fun _ _ e => e⟩, fun _ h => h, fun _ s h => ⟨s, h⟩⟩
  | fresh d' =>
    cases h
    obtain ⟨p, rfl, ⟨h2, h3, hz⟩, h4⟩ := R
    by_cases ha : A p
    · refine ⟨A, E, S, ?_, ⟨fun _ h => h, fun _ _ _ e => e, fun _ _ e => e⟩, fun _ h => h, fun _ s h => ⟨s, h⟩⟩
      have := h4.rp
      exact Rp.kp ⟨fun a z => z.elim id fun z => by subst z; exact ha, fun _ _ _ e => e, fun _ _ e => e⟩ this
    · refine ⟨plus A p, E.freeze ha h2 h3 h4.ne, ⟨S.kp, fun a h => .inl (S.mono a h), fun a z => ?_, S.sub, S.def_, S.live, S.len⟩, h4.rp, Kp.plus, fun _ h => h, fun _ s h => ⟨s, h⟩⟩
      rcases z with z | rfl
      · exact S.grow a z
      · exact .inr (.inl hz)
  | slot i =>
    obtain ⟨e1, s, e2⟩ := R
    simp only [frz, e2] at h
    cases s with
    | imm d' =>
      cases h
      obtain ⟨v', e3, r⟩ := E.slot i _ e2
      rw [e1] at e3
      cases e3
      exact ⟨A, E, S, r, ⟨fun _ h => h, fun _ _ _ e => e, fun _ _ e => e⟩, fun _ h => h, fun _ s h => ⟨s, h⟩⟩
    | own b d' =>
      cases b with
      | true => cases h
      | false =>
        cases h
        obtain ⟨v', e3, p, rfl, _⟩ := E.slot i _ e2
        rw [e1] at e3
        cases e3
        obtain ⟨x, y, z⟩ := E.freezeSlot e2 e1
        exact ⟨_, x, S.trans y, z, Kp.plus, y.sub, y.def_⟩
    | scr ns => cases h
theorem frzs_run : ∀ {rs : List Rv} {vs : List V} {A : AS} {ρ : Dn} {ds : List PD} {ρ' : Dn}, ER K F A H σ ρ → Step A0 H0 σ ρ0 A H ρ → RvQs F H0 A H σ ρ vs rs → frzs rs ρ = .ok ds ρ' →
    ∃ A', ER K F A' H σ ρ' ∧ Step A0 H0 σ ρ0 A' H ρ' ∧ RpAll A' H vs ds ∧ Kp A A' H H
  | [], _, A, ρ, ds, ρ', E, S, R, h => by
    cases R
    cases h
    exact ⟨A, E, S, .nil, fun _ h => h, fun _ _ _ e => e, fun _ _ e => e⟩
  | r :: rs, _, A, ρ, ds, ρ', E, S, .cons R Rs, h => by
    simp only [frzs, bnd] at h
    cases e1 : frz r ρ with
    | no => rw [e1] at h; cases h
    | ex e ρ1 => rw [e1] at h; cases h
    | ok d ρ1 =>
      rw [e1] at h
      simp only at h
      obtain ⟨A1, E1, S1, R1, k1, hs, hd⟩ := frz_run E S R e1
      cases e2 : frzs rs ρ1 with
      | no => rw [e2] at h; cases h
      | ex e ρ1 => rw [e2] at h; cases h
      | ok ds' ρ2 =>
        rw [e2] at h
        obtain ⟨A2, E2, S2, R2, k2⟩ := frzs_run E1 S1 (Rs.more k1 hs hd) e2
        cases h
        exact ⟨A2, E2, S2, .cons (Rp.kp k2 R1) R2, ⟨fun a h => k2.sub a (k1.sub a h), fun _ _ _ e => e, fun _ _ e => e⟩⟩
theorem frz_ok {ρ : Dn} {d : Rs PD} (h : frz r ρ = d) : d = .no ∨ ∃ x ρ', d = .ok x ρ' := by
  subst h
  cases r with
  | val d => exact .inr ⟨_, _, rfl⟩
  | fresh d => exact .inr ⟨_, _, rfl⟩
  | slot i =>
    unfold frz
    dsimp only
    cases ρ[i]? with
    | none => exact .inl rfl
    | some o =>
      cases o with
      | none => exact .inl rfl
      | some s =>
        cases s with
        | imm d => exact .inr ⟨_, _, rfl⟩
        | own b d => cases b with
          | true => exact .inl rfl
          | false => exact .inr ⟨_, _, rfl⟩
        | scr ns => exact .inl rfl
theorem frzs_ok : ∀ {rs : List Rv} {ρ : Dn}, frzs rs ρ = .no ∨ ∃ x ρ', frzs rs ρ = .ok x ρ'
  | [], ρ => .inr ⟨_, _, rfl⟩
  | r :: rs, ρ => by
    rcases frz_ok (r := r) (ρ := ρ) rfl with h | ⟨x, ρ1, h⟩
    · left; simp only [frzs, bnd, h]
    · rcases frzs_ok (rs := rs) (ρ := ρ1) with h2 | ⟨y, ρ2, h2⟩
      · left; simp only [frzs, bnd, h, h2]
      · right; exact ⟨_, _, by simp only [frzs, bnd, h, h2, retM]; rfl⟩
end
section
variable {X : Cx} {W : WX} {F : Ent} {A A1 : AS} {H H1 : Hp} {σ : L2.St} {ρ ρ1 : Dn} {v : V} {r : Rv} {rs : List Rv} {vs : List V} {α β : Type}
theorem Pst.frz {RR : AS → Hp → Dn → β → α → Prop} {Q : β → Hp → Prop} {k : PD → M α} (E : ER X.K F A1 H1 σ ρ1) (S : Step A H σ ρ A1 H1 ρ1) (R : RvR F H A1 H1 σ ρ1 v r) (h : Pst X.K X.mg W F A H σ ρ RR Q (bnd (DP.frz r) k ρ1)) :
    ∃ d A2 ρ2, ER X.K F A2 H1 σ ρ2 ∧ Step A H σ ρ A2 H1 ρ2 ∧ Rp A2 H1 v d ∧ Pst X.K X.mg W F A H σ ρ RR Q (k d ρ2) := by
  unfold bnd at h
  rcases frz_ok (r := r) (ρ := ρ1) rfl with e | ⟨d, ρ2, e⟩
  · rw [e] at h; exact h.elim
  · rw [e] at h
    obtain ⟨A2, E2, S2, R2, _⟩ := frz_run E S R.q e
    exact ⟨d, A2, ρ2, E2, S2, R2, h⟩
theorem Pst.frzs {RR : AS → Hp → Dn → β → α → Prop} {Q : β → Hp → Prop} {k : List PD → M α} (E : ER X.K F A1 H1 σ ρ1) (S : Step A H σ ρ A1 H1 ρ1) (R : RvRs F H A1 H1 σ ρ1 vs rs) (h : Pst X.K X.mg W F A H σ ρ RR Q (bnd (DP.frzs rs) k ρ1)) :
    ∃ ds A2 ρ2, ER X.K F A2 H1 σ ρ2 ∧ Step A H σ ρ A2 H1 ρ2 ∧ RpAll A2 H1 vs ds ∧ Pst X.K X.mg W F A H σ ρ RR Q (k ds ρ2) := by
  unfold bnd at h
  rcases frzs_ok (rs := rs) (ρ := ρ1) with e | ⟨d, ρ2, e⟩
  · rw [e] at h; exact h.elim
  · rw [e] at h
    obtain ⟨A2, E2, S2, R2, _⟩ := frzs_run E S R.q e
    exact ⟨d, A2, ρ2, E2, S2, R2, h⟩
theorem RpAll.length {A : AS} {H : Hp} : ∀ {vs : List V} {ds : List PD}, RpAll A H vs ds → vs.length = ds.length
  | _, _, .nil => rfl
  | _, _, .cons _ h => by simp [RpAll.length h]
theorem RpAll.get {A : AS} {H : Hp} : ∀ {vs : List V} {ds : List PD} {i : Nat} {d : PD}, RpAll A H vs ds → ds[i]? = some d → ∃ v, vs[i]? = some v ∧ Rp A H v d
  | _, _, _, _, .nil, e => by simp at e
  | _, _, 0, _, .cons r _, e => by simp at e; subst e; exact ⟨_, rfl, r⟩
  | _, _, i + 1, _, .cons _ h, e => by
    obtain ⟨v, e1, r⟩ := RpAll.get (i := i) h (by simpa using e)
    exact ⟨v, by simpa using e1, r⟩
theorem RpAll.append {A : AS} {H : Hp} : ∀ {vs ws : List V} {ds es : List PD}, RpAll A H vs ds → RpAll A H ws es → RpAll A H (vs ++ ws) (ds ++ es)
  | _, _, _, _, .nil, h => h
  | _, _, _, _, .cons r h, h' => .cons r (RpAll.append h h')
theorem RpAll.snoc {A : AS} {H : Hp} {vs : List V} {ds : List PD} {v : V} {d : PD} (h : RpAll A H vs ds) (r : Rp A H v d) : RpAll A H (vs ++ [v]) (ds ++ [d]) := h.append (.cons r .nil)
/-! displays -/
def smallL (n : Nat) : Bool := decide (n ≤ 10000000)
theorem smallL_le {n : Nat} (h : smallL n = true) : n ≤ sizeLine := Nat.le_trans (of_decide_eq_true h) (by decide)
theorem smallL_lt {n : Nat} (h : smallL n = true) : n < sizeLine := Nat.lt_of_le_of_lt (of_decide_eq_true h) (by decide)
def chk (b : Bool) : M Unit := fun ρ => if b = true then .ok () ρ else .no
theorem Pst.chk {RR : AS → Hp → Dn → β → α → Prop} {Q : β → Hp → Prop} {b : Bool} {k : Unit → M α} (h : Pst X.K X.mg W F A H σ ρ RR Q (bnd (DP.chk b) k ρ1)) : b = true ∧ Pst X.K X.mg W F A H σ ρ RR Q (k () ρ1) := by
  unfold bnd DP.chk at h
  cases b with
  | false => exact h.elim
  | true => exact ⟨rfl, h⟩
def eTup (a : M (List Rv)) : M Rv := bnd a fun rs => bnd (frzs rs) fun ds => bnd (chk (smallL ds.length)) fun _ => retM (.val (.tuple ds))
def eLst (a : M (List Rv)) : M Rv := bnd a fun rs => bnd (frzs rs) fun ds => bnd (chk (smallL ds.length)) fun _ => retM (.fresh (.list ds))
variable {es : List Expr} {fs : M (List Rv)} {pos : Pos}
theorem sim_tup {x1} (ha : SimA X W es fs) : SimE X W (.Tuple es x1 pos) (eTup fs) := by
  obtain ⟨ta, pa, ha⟩ := ha
  refine ⟨_, pe_tup pa, fun F A H σ ρ E Q h => ?_⟩
  refine ha F A H σ ρ E _ (h.split fun rs ρ1 A1 H1 vs E1 S1 R1 h1 => ?_)
  obtain ⟨ds, A2, ρ2, E2, S2, R2, h2⟩ := h1.frzs E1 S1 R1
  obtain ⟨hz, h3⟩ := h2.chk
  refine ⟨by rw [R2.length]; exact smallL_le hz, fun p hp => ?_⟩
  have ext : ∀ b o, H1 b = some o → upd H1 p (.tup vs) b = some o := fun b o e => by rw [upd_ne (ne_of_none e hp)]; exact e
  exact h3 A2 _ _ (E2.ext ext) (S2.trans (Step.ext ext)) (.tup upd_same (R2.kp (Kp.ext ext)))
theorem sim_lst (ha : SimA X W es fs) : SimE X W (.List es pos) (eLst fs) := by
  obtain ⟨ta, pa, ha⟩ := ha
  refine ⟨_, pe_lst pa, fun F A H σ ρ E Q h => ?_⟩
  refine ha F A H σ ρ E _ (h.split fun rs ρ1 A1 H1 vs E1 S1 R1 h1 => ?_)
  obtain ⟨ds, A2, ρ2, E2, S2, R2, h2⟩ := h1.frzs E1 S1 R1
  obtain ⟨hz, h3⟩ := h2.chk
  refine ⟨by rw [R2.length]; exact smallL_le hz, fun p hp => ?_⟩
  have ext : ∀ b o, H1 b = some o → upd H1 p (.lst vs) b = some o := fun b o e => by rw [upd_ne (ne_of_none e hp)]; exact e
  exact h3 A2 _ _ (E2.ext ext) (S2.trans (Step.ext ext)) ⟨p, rfl, ⟨E2.free hp, E2.owne hp, E2.fnone hp, S2.live p hp⟩, vs, upd_same, R2.kp (Kp.ext ext)⟩
end
end DP
/-! DPE: tests, choices, targets, statements, loops, comprehensions. -/
namespace DP
open PySem L2
def noM {α : Type} : M α := fun _ => .no
def tBool (f : M Rv) : M Bool := bnd f fun r => bnd (rdM r) fun d =>
  match d with
  | .bool b => retM b
  | _ => noM
section
variable {A : AS} {H : Hp} {v : V} {b : Bool} {i : Int} {x : Str} {ds : List PD} {kvs : List (PD × PD)}
theorem Rt.bool (h : Rt A H v (.bool b)) : v = .bl b := by
  rcases h with h | ⟨p, _, h⟩
  · cases h; rfl
  · exact h.elim
theorem Rt.int (h : Rt A H v (.int i)) : v = .int i := by
  rcases h with h | ⟨p, _, h⟩
  · cases h; rfl
  · exact h.elim
theorem Rt.str (h : Rt A H v (.str x)) : v = .str x := by
  rcases h with h | ⟨p, _, h⟩
  · cases h; rfl
  · exact h.elim
theorem Rt.none (h : Rt A H v .none) : v = .non := by
  rcases h with h | ⟨p, _, h⟩
  · cases h; rfl
  · exact h.elim
theorem Rt.list (h : Rt A H v (.list ds)) : ∃ p xs, v = .ref p ∧ H p = some (.lst xs) ∧ RpAll A H xs ds := by
  rcases h with h | ⟨p, rfl, xs, e, r⟩
  · cases h with
    | lst a e r => exact ⟨_, _, rfl, e, r⟩
  · exact ⟨p, xs, rfl, e, r⟩
theorem Rt.tup (h : Rt A H v (.tuple ds)) : ∃ p xs, v = .ref p ∧ H p = some (.tup xs) ∧ RpAll A H xs ds := by
  rcases h with h | ⟨p, _, h⟩
  · cases h with
    | tup e r => exact ⟨_, _, rfl, e, r⟩
  · exact h.elim
theorem Rt.dic (h : Rt A H v (.dict kvs)) : ∃ p xs, v = .ref p ∧ H p = some (.dK xs) ∧ RpKV A H xs kvs := by
  rcases h with h | ⟨p, rfl, xs, e, r⟩
  · cases h with
    | dic a e r => exact ⟨_, _, rfl, e, r⟩
  · exact ⟨p, xs, rfl, e, r⟩
end
section
variable {X : Cx} {W : WX} {F : Ent} {A A1 : AS} {H H1 : Hp} {σ : L2.St} {ρ ρ1 : Dn} {v : V} {α β : Type} {a b c e : Expr} {fa fb fc : M Rv} {ga gb gc : M Bool} {pos : Pos}
theorem Pst.imp {K : PySem.W.Frag} {mg : Str → Option Value} {RR RR' : AS → Hp → Dn → β → α → Prop} {Q : β → Hp → Prop} {r : Rs α} (h : Pst K mg W F A H σ ρ RR Q r) (i : ∀ A' H' ρ' b a, RR' A' H' ρ' b a → RR A' H' ρ' b a) : Pst K mg W F A H σ ρ RR' Q r := by
  cases r with
  | ok a ρ' => exact fun A' H' b E S R => h A' H' b E S (i _ _ _ _ _ R)
  | ex e ρ' => exact h
  | no => exact h
theorem Pst.weak {K : PySem.W.Frag} {mg : Str → Option Value} {Z Z' : Hp} {Q : VK} {r : Rs Rv} (h : Pst K mg W F A H σ ρ (RE F Z σ) Q r) (l : ∀ b, Z' b = none → Z b = none) : Pst K mg W F A H σ ρ (RE F Z' σ) Q r :=
  h.imp fun A' H' ρ' b a R => RvR.back l R
theorem tBool_run {t : TE} (ha : ∀ F A H σ ρ, ER X.K F A H σ ρ → ∀ Q : VK, Pst X.K X.mg W F A H σ ρ (RE F H σ) Q (fa ρ) → t σ H Q) :
    ∀ F A H σ ρ, ER X.K F A H σ ρ → ∀ Q : Bool → Hp → Prop, Pst X.K X.mg W F A H σ ρ RT Q (tBool fa ρ) → t σ H (fun x H' => ∃ k, x = .bl k ∧ Q k H') := by
  intro F A H σ ρ E Q h
  refine ha F A H σ ρ E _ (h.split fun r ρ1 A1 H1 v1 E1 S1 R1 h1 => ?_)
  obtain ⟨d, e1, h2⟩ := h1.rd
  cases d with
  | bool k =>
    have := Rt.bool (RvR.rt E1 R1 e1)
    exact ⟨k, this, h2 A1 H1 k E1 S1 rfl⟩
  | none => exact h2.elim
  | int i => exact h2.elim
  | str i => exact h2.elim
  | list i => exact h2.elim
  | tuple i => exact h2.elim
  | dict i => exact h2.elim
theorem sim_tval (ha : SimE X W e fa) (he : ∀ whole, isTrue e X.env whole = (do let v ← whole; standAt e.pos; holding [v] (truthy v)) := by intro _; rfl) : SimT X W e (tBool fa) := by
  obtain ⟨t, pa, ha⟩ := ha
  exact ⟨_, pt_val pa he, tBool_run ha⟩
theorem sim_tcmp {op : CmpOp} {r : R2} {g : PD → PD → Option Rc} (ho : OpR X (compareOp op) r) (hg : Op2 r g) (ha : SimE X W a fa) (hb : SimE X W b fb) (hm : behindInMarks op b = false) : SimT X W (.Compare a [op] [b] pos) (tBool (eOp2 g fa fb)) := by
  obtain ⟨ta, pa, ha⟩ := ha
  obtain ⟨tb, pb, hb⟩ := hb
  exact ⟨_, pt_cmpR ho pa pb hm, tBool_run (op2_run hg ha hb)⟩
/-- a op b op' c -/
def eChain (g g' : PD → PD → Option Rc) (a b c : M Rv) : M Rv := bnd a fun x => bnd b fun y => bnd (rdM x) fun d1 => bnd (rdM y) fun d2 => bnd (fin (g d1 d2)) fun z => bnd (rdM z) fun dz =>
  match dz with
  | .bool true => bnd c fun w => bnd (rdM y) fun d2' => bnd (rdM w) fun d3 => fin (g' d2' d3)
  | .bool false => retM (.val (.bool false))
  | _ => noM
theorem chain_run {r r' : R2} {g g' : PD → PD → Option Rc} {ta tb tc : TE} (hg : Op2 r g) (hg' : Op2 r' g') (ha : ∀ F A H σ ρ, ER X.K F A H σ ρ → ∀ Q : VK, Pst X.K X.mg W F A H σ ρ (RE F H σ) Q (fa ρ) → ta σ H Q) (hb : ∀ F A H σ ρ, ER X.K F A H σ ρ → ∀ Q : VK, Pst X.K X.mg W F A H σ ρ (RE F H σ) Q (fb ρ) → tb σ H Q)
    (hc : ∀ F A H σ ρ, ER X.K F A H σ ρ → ∀ Q : VK, Pst X.K X.mg W F A H σ ρ (RE F H σ) Q (fc ρ) → tc σ H Q) :
    ∀ F A H σ ρ, ER X.K F A H σ ρ → ∀ Q : VK, Pst X.K X.mg W F A H σ ρ (RE F H σ) Q (eChain g g' fa fb fc ρ) → tChain r r' ta tb tc σ H Q := by
  intro F A H σ ρ E Q h
  refine ha F A H σ ρ E _ (h.split fun x ρ1 A1 H1 v1 E1 S1 R1 h1 => ?_)
  refine hb F A1 H1 σ ρ1 E1 _ ((h1.after S1).split fun y ρ2 A2 H2 v2 E2 S2 R2 h2 => ?_)
  obtain ⟨d1, e1, h3⟩ := h2.rd
  obtain ⟨d2, e2, h4⟩ := h3.rd
  have R1' : RvR F H A2 H2 σ ρ2 v1 x := RvR.step E1 S2 R1
  cases ec : g d1 d2 with
  | none => unfold bnd fin at h4; rw [ec] at h4; exact h4.elim
  | some cc =>
    refine hg.run A2 H2 v1 v2 d1 d2 cc _ E2.dom (R1'.rt E2 e1) (RvR.rt E2 R2 e2) ec fun z H3 nz => ?_
    obtain ⟨E3, S3, R3⟩ := nz.rv (S1.trans S2).live E2
    unfold bnd fin at h4
    rw [ec] at h4
    have h5 := Pst.rd (k := fun dz => match dz with
      | .bool true => bnd fc fun w => bnd (rdM y) fun d2' => bnd (rdM w) fun d3 => DP.fin (g' d2' d3)
      | .bool false => retM (.val (.bool false))
      | _ => noM) (show Pst X.K X.mg W F A1 H1 σ ρ1 (RE F H σ) Q (bnd (rdM cc.rv) _ ρ2) from h4)
    obtain ⟨dz, e5, h6⟩ := h5
    have hz := R3.rt E3 e5
    cases dz with
    | bool k =>
      refine ⟨k, hz.bool, ?_⟩
      cases k with
      | false => exact h6 A2 H3 (.bl false) E3 (S2.trans S3) (.bl false)
      | true =>
        refine hc F A2 H3 σ ρ2 E3 _ ((h6.after (S2.trans S3)).split fun w ρ4 A4 H4 v4 E4 S4 R4 h7 => ?_)
        obtain ⟨d2', e6, h8⟩ := h7.rd
        obtain ⟨d3, e7, h9⟩ := h8.rd
        obtain ⟨c4, e8, h10⟩ := h9.fin' S4 E4 (S1.trans (S2.trans S3))
        have R2' : RvR F H1 A4 H4 σ ρ4 v2 y := RvR.step E2 (S3.trans S4) R2
        exact hg'.run A4 H4 v2 v4 d2' d3 c4 Q E4.dom (R2'.rt E4 e6) (RvR.rt E4 R4 e7) e8 h10
    | none => exact h6.elim
    | int i => exact h6.elim
    | str i => exact h6.elim
    | list i => exact h6.elim
    | tuple i => exact h6.elim
    | dict i => exact h6.elim
theorem sim_chain {op op' : CmpOp} {r r' : R2} {g g' : PD → PD → Option Rc} (ho : OpR X (compareOp op) r) (ho' : OpR X (compareOp op') r') (hg : Op2 r g) (hg' : Op2 r' g') (ha : SimE X W a fa) (hb : SimE X W b fb) (hc : SimE X W c fc)
    (hm : lastMarks [op, op'] [b, c] = false := by with_unfolding_all rfl) : SimE X W (.Compare a [op, op'] [b, c] pos) (eChain g g' fa fb fc) := by
  obtain ⟨ta, pa, ha⟩ := ha
  obtain ⟨tb, pb, hb⟩ := hb
  obtain ⟨tc, pc, hc⟩ := hc
  exact ⟨_, pe_chain ho ho' pa pb pc hm, chain_run hg hg' ha hb hc⟩
theorem sim_tchain {op op' : CmpOp} {r r' : R2} {g g' : PD → PD → Option Rc} (ho : OpR X (compareOp op) r) (ho' : OpR X (compareOp op') r') (hg : Op2 r g) (hg' : Op2 r' g') (ha : SimE X W a fa) (hb : SimE X W b fb) (hc : SimE X W c fc)
    (hm : lastMarks [op, op'] [b, c] = false := by with_unfolding_all rfl) : SimT X W (.Compare a [op, op'] [b, c] pos) (tBool (eChain g g' fa fb fc)) := by
  obtain ⟨ta, pa, ha⟩ := ha
  obtain ⟨tb, pb, hb⟩ := hb
  obtain ⟨tc, pc, hc⟩ := hc
  exact ⟨_, pt_chain ho ho' pa pb pc hm, tBool_run (chain_run hg hg' ha hb hc)⟩
/-! and, or, not -/
def tAndM (a b : M Bool) : M Bool := bnd a fun k => if k = true then b else retM false
def tOrM (a b : M Bool) : M Bool := bnd a fun k => if k = true then retM true else b
def tNotM (a : M Bool) : M Bool := bnd a fun k => retM (!k)
theorem sim_tnot (ha : SimT X W a ga) : SimT X W (.UnaryOp .Not a pos) (tNotM ga) := by
  obtain ⟨ta, pa, ha⟩ := ha
  refine ⟨_, pt_not pa, fun F A H σ ρ E Q h => ?_⟩
  refine ha F A H σ ρ E _ (h.split (RR1 := RT) fun k ρ1 A1 H1 k' E1 S1 R1 h1 => ?_)
  cases R1
  exact h1 A1 H1 _ E1 S1 rfl
theorem sim_wand1 (ha : SimT X W a ga) : SimW X W (.BoolOp .And [a] pos) ga := by
  obtain ⟨ta, pa, ha⟩ := ha
  exact ⟨_, pw_and1 pa, ha⟩
theorem sim_wor1 (ha : SimT X W a ga) : SimW X W (.BoolOp .Or [a] pos) ga := by
  obtain ⟨ta, pa, ha⟩ := ha
  exact ⟨_, pw_or1 pa, ha⟩
theorem sim_wand {rest : List Expr} (ha : SimT X W a ga) (hb : SimW X W (.BoolOp .And (b :: rest) pos) gb) : SimW X W (.BoolOp .And (a :: b :: rest) pos) (tAndM ga gb) := by
  obtain ⟨ta, pa, ha⟩ := ha
  obtain ⟨tb, pb, hb⟩ := hb
  refine ⟨_, pw_and pa pb, fun F A H σ ρ E Q h => ?_⟩
  refine ha F A H σ ρ E _ (h.split (RR1 := RT) fun k ρ1 A1 H1 k' E1 S1 R1 h1 => ?_)
  cases R1
  cases k with
  | true => exact hb F A1 H1 σ ρ1 E1 Q (h1.after S1)
  | false => exact h1 A1 H1 _ E1 S1 rfl
theorem sim_wor {rest : List Expr} (ha : SimT X W a ga) (hb : SimW X W (.BoolOp .Or (b :: rest) pos) gb) : SimW X W (.BoolOp .Or (a :: b :: rest) pos) (tOrM ga gb) := by
  obtain ⟨ta, pa, ha⟩ := ha
  obtain ⟨tb, pb, hb⟩ := hb
  refine ⟨_, pw_or pa pb, fun F A H σ ρ E Q h => ?_⟩
  refine ha F A H σ ρ E _ (h.split (RR1 := RT) fun k ρ1 A1 H1 k' E1 S1 R1 h1 => ?_)
  cases R1
  cases k with
  | false => exact hb F A1 H1 σ ρ1 E1 Q (h1.after S1)
  | true => exact h1 A1 H1 _ E1 S1 rfl
theorem SimW.t (h : SimW X W e ga) : SimT X W e ga := by
  obtain ⟨t, p, h⟩ := h
  exact ⟨t, p.pt, h⟩
/-- .. as values: the first a truth -/
def eAndV (a b : M Rv) : M Rv := bnd a fun x => bnd (rdM x) fun d =>
  match d with
  | .bool true => b
  | .bool false => retM (.val (.bool false))
  | _ => noM
def eOrV (a b : M Rv) : M Rv := bnd a fun x => bnd (rdM x) fun d =>
  match d with
  | .bool false => b
  | .bool true => retM (.val (.bool true))
  | _ => noM
def eNotV (a : M Rv) : M Rv := bnd a fun x => bnd (rdM x) fun d =>
  match d with
  | .bool k => retM (.val (.bool (!k)))
  | _ => noM
theorem sim_vone {op} (ha : SimE X W a fa) : SimE X W (.BoolOp op [a] pos) fa := by
  obtain ⟨ta, pa, ha⟩ := ha
  exact ⟨_, pe_one pa, ha⟩
theorem sim_vand {rest : List Expr} (ha : SimE X W a fa) (hb : SimE X W (.BoolOp .And (b :: rest) pos) fb) : SimE X W (.BoolOp .And (a :: b :: rest) pos) (eAndV fa fb) := by
  obtain ⟨ta, pa, ha⟩ := ha
  obtain ⟨tb, pb, hb⟩ := hb
  refine ⟨_, pe_and pa pb, fun F A H σ ρ E Q h => ?_⟩
  refine ha F A H σ ρ E _ (h.split fun x ρ1 A1 H1 v1 E1 S1 R1 h1 => ?_)
  obtain ⟨d, e1, h2⟩ := h1.rd
  have hz := RvR.rt E1 R1 e1
  cases d with
  | bool k =>
    refine ⟨k, hz.bool, ?_⟩
    cases k with
    | true => exact hb F A1 H1 σ ρ1 E1 Q ((h2.after S1).weak S1.live)
    | false => exact h2 A1 H1 _ E1 S1 (.bl false)
  | none => exact h2.elim
  | int i => exact h2.elim
  | str i => exact h2.elim
  | list i => exact h2.elim
  | tuple i => exact h2.elim
  | dict i => exact h2.elim
theorem sim_vor {rest : List Expr} (ha : SimE X W a fa) (hb : SimE X W (.BoolOp .Or (b :: rest) pos) fb) : SimE X W (.BoolOp .Or (a :: b :: rest) pos) (eOrV fa fb) := by
  obtain ⟨ta, pa, ha⟩ := ha
  obtain ⟨tb, pb, hb⟩ := hb
  refine ⟨_, pe_or pa pb, fun F A H σ ρ E Q h => ?_⟩
  refine ha F A H σ ρ E _ (h.split fun x ρ1 A1 H1 v1 E1 S1 R1 h1 => ?_)
  obtain ⟨d, e1, h2⟩ := h1.rd
  have hz := RvR.rt E1 R1 e1
  cases d with
  | bool k =>
    refine ⟨k, hz.bool, ?_⟩
    cases k with
    | false => exact hb F A1 H1 σ ρ1 E1 Q ((h2.after S1).weak S1.live)
    | true => exact h2 A1 H1 _ E1 S1 (.bl true)
  | none => exact h2.elim
  | int i => exact h2.elim
  | str i => exact h2.elim
  | list i => exact h2.elim
  | tuple i => exact h2.elim
  | dict i => exact h2.elim
theorem sim_vnot (ha : SimE X W a fa) : SimE X W (.UnaryOp .Not a pos) (eNotV fa) := by
  obtain ⟨ta, pa, ha⟩ := ha
  refine ⟨_, pe_not pa, fun F A H σ ρ E Q h => ?_⟩
  refine ha F A H σ ρ E _ (h.split fun x ρ1 A1 H1 v1 E1 S1 R1 h1 => ?_)
  obtain ⟨d, e1, h2⟩ := h1.rd
  have hz := RvR.rt E1 R1 e1
  cases d with
  | bool k => exact ⟨k, hz.bool, h2 A1 H1 _ E1 S1 (.bl _)⟩
  | none => exact h2.elim
  | int i => exact h2.elim
  | str i => exact h2.elim
  | list i => exact h2.elim
  | tuple i => exact h2.elim
  | dict i => exact h2.elim
def eIf (c : M Bool) (a b : M Rv) : M Rv := bnd c fun k => if k = true then a else b
theorem sim_ifx (hc : SimT X W c gc) (ha : SimE X W a fa) (hb : SimE X W b fb) : SimE X W (.IfExp c a b pos) (eIf gc fa fb) := by
  obtain ⟨tc, pc, hc⟩ := hc
  obtain ⟨ta, pa, ha⟩ := ha
  obtain ⟨tb, pb, hb⟩ := hb
  refine ⟨_, pe_ifExp pc pa pb, fun F A H σ ρ E Q h => ?_⟩
  refine hc F A H σ ρ E _ (h.split (RR1 := RT) fun k ρ1 A1 H1 k' E1 S1 R1 h1 => ?_)
  cases R1
  cases k with
  | true => exact ha F A1 H1 σ ρ1 E1 Q ((h1.after S1).weak S1.live)
  | false => exact hb F A1 H1 σ ρ1 E1 Q ((h1.after S1).weak S1.live)
/-- is None -/
def isNone : PD → Bool
  | .none => true
  | _ => false
theorem Rt.isN {A : AS} {H : Hp} {v : V} {d : PD} (h : Rt A H v d) : decide (v = .non) = isNone d := by
  rcases h with h | ⟨p, rfl, h⟩
  · cases h <;> rfl
  · cases d <;> first | rfl | exact h.elim
def eIsN (a : M Rv) : M Rv := bnd a fun x => bnd (rdM x) fun d => retM (.val (.bool (isNone d)))
def eNotN (a : M Rv) : M Rv := bnd a fun x => bnd (rdM x) fun d => retM (.val (.bool (!isNone d)))
theorem sim_isN {j pos'} (ha : SimE X W a fa) : SimE X W (.Compare a [.Is] [.Constant .none j pos'] pos) (eIsN fa) := by
  obtain ⟨ta, pa, ha⟩ := ha
  refine ⟨_, pe_cmp (pc_isN pa) rfl, fun F A H σ ρ E Q h => ?_⟩
  refine ha F A H σ ρ E _ (h.split fun x ρ1 A1 H1 v1 E1 S1 R1 h1 => ?_)
  obtain ⟨d, e1, h2⟩ := h1.rd
  have hz := (RvR.rt E1 R1 e1).isN
  rw [hz]
  exact h2 A1 H1 _ E1 S1 (.bl _)
theorem sim_notN {j pos'} (ha : SimE X W a fa) : SimE X W (.Compare a [.IsNot] [.Constant .none j pos'] pos) (eNotN fa) := by
  obtain ⟨ta, pa, ha⟩ := ha
  refine ⟨_, pe_cmp (pc_notN pa) rfl, fun F A H σ ρ E Q h => ?_⟩
  refine ha F A H σ ρ E _ (h.split fun x ρ1 A1 H1 v1 E1 S1 R1 h1 => ?_)
  obtain ⟨d, e1, h2⟩ := h1.rd
  have hz := (RvR.rt E1 R1 e1).isN
  rw [hz]
  exact h2 A1 H1 _ E1 S1 (.bl _)
theorem sim_tcmpV {op : CmpOp} (ha : SimE X W (.Compare a [op] [b] pos) fa) (hp : ∀ t, PE X (.Compare a [op] [b] pos) t → ∃ u, PC X op a b u ∧ u = t) (h1 : behindInMarks op b = false) : SimT X W (.Compare a [op] [b] pos) (tBool fa) := by
  obtain ⟨ta, pa, ha⟩ := ha
  obtain ⟨u, pu, rfl⟩ := hp ta pa
  exact ⟨_, pt_cmp pu h1, tBool_run ha⟩
theorem sim_tisN {j pos'} (ha : SimE X W a fa) : SimT X W (.Compare a [.Is] [.Constant .none j pos'] pos) (tBool (eIsN fa)) := by
  obtain ⟨ta, pa, ha⟩ := ha
  refine ⟨_, pt_cmp (pc_isN pa) rfl, tBool_run fun F A H σ ρ E Q h => ?_⟩
  refine ha F A H σ ρ E _ (h.split fun x ρ1 A1 H1 v1 E1 S1 R1 h1 => ?_)
  obtain ⟨d, e1, h2⟩ := h1.rd
  have hz := (RvR.rt E1 R1 e1).isN
  rw [hz]
  exact h2 A1 H1 _ E1 S1 (.bl _)
theorem sim_tnotN {j pos'} (ha : SimE X W a fa) : SimT X W (.Compare a [.IsNot] [.Constant .none j pos'] pos) (tBool (eNotN fa)) := by
  obtain ⟨ta, pa, ha⟩ := ha
  refine ⟨_, pt_cmp (pc_notN pa) rfl, tBool_run fun F A H σ ρ E Q h => ?_⟩
  refine ha F A H σ ρ E _ (h.split fun x ρ1 A1 H1 v1 E1 S1 R1 h1 => ?_)
  obtain ⟨d, e1, h2⟩ := h1.rd
  have hz := (RvR.rt E1 R1 e1).isN
  rw [hz]
  exact h2 A1 H1 _ E1 S1 (.bl _)
/-! ### targets -/
def SimG (X : Cx) (tg : Expr) (g : PD → Dn → Option Dn) (is : List Nat) : Prop := ∃ t : TG, PG X tg t ∧ ∀ F A H σ ρ v d ρ' (Q : L2.St → Hp → Prop), ER X.K F A H σ ρ → Rp A H v d → g d ρ = some ρ' →
  (∀ σ', ER X.K F A H σ' ρ' → (∀ j, j ∉ is → σ'[j]? = σ[j]? ∧ ρ'[j]? = ρ[j]?) → (∀ j, j ∈ is → ∃ d, ρ'[j]? = some (some (.imm d))) → σ'.length = σ.length → Q σ' H) → t v σ H Q
def gNm (i : Nat) : PD → Dn → Option Dn := fun d ρ => if freeSl ρ i = true then some (ρ.set i (some (.imm d))) else none
theorem sim_gname {i : Nat} {x : Str} (hN : X.N.Nodup) (hi : X.N[i]? = some x) (hx : Loc X.env.scope x) (hf : X.fn x = true ∨ X.env.scope.names.lookup x = some .local := by first | exact .inl rfl | exact .inr rfl | assumption) : SimG X (.Name x pos) (gNm i) [i] := by
  refine ⟨_, pg_name hN hi hx hf, fun F A H σ ρ v d ρ' Q E R hg k => ?_⟩
  unfold gNm at hg
  split at hg
  · rename_i h
    cases hg
    exact k _ (E.setImm h R) (fun j hj => ⟨List.getElem?_set_ne (fun e => hj (by simp [e])), List.getElem?_set_ne (fun e => hj (by simp [e]))⟩) (fun j hj => by
      have e : j = i := by simpa using hj
      subst e
      exact ⟨d, get_set_self (freeSl_lt h)⟩) (by simp)
  · cases hg
def SimGs (X : Cx) (tgs : List Expr) (g : List PD → Dn → Option Dn) (is : List Nat) : Prop := ∃ t : TGs, PGs X tgs t ∧ ∀ F A H σ ρ vs ds ρ' (Q : L2.St → Hp → Prop), ER X.K F A H σ ρ → RpAll A H vs ds → g ds ρ = some ρ' →
  (∀ σ', ER X.K F A H σ' ρ' → (∀ j, j ∉ is → σ'[j]? = σ[j]? ∧ ρ'[j]? = ρ[j]?) → (∀ j, j ∈ is → ∃ d, ρ'[j]? = some (some (.imm d))) → σ'.length = σ.length → Q σ' H) → t vs σ H Q
def gsNil : List PD → Dn → Option Dn := fun ds ρ =>
  match ds with
  | [] => some ρ
  | _ => none
def gsCons (g : PD → Dn → Option Dn) (gs : List PD → Dn → Option Dn) : List PD → Dn → Option Dn := fun ds ρ =>
  match ds with
  | d :: ds => match g d ρ with
    | some ρ1 => gs ds ρ1
    | none => none
  | [] => none
theorem sim_gsnil : SimGs X [] gsNil [] := by
  refine ⟨_, pgs_nil, fun F A H σ ρ vs ds ρ' Q E R hg k => ?_⟩
  cases R with
  | nil => cases hg; exact ⟨rfl, k σ E (fun _ _ => ⟨rfl, rfl⟩) (fun _ h => nomatch h) rfl⟩
  | cons _ _ => cases hg
theorem sim_gscons {t : Expr} {ts : List Expr} {g : PD → Dn → Option Dn} {gs : List PD → Dn → Option Dn} {is js : List Nat} (h1 : SimG X t g is) (h2 : SimGs X ts gs js) (hs : (assignEach (t :: ts) X.env).map (·.2) = assign t X.env :: (assignEach ts X.env).map (·.2) := by rfl) : SimGs X (t :: ts) (gsCons g gs) (is ++ js) := by
  obtain ⟨tt, pt, h1⟩ := h1
  obtain ⟨tts, pts, h2⟩ := h2
  refine ⟨_, pgs_cons pt pts hs, fun F A H σ ρ vs ds ρ' Q E R hg k => ?_⟩
  cases R with
  | nil => cases hg
  | @cons v vs d ds r rs =>
    simp only [gsCons] at hg
    cases e1 : g d ρ with
    | none => rw [e1] at hg; cases hg
    | some ρ1 =>
      rw [e1] at hg
      refine ⟨v, vs, rfl, h1 F A H σ ρ v d ρ1 _ E r e1 fun σ1 E1 n1 m1 l1 => ?_⟩
      exact h2 F A H σ1 ρ1 vs ds ρ' Q E1 rs hg fun σ2 E2 n2 m2 l2 => k σ2 E2 (fun j hj => by
        simp only [List.mem_append, not_or] at hj
        rw [(n2 j hj.2).1, (n1 j hj.1).1, (n2 j hj.2).2, (n1 j hj.1).2]
        exact ⟨rfl, rfl⟩) (fun j hj => by
        by_cases hjs : j ∈ js
        · exact m2 j hjs
        · rw [(n2 j hjs).2]
          exact m1 j ((List.mem_append.mp hj).resolve_right hjs)) (l2.trans l1)
def gTupM (gs : List PD → Dn → Option Dn) : PD → Dn → Option Dn := fun d ρ =>
  match d with
  | .tuple ds => gs ds ρ
  | _ => none
theorem sim_gtup {es : List Expr} {k : Nat} {gs : List PD → Dn → Option Dn} {is : List Nat} (hc : X.calm = true) (h : SimGs X es gs is) {n : Nat} (hl : ∀ ds ρ ρ', gs ds ρ = some ρ' → ds.length = n) (hn : (assignEach es X.env).length = n := by rfl) (hst : (assignEach es X.env).findIdx? (·.1) = none := by rfl) :
    SimG X (.Tuple es k pos) (gTupM gs) is := by
  obtain ⟨t, p, h⟩ := h
  refine ⟨_, pg_tup hc p hn hst, fun F A H σ ρ v d ρ' Q E R hg k => ?_⟩
  cases R with
  | tup e r => exact ⟨_, _, rfl, SqT.of e, by rw [r.length]; exact hl _ _ _ hg, h F A H σ ρ _ _ ρ' Q E r hg k⟩
  | _ => cases hg
end
end DP
/-! DPS: statements, loops, comprehensions. -/
namespace DP
open PySem L2
inductive Ou where
  | nx (ρ : Dn)
  | rt (r : Rv) (ρ : Dn)
  | bk (ρ : Dn)
  | ct (ρ : Dn)
  | ex (e : Exn) (ρ : Dn)
  | no
abbrev SM := Dn → Ou
def bndS {α : Type} (m : M α) (k : α → SM) : SM := fun ρ =>
  match m ρ with
  | .ok a ρ' => k a ρ'
  | .ex e ρ' => .ex e ρ'
  | .no => .no
def PstS (K : PySem.W.Frag) (mg : Str → Option Value) (W : WX) (F : Ent) (A : AS) (H : Hp) (D : Ends) : Ou → Prop
  | .nx ρ' => ∀ A' H' σ', ER K F A' H' σ' ρ' → Kp A A' H H' → D.nx σ' H'
  | .rt r ρ' => ∀ A' H' σ' v, ER K F A' H' σ' ρ' → Kp A A' H H' → RvR F F.H A' H' σ' ρ' v r → D.rt v H'
  | .bk ρ' => ∀ A' H' σ', ER K F A' H' σ' ρ' → Kp A A' H H' → D.bk σ' H'
  | .ct ρ' => ∀ A' H' σ', ER K F A' H' σ' ρ' → Kp A A' H H' → D.ct σ' H'
  | .ex e ρ' => ∀ A' H' σ' cls d, ER K F A' H' σ' ρ' → Kp A A' H H' → XR mg A' H' e cls d → W cls d σ' H'
  | .no => False
section
variable {K : PySem.W.Frag} {mg : Str → Option Value} {W : WX} {F : Ent} {A : AS} {H : Hp} {σ : L2.St} {ρ : Dn} {D : Ends} {α β : Type}
theorem Kp.refl : Kp A A H H := ⟨fun _ h => h, fun _ _ _ e => e, fun _ _ e => e⟩
theorem Kp.trans {A1 A2 : AS} {H1 H2 : Hp} (k : Kp A A1 H H1) (l : Kp A1 A2 H1 H2) : Kp A A2 H H2 := ⟨fun a h => l.sub a (k.sub a h), fun a o h e => l.obj a o (k.sub a h) (k.obj a o h e), fun a xs e => l.tup a xs (k.tup a xs e)⟩
theorem PstS.after {A1 : AS} {H1 : Hp} {o : Ou} (k : Kp A A1 H H1) (h : PstS K mg W F A H D o) : PstS K mg W F A1 H1 D o := by
  cases o with
  | nx ρ' => exact fun A' H' σ' E l => h A' H' σ' E (k.trans l)
  | rt r ρ' => exact fun A' H' σ' v E l R => h A' H' σ' v E (k.trans l) R
  | bk ρ' => exact fun A' H' σ' E l => h A' H' σ' E (k.trans l)
  | ct ρ' => exact fun A' H' σ' E l => h A' H' σ' E (k.trans l)
  | ex e ρ' => exact fun A' H' σ' c d E l R => h A' H' σ' c d E (k.trans l) R
  | no => exact h
theorem PstS.split {RR : AS → Hp → Dn → β → α → Prop} {Q1 : β → Hp → Prop} {m : M α} {k : α → SM} (E : ER K F A H σ ρ) (h : PstS K mg W F A H D (bndS m k ρ))
    (hk : ∀ a ρ1 A1 H1 b, ER K F A1 H1 σ ρ1 → Step A H σ ρ A1 H1 ρ1 → RR A1 H1 ρ1 b a → PstS K mg W F A H D (k a ρ1) → Q1 b H1) : Pst K mg W F A H σ ρ RR Q1 (m ρ) := by
  unfold bndS at h
  cases e : m ρ with
  | ok a ρ1 =>
    rw [e] at h
    exact fun A1 H1 b E S R => hk a ρ1 A1 H1 b E S R h
  | ex x ρ1 =>
    rw [e] at h
    exact fun A1 H1 cls d E1 S1 X => h A1 H1 σ cls d E1 (S1.kpr E) X
  | no => rw [e] at h; exact h
theorem PstS.rd {r : Rv} {k : PD → SM} (h : PstS K mg W F A H D (bndS (rdM r) k ρ)) : ∃ d, rd r ρ = some d ∧ PstS K mg W F A H D (k d ρ) := by
  unfold bndS rdM at h
  cases e : DP.rd r ρ with
  | none => rw [e] at h; exact h.elim
  | some d => rw [e] at h; exact ⟨d, rfl, h⟩
theorem PstS.frz {A0 : AS} {H0 : Hp} {ρ0 : Dn} {r : Rv} {v : V} {k : PD → SM} (E : ER K F A H σ ρ) (S : Step A0 H0 σ ρ0 A H ρ) (R : RvR F H0 A H σ ρ v r) (h : PstS K mg W F A0 H0 D (bndS (DP.frz r) k ρ)) :
    ∃ d A2 ρ2, ER K F A2 H σ ρ2 ∧ Step A0 H0 σ ρ0 A2 H ρ2 ∧ Rp A2 H v d ∧ PstS K mg W F A0 H0 D (k d ρ2) := by
  unfold bndS at h
  rcases frz_ok (r := r) (ρ := ρ) rfl with e | ⟨d, ρ2, e⟩
  · rw [e] at h; exact h.elim
  · rw [e] at h
    obtain ⟨A2, E2, S2, R2, _⟩ := frz_run E S R.q e
    exact ⟨d, A2, ρ2, E2, S2, R2, h⟩
theorem PstS.chk {b : Bool} {k : Unit → SM} (h : PstS K mg W F A H D (bndS (DP.chk b) k ρ)) : b = true ∧ PstS K mg W F A H D (k () ρ) := by
  unfold bndS DP.chk at h
  cases b with
  | false => exact h.elim
  | true => exact ⟨rfl, h⟩
end
def SimS (X : Cx) (W : WX) (st : Stmt) (s : SM) : Prop := ∃ t : TS, PS X st t ∧ ∀ F A H σ ρ D, ER X.K F A H σ ρ → PstS X.K X.mg W F A H D (s ρ) → t D σ H
def SimB (X : Cx) (W : WX) (st : List Stmt) (s : SM) : Prop := ∃ t : TS, PSs X st t ∧ ∀ F A H σ ρ D, ER X.K F A H σ ρ → PstS X.K X.mg W F A H D (s ρ) → t D σ H
def sNil : SM := fun ρ => .nx ρ
def sSeq (a b : SM) : SM := fun ρ =>
  match a ρ with
  | .nx ρ' => b ρ'
  | o => o
section
variable {X : Cx} {W : WX} {st : Stmt} {rest : List Stmt} {a b : SM} {e : Expr} {fe : M Rv} {gc : M Bool} {pos : Pos}
theorem sim_nil : SimB X W [] sNil := ⟨_, pss_nil, fun F A H σ ρ D E h => h A H σ E Kp.refl⟩
theorem sim_one (h : SimS X W st a) : SimB X W [st] a := by
  obtain ⟨t, p, h⟩ := h
  exact ⟨_, pss_one p, h⟩
theorem sim_seq (h1 : SimS X W st a) (h2 : SimB X W rest b) : SimB X W (st :: rest) (sSeq a b) := by
  obtain ⟨t, p, h1⟩ := h1
  obtain ⟨u, q, h2⟩ := h2
  refine ⟨_, pss_cons p q, fun F A H σ ρ D E h => h1 F A H σ ρ _ E ?_⟩
  unfold sSeq at h
  cases e1 : a ρ with
  | nx ρ' => rw [e1] at h; exact fun A' H' σ' E' k => h2 F A' H' σ' ρ' D E' (h.after k)
  | rt r ρ' => rw [e1] at h; exact h
  | bk ρ' => rw [e1] at h; exact h
  | ct ρ' => rw [e1] at h; exact h
  | ex x ρ' => rw [e1] at h; exact h
  | no => rw [e1] at h; exact h
def sPass : SM := fun ρ => .nx ρ
def sBreak : SM := fun ρ => .bk ρ
def sCont : SM := fun ρ => .ct ρ
theorem sim_pass : SimS X W (.Pass pos) sPass := ⟨_, ps_pass, fun F A H σ ρ D E h => h A H σ E Kp.refl⟩
theorem sim_break : SimS X W (.Break pos) sBreak := ⟨_, ps_break, fun F A H σ ρ D E h => h A H σ E Kp.refl⟩
theorem sim_cont : SimS X W (.Continue pos) sCont := ⟨_, ps_continue, fun F A H σ ρ D E h => h A H σ E Kp.refl⟩
def sRet (f : M Rv) : SM := bndS f fun r ρ => .rt r ρ
theorem ER.lives {K : PySem.W.Frag} {F : Ent} {A : AS} {H : Hp} {σ : L2.St} {ρ : Dn} (E : ER K F A H σ ρ) : ∀ b, H b = none → F.H b = none := fun b e => E.fnone e
theorem sim_ret (h : SimE X W e fe) : SimS X W (.Return (some e) pos) (sRet fe) := by
  obtain ⟨t, p, h⟩ := h
  refine ⟨_, ps_ret p, fun F A H σ ρ D E hs => ?_⟩
  refine h F A H σ ρ E D.rt (PstS.split E hs fun r ρ1 A1 H1 v E1 S1 R1 h1 => ?_)
  exact h1 A1 H1 σ v E1 (S1.kpr E) (RvR.back E.lives R1)
def sRetN : SM := fun ρ => .rt (.val .none) ρ
theorem sim_retN : SimS X W (.Return none pos) sRetN := ⟨_, ps_retN, fun F A H σ ρ D E h => h A H σ .non E Kp.refl .non⟩
def sExpr (f : M Rv) : SM := bndS f fun _ ρ => .nx ρ
theorem sim_expr (h : SimE X W e fe) (hs : swapsWith e none pos.line X.env = pure false := by rfl) : SimS X W (.Expr e pos) (sExpr fe) := by
  obtain ⟨t, p, h⟩ := h
  refine ⟨_, ps_expr p hs, fun F A H σ ρ D E hs => ?_⟩
  exact h F A H σ ρ E _ (PstS.split E hs fun r ρ1 A1 H1 v E1 S1 R1 h1 => h1 A1 H1 σ E1 (S1.kpr E))
def sIf (c : M Bool) (a b : SM) : SM := bndS c fun k => if k = true then a else b
theorem sim_if {c : Expr} {sa sb : List Stmt} (hc : SimT X W c gc) (ha : SimB X W sa a) (hb : SimB X W sb b) : SimS X W (.If c sa sb pos) (sIf gc a b) := by
  obtain ⟨tc, pc, hc⟩ := hc
  obtain ⟨ta, pa, ha⟩ := ha
  obtain ⟨tb, pb, hb⟩ := hb
  refine ⟨_, ps_if pc pa pb, fun F A H σ ρ D E h => ?_⟩
  refine hc F A H σ ρ E _ (PstS.split (RR := RT) E h fun k ρ1 A1 H1 k' E1 S1 R1 h1 => ?_)
  cases R1
  cases k with
  | true => exact ha F A1 H1 σ ρ1 D E1 (h1.after (S1.kpr E))
  | false => exact hb F A1 H1 σ ρ1 D E1 (h1.after (S1.kpr E))
/-- a store of a value on the way to a slot -/
def putR (i : Nat) (r : Rv) : SM := fun ρ =>
  if freeSl ρ i = true then
    match r with
    | .val d => .nx (ρ.set i (some (.imm d)))
    | .fresh d => .nx (ρ.set i (some (.own false d)))
    | .slot j => match ρ[j]? with
      | some (some (.imm d)) => .nx (ρ.set i (some (.imm d)))
      | some (some (.own false d)) => .nx ((ρ.set j (some (.imm d))).set i (some (.imm d)))
      | _ => .no
  else .no
theorem putR_run {K : PySem.W.Frag} {mg : Str → Option Value} {F : Ent} {Z : Hp} {A : AS} {H : Hp} {σ : L2.St} {ρ : Dn} {v : V} {r : Rv} {i : Nat} {D : Ends} {A0 : AS} {H0 : Hp} (k : Kp A0 A H0 H) (E : ER K F A H σ ρ) (R : RvR F Z A H σ ρ v r) (h : PstS K mg W F A0 H0 D (putR i r ρ)) : D.nx (σ.set i (some v)) H := by
  unfold putR at h
  split at h
  · rename_i hf
    cases r with
    | val d => exact h A H _ (E.setImm hf R) k
    | fresh d =>
      obtain ⟨p, rfl, ⟨h1, h2, h3, _⟩, h4⟩ := R
      exact h A H _ (E.setOwn hf h1 h2 h3 h4) k
    | slot j =>
      obtain ⟨e1, s, e2⟩ := R
      simp only [e2] at h
      obtain ⟨v', e3, r⟩ := E.slot j s e2
      rw [e1] at e3
      cases e3
      cases s with
      | imm d => exact h A H _ (E.setImm hf r) k
      | own b d =>
        cases b with
        | true => exact h.elim
        | false =>
          obtain ⟨p, rfl, _⟩ := r
          obtain ⟨E2, S2, R2⟩ := E.freezeSlot e2 e1
          refine h (plus A p) H _ (E2.setImm ?_ R2) (k.trans Kp.plus)
          unfold freeSl at hf ⊢
          by_cases hj : j = i
          · subst hj
            rw [get_set_self (by exact (List.getElem?_eq_some_iff.mp e2).1)]
          · rw [get_set_ne hj]
            exact hf
      | scr ns => exact h.elim
  · exact h.elim
def sSet (i : Nat) (f : M Rv) : SM := bndS f fun r => putR i r
theorem sim_set {i : Nat} {x : Str} {pos' : Pos} (hN : X.N.Nodup) (hi : X.N[i]? = some x) (hx : Loc X.env.scope x) (h : SimE X W e fe) (hs : swapsWith e (some (.Name x pos')) pos.line X.env = pure false := by rfl) (hf : X.fn x = true ∨ X.env.scope.names.lookup x = some .local := by first | exact .inl rfl | exact .inr rfl | assumption) :
    SimS X W (.Assign [.Name x pos'] e pos) (sSet i fe) := by
  obtain ⟨t, p, h⟩ := h
  refine ⟨_, ps_set hN hi hx p hs hf, fun F A H σ ρ D E h1 => ?_⟩
  exact h F A H σ ρ E _ (PstS.split E h1 fun r ρ1 A1 H1 v E1 S1 R1 h2 => putR_run (S1.kpr E) E1 R1 h2)
/-- a target of another form -/
def sAsg (f : M Rv) (g : PD → Dn → Option Dn) : SM := bndS f fun r => bndS (frz r) fun d ρ =>
  match g d ρ with
  | some ρ' => .nx ρ'
  | none => .no
theorem sim_asg {tg : Expr} {g : PD → Dn → Option Dn} {is : List Nat} (he : SimE X W e fe) (hg : SimG X tg g is) (hs : swapsWithSole [tg] e pos.line X.env = pure false := by rfl) (hw : swappedStores [tg] e X.env = pure none := by rfl)
    (h1 : (assignEach [tg] X.env).map (·.2) = [assign tg X.env] := by rfl) : SimS X W (.Assign [tg] e pos) (sAsg fe g) := by
  obtain ⟨t, p, h⟩ := he
  obtain ⟨u, q, hg⟩ := hg
  refine ⟨_, ps_asg p q hs hw h1, fun F A H σ ρ D E h1 => ?_⟩
  refine h F A H σ ρ E _ (PstS.split E h1 fun r ρ1 A1 H1 v E1 S1 R1 h2 => ?_)
  obtain ⟨d, A2, ρ2, E2, S2, R2, h3⟩ := h2.frz E1 S1 R1
  cases eg : g d ρ2 with
  | none => rw [eg] at h3; exact h3.elim
  | some ρ3 =>
    rw [eg] at h3
    exact hg F A2 H1 σ ρ2 v d ρ3 _ E2 R2 eg fun σ' E' _ _ _ => h3 A2 H1 σ' E' (S2.kpr E)
/-! loops -/
def ItR (A : AS) (H : Hp) (J : It) (ds : List PD) : Prop := ∀ A' H', Kp A A' H H' → (∀ a, A' a → H' a ≠ none) → J.stop ds.length H' ∧ ∀ i d, ds[i]? = some d → J.go i H' ∧ ∀ x H'', J.yld i H' x H'' → (∀ b o, H' b = some o → H'' b = some o) ∧ Rp A' H'' x d
def SimI (X : Cx) (W : WX) (tg iter : Expr) (it : M (List PD)) : Prop := ∃ w : TI, PI X tg iter w ∧ ∀ F A H σ ρ, ER X.K F A H σ ρ → ∀ R : It → Hp → Prop, Pst X.K X.mg W F A H σ ρ (fun A' H' _ J ds => ItR A' H' J ds) R (it ρ) → w σ H R
def forL (g : PD → Dn → Option Dn) (body : SM) : List PD → SM
  | [] => fun ρ => .nx ρ
  | d :: ds => fun ρ =>
    match g d ρ with
    | none => .no
    | some ρ1 => match body ρ1 with
      | .nx ρ2 => forL g body ds ρ2
      | .ct ρ2 => forL g body ds ρ2
      | .bk ρ2 => .nx ρ2
      | .rt r ρ2 => .rt r ρ2
      | .ex x ρ2 => .ex x ρ2
      | .no => .no
def sFor (it : M (List PD)) (g : PD → Dn → Option Dn) (body : SM) : SM := bndS it fun ds => forL g body ds
end
end DP
/-! DPT: loops, iterators, comprehensions, stores into things. -/
namespace DP
open PySem L2
section
variable {X : Cx} {W : WX} {e tg iter : Expr} {body : List Stmt} {fe : M Rv} {gc : M Bool} {b : SM} {it : M (List PD)} {g : PD → Dn → Option Dn} {is : List Nat} {pos : Pos}
theorem ItR.kp {A A' : AS} {H H' : Hp} {J : It} {ds : List PD} (k : Kp A A' H H') (h : ItR A H J ds) : ItR A' H' J ds := fun A2 H2 k2 d => h A2 H2 (k.trans k2) d
theorem sim_for (hp : PassesOwn (model X.prog X.w) X.A X.env X.xe) (hc : X.calm = true) (hi : SimI X W tg iter it) (hg : SimG X tg g is) (hb : SimB X W body b) (hs : ∀ x, foldedSetIterable iter X.env x = pure x := by intro _; rfl) : SimS X W (.For tg iter body [] pos) (sFor it g b) := by
  obtain ⟨w, pi, hi⟩ := hi
  obtain ⟨tg', pg, hg⟩ := hg
  obtain ⟨tb, pb, hb⟩ := hb
  refine ⟨_, ps_for hp hc pi pg pb hs, fun F A H σ ρ D E h => ?_⟩
  refine hi F A H σ ρ E _ (PstS.split (RR := fun A' H' _ J ds => ItR A' H' J ds) E h fun ds ρ1 A1 H1 J E1 S1 I1 h1 => ?_)
  refine ⟨fun i m σ' H' => m = ds.length - i ∧ i ≤ ds.length ∧ ∃ A' ρ', ER X.K F A' H' σ' ρ' ∧ Kp A1 A' H1 H' ∧ PstS X.K X.mg W F A' H' D (forL g b (ds.drop i) ρ'), ⟨ds.length, by simp, Nat.zero_le _, A1, ρ1, E1, Kp.refl, by simpa using h1.after (S1.kpr E)⟩, ?_⟩
  rintro i m σ2 H2 ⟨rfl, hi2, A2, ρ2, E2, k2, h2⟩
  obtain ⟨hstop, hgo⟩ := (I1.kp k2) A2 H2 Kp.refl E2.dom
  by_cases hlt : i < ds.length
  · have hd : ds[i]? = some ds[i] := by simp [hlt]
    obtain ⟨go, yld⟩ := hgo i _ hd
    have hdrop : ds.drop i = ds[i] :: ds.drop (i + 1) := List.drop_eq_getElem_cons hlt
    rw [hdrop] at h2
    simp only [forL] at h2
    refine .inr ⟨go, fun σ' H' => ∃ A' ρ', ER X.K F A' H' σ' ρ' ∧ Kp A1 A' H1 H' ∧ PstS X.K X.mg W F A' H' D (forL g b (ds.drop (i + 1)) ρ'), fun σ' H' ⟨A', ρ', x, y, z⟩ => ⟨ds.length - (i + 1), by omega, rfl, hlt, A', ρ', x, y, z⟩, fun x H3 y3 => ?_⟩
    obtain ⟨k3, r3⟩ := yld x H3 y3
    have E3 := E2.ext k3
    cases eg : g ds[i] ρ2 with
    | none => rw [eg] at h2; exact h2.elim
    | some ρ3 =>
      rw [eg] at h2
      dsimp only at h2
      refine hg F A2 H3 σ2 ρ2 x ds[i] ρ3 _ E3 r3 eg fun σ3 E4 _ _ _ => ?_
      have kk : Kp A2 A2 H2 H3 := Kp.ext k3
      have h4 := PstS.after kk h2
      refine hb F A2 H3 σ3 ρ3 _ E4 ?_
      cases eb : b ρ3 with
      | nx ρ4 =>
        rw [eb] at h4
        exact fun A' H' σ' E' l => ⟨A', ρ4, E', (k2.trans kk).trans l, PstS.after l h4⟩
      | ct ρ4 =>
        rw [eb] at h4
        exact fun A' H' σ' E' l => ⟨A', ρ4, E', (k2.trans kk).trans l, PstS.after l h4⟩
      | bk ρ4 => rw [eb] at h4; exact h4
      | rt r ρ4 => rw [eb] at h4; exact h4
      | ex x ρ4 => rw [eb] at h4; exact h4
      | no => rw [eb] at h4; exact h4
  · have e : i = ds.length := by omega
    subst e
    refine .inl ⟨hstop, ?_⟩
    rw [List.drop_length] at h2
    exact h2 A2 H2 σ2 E2 Kp.refl
/-! while -/
def whL (c : M Bool) (body : SM) : Nat → SM
  | 0 => fun _ => .no
  | n + 1 => fun ρ =>
    match c ρ with
    | .no => .no
    | .ex e ρ1 => .ex e ρ1
    | .ok false ρ1 => .nx ρ1
    | .ok true ρ1 => match body ρ1 with
      | .nx ρ2 => whL c body n ρ2
      | .ct ρ2 => whL c body n ρ2
      | .bk ρ2 => .nx ρ2
      | .rt r ρ2 => .rt r ρ2
      | .ex x ρ2 => .ex x ρ2
      | .no => .no
theorem sim_while (n : Nat) {c : Expr} (hp : PassesOwn (model X.prog X.w) X.A X.env X.xe) (hc : SimT X W c gc) (hb : SimB X W body b) : SimS X W (.While c body [] pos) (whL gc b n) := by
  obtain ⟨tc, pc, hc⟩ := hc
  obtain ⟨tb, pb, hb⟩ := hb
  refine ⟨_, ps_while hp pc pb, fun F A H σ ρ D E h => ?_⟩
  refine ⟨fun m σ' H' => ∃ A' ρ', ER X.K F A' H' σ' ρ' ∧ PstS X.K X.mg W F A' H' D (whL gc b m ρ'), ⟨n, A, ρ, E, h⟩, ?_⟩
  rintro m σ1 H1 ⟨A1, ρ1, E1, h1⟩
  cases m with
  | zero => exact h1.elim
  | succ m =>
    simp only [whL] at h1
    refine hc F A1 H1 σ1 ρ1 E1 _ ?_
    cases ec : gc ρ1 with
    | no => rw [ec] at h1; exact h1.elim
    | ex x ρ2 =>
      rw [ec] at h1
      exact fun A' H' cls d E' S' R' => h1 A' H' σ1 cls d E' (S'.kpr E1) R'
    | ok k ρ2 =>
      rw [ec] at h1
      intro A2 H2 k' E2 S2 R2
      cases R2
      have h2 := PstS.after (S2.kpr E1) h1
      cases k with
      | false => exact h2 A2 H2 σ1 E2 Kp.refl
      | true =>
        refine ⟨fun σ' H' => ∃ A' ρ', ER X.K F A' H' σ' ρ' ∧ PstS X.K X.mg W F A' H' D (whL gc b m ρ'), fun σ' H' z => ⟨m, Nat.lt_succ_self m, z⟩, ?_⟩
        refine hb F A2 H2 σ1 ρ2 _ E2 ?_
        simp only at h2
        cases eb : b ρ2 with
        | nx ρ4 =>
          rw [eb] at h2
          exact fun A' H' σ' E' l => ⟨A', ρ4, E', PstS.after l h2⟩
        | ct ρ4 =>
          rw [eb] at h2
          exact fun A' H' σ' E' l => ⟨A', ρ4, E', PstS.after l h2⟩
        | bk ρ4 => rw [eb] at h2; exact h2
        | rt r ρ4 => rw [eb] at h2; exact h2
        | ex x ρ4 => rw [eb] at h2; exact h2
        | no => rw [eb] at h2; exact h2
end
/-! ### what is walked -/
section
variable {X : Cx} {W : WX} {e tg : Expr} {fe : M Rv} {pos : Pos}
theorem It_list {K : PySem.W.Frag} {A : AS} {H : Hp} {a : Addr} {xs : List V} {ds : List PD} (ha : A a) (h : H a = some (.lst xs)) (r : RpAll A H xs ds) : ItR A H (Itl K a) ds := by
  intro A' H' k d
  have h' : Rd H' a (.lst xs) := .inl (k.obj _ _ ha h)
  have r' := r.kp k
  refine ⟨⟨xs, .inl h', by rw [r.length]; exact Nat.le_refl _⟩, fun i d hd => ?_⟩
  obtain ⟨x, e, rx⟩ : ∃ x, xs[i]? = some x ∧ Rp A' H' x d := RpAll.get r' hd
  exact ⟨⟨xs, x, .inl h', e⟩, fun y H'' ⟨e2, y2⟩ => by
    subst e2
    have := y2 xs (.inl h')
    rw [e] at this
    cases this
    exact ⟨fun _ _ z => z, rx⟩⟩
theorem It_tup {K : PySem.W.Frag} {A : AS} {H : Hp} {a : Addr} {xs : List V} {ds : List PD} (h : H a = some (.tup xs)) (r : RpAll A H xs ds) : ItR A H (Itt K a) ds := by
  intro A' H' k d
  have h' := k.tup _ _ h
  have r' := r.kp k
  refine ⟨⟨xs, SqT.of h', by rw [r.length]; exact Nat.le_refl _⟩, fun i d hd => ?_⟩
  obtain ⟨x, e, rx⟩ : ∃ x, xs[i]? = some x ∧ Rp A' H' x d := RpAll.get r' hd
  exact ⟨⟨xs, x, SqT.of h', e⟩, fun y H'' ⟨e2, y2⟩ => by
    subst e2
    have := y2 xs (SqT.of h')
    rw [e] at this
    cases this
    exact ⟨fun _ _ z => z, rx⟩⟩
theorem It_rng {A : AS} {H : Hp} (lo : Int) (n : Nat) : ItR A H (Itr lo n) (List.map (fun (i : Nat) => PyData.int (lo + (i : Int))) (List.range n)) := by
  intro A' H' k d
  refine ⟨by show n ≤ _; simp, fun i d hd => ?_⟩
  rw [List.getElem?_map] at hd
  cases e : (List.range n)[i]? with
  | none => rw [e] at hd; cases hd
  | some j =>
    rw [e] at hd
    cases hd
    obtain ⟨h1, h2⟩ := List.getElem?_eq_some_iff.mp e
    have h3 : i < n := by simpa using h1
    have h4 : i = j := by simpa using h2
    subst h4
    exact ⟨h3, fun y H'' ⟨e1, e2⟩ => by subst e1 e2; exact ⟨fun _ _ z => z, .int _⟩⟩
/-- a list or a tuple, walked -/
def iSeq (K : PySem.W.Frag) (te : TE) : TI := fun σ H R => te σ H fun x H1 => ∃ a, x = .ref a ∧ (((∃ xs, SqL K H1 a xs) ∧ R (Itl K a) H1) ∨ ((∃ xs, SqT K H1 a xs) ∧ R (Itt K a) H1))
theorem pi_seq {l : Expr} {tl : TE} (hl : PE X l tl) : PI X tg l (iSeq X.K tl) := by
  refine ⟨fun pins s σ H R I h => ?_⟩
  refine thn (hl.run pins s σ H _ I h) fun v s1 ⟨x, H1, I1, r1, q1⟩ => ?_
  obtain ⟨a, e, q⟩ := q1
  subst e
  cases r1
  rcases q with ⟨⟨xs, hq⟩, q⟩ | ⟨⟨xs, hq⟩, q⟩
  · obtain ⟨its, rv, p, hz⟩ := I1.list hq
    refine wpAny_pyIter_list p.isList ?_
    refine ⟨s1.heap.objs.size, [s1.heap.objs.size], _, _, H1, rfl, I1.kept (t' := s1.toks) fun b o e => Heap.get?_push_of_some _ e, turn_list a _, ⟨_, Heap.get?_push_size _ rfl, rfl, rfl⟩, fun b hb => ?_, q⟩
    have e : b = s1.heap.objs.size := by simpa using hb
    subst e
    exact I1.fpOk (Nat.le_refl _) (I1.hok.fresh (Nat.le_refl _))
  · obtain ⟨its, rv, p, hz⟩ := I1.tuple hq
    refine wpAny_pyIter_tuple (show s1.heap.IsTuple a its.toArray from p) ?_
    refine ⟨s1.heap.objs.size, [s1.heap.objs.size], _, _, H1, rfl, I1.kept (t' := s1.toks) fun b o e => Heap.get?_push_of_some _ e, turn_tuple a _, ⟨_, Heap.get?_push_size _ rfl, rfl, rfl⟩, fun b hb => ?_, q⟩
    have e : b = s1.heap.objs.size := by simpa using hb
    subst e
    exact I1.fpOk (Nat.le_refl _) (I1.hok.fresh (Nat.le_refl _))
/-- the items of a list or a tuple -/
def itemsOf : PD → M (List PD)
  | .list ds => retM ds
  | .tuple ds => retM ds
  | _ => noM
def iSeqM (f : M Rv) : M (List PD) := bnd f fun r => bnd (frz r) itemsOf
theorem sim_iseq (h : SimE X W e fe) : SimI X W tg e (iSeqM fe) := by
  obtain ⟨t, p, h⟩ := h
  refine ⟨_, pi_seq p, fun F A H σ ρ E R hp => ?_⟩
  refine h F A H σ ρ E _ (hp.split fun r ρ1 A1 H1 v E1 S1 R1 h1 => ?_)
  obtain ⟨d, A2, ρ2, E2, S2, R2, h2⟩ := h1.frz E1 S1 R1
  cases R2 with
  | lst ha hr r => exact ⟨_, rfl, .inl ⟨⟨_, SqL.of hr⟩, h2 A2 H1 _ E2 S2 (It_list ha hr r)⟩⟩
  | tup ht r => exact ⟨_, rfl, .inr ⟨⟨_, SqT.of ht⟩, h2 A2 H1 _ E2 S2 (It_tup ht r)⟩⟩
  | non => exact h2.elim
  | bl b => exact h2.elim
  | int b => exact h2.elim
  | str b => exact h2.elim
  | dic _ _ _ => exact h2.elim
def rngL (lo : Int) (n : Nat) : List PD := List.map (fun (i : Nat) => PyData.int (lo + (i : Int))) (List.range n)
def in62 (i : Int) : Bool := decide (-(2 ^ 62) ≤ i ∧ i < 2 ^ 62)
def rng1 : List PD → M (List PD)
  | [.int j] => bnd (chk (in62 j)) fun _ => retM (rngL 0 j.toNat)
  | _ => noM
def rng2 : List PD → M (List PD)
  | [.int i, .int j] => bnd (chk (in62 i && in62 j)) fun _ => retM (rngL i (j - i).toNat)
  | _ => noM
def iRng1M (f : M (List Rv)) : M (List PD) := bnd f fun rs => bnd (rdsM rs) rng1
def iRng2M (f : M (List Rv)) : M (List PD) := bnd f fun rs => bnd (rdsM rs) rng2
theorem Rts.one {A : AS} {H : Hp} {vs : List V} {d : PD} (h : Rts A H vs [d]) : ∃ v, vs = [v] ∧ Rt A H v d := by
  cases h with
  | cons r h => cases h; exact ⟨_, rfl, r⟩
theorem Rts.two {A : AS} {H : Hp} {vs : List V} {d d' : PD} (h : Rts A H vs [d, d']) : ∃ v w, vs = [v, w] ∧ Rt A H v d ∧ Rt A H w d' := by
  cases h with
  | cons r h =>
    obtain ⟨w, rfl, q⟩ := h.one
    exact ⟨_, w, rfl, r, q⟩
theorem sim_irng1 {a : Expr} {fs : M (List Rv)} {p pos : Pos} (hg : Gl X "range") (hm : X.mg "range" = none) (ha : SimA X W [a] fs) (hs : starEach [a] X.env = [(false, eval a X.env)] := by rfl) : SimI X W tg (.Call (.Name "range" p) [a] [] pos) (iRng1M fs) := by
  obtain ⟨t, pa, h⟩ := ha
  refine ⟨_, pi_range1 hg hm pa hs, fun F A H σ ρ E R hp => ?_⟩
  refine h F A H σ ρ E _ (hp.split fun r ρ1 A1 H1 vs E1 S1 R1 h1 => ?_)
  obtain ⟨ds, e1, h2⟩ := h1.rds
  have hr := RvRs.rts E1 R1 e1
  match ds, h2, hr with
  | [.int j], h2, hr =>
    obtain ⟨v, rfl, r⟩ := hr.one
    obtain ⟨hb, h3⟩ := Pst.chk h2
    have hb' := of_decide_eq_true hb
    refine ⟨j, by rw [r.int], hb'.1, hb'.2, h3 A1 H1 _ E1 S1 (It_rng 0 _)⟩
theorem sim_irng2 {a b : Expr} {fs : M (List Rv)} {p pos : Pos} (hg : Gl X "range") (hm : X.mg "range" = none) (ha : SimA X W [a, b] fs) (hs : starEach [a, b] X.env = [(false, eval a X.env), (false, eval b X.env)] := by rfl) (hs2 : starEach [b] X.env = [(false, eval b X.env)] := by rfl) : SimI X W tg (.Call (.Name "range" p) [a, b] [] pos) (iRng2M fs) := by
  obtain ⟨t, pa, h⟩ := ha
  refine ⟨_, pi_range2 hg hm pa hs hs2, fun F A H σ ρ E R hp => ?_⟩
  refine h F A H σ ρ E _ (hp.split fun r ρ1 A1 H1 vs E1 S1 R1 h1 => ?_)
  obtain ⟨ds, e1, h2⟩ := h1.rds
  have hr := RvRs.rts E1 R1 e1
  match ds, h2, hr with
  | [.int i, .int j], h2, hr =>
    obtain ⟨v, w, rfl, r, q⟩ := hr.two
    obtain ⟨hb, h3⟩ := Pst.chk h2
    have hb' := (Bool.and_eq_true_iff.mp hb)
    have h5 := of_decide_eq_true hb'.1
    have h6 := of_decide_eq_true hb'.2
    exact ⟨i, j, by rw [r.int, q.int], ⟨h5.1, h5.2, h6.1, h6.2⟩, h3 A1 H1 _ E1 S1 (It_rng i _)⟩
end
end DP
/-! DPU: list comprehensions. -/
namespace DP
open PySem L2
/-- as Step, where the slots may change too; what stood in the slots vs is left aside -/
structure StepV (vs : List Nat) (A : AS) (H : Hp) (σ : L2.St) (ρ : Dn) (A' : AS) (H' : Hp) (σ' : L2.St) (ρ' : Dn) : Prop where
  kp : ∀ b o, H b = some o → ¬ Ow σ ρ b → H' b = some o
  mono : ∀ a, A a → A' a
  grow : ∀ a, A' a → A a ∨ H a = none ∨ Ow σ ρ a
  sub : ∀ p, Ow σ' ρ' p → Ow σ ρ p
  def_ : ∀ (i : Nat) (s : Sl), i ∉ vs → ρ[i]? = some (some s) → ∃ s', ρ'[i]? = some (some s')
  live : ∀ b, H' b = none → H b = none
  len : ρ'.length = ρ.length
section
variable {vs : List Nat} {K : PySem.W.Frag} {F : Ent} {A A' A'' : AS} {H H' H'' : Hp} {σ σ' σ'' : L2.St} {ρ ρ' ρ'' : Dn}
theorem Step.v (s : Step A H σ ρ A' H' ρ') : StepV vs A H σ ρ A' H' σ ρ' := ⟨s.kp, s.mono, s.grow, s.sub, fun i sl _ h => s.def_ i sl h, s.live, s.len⟩
theorem StepV.trans (s : StepV vs A H σ ρ A' H' σ' ρ') (t : StepV vs A' H' σ' ρ' A'' H'' σ'' ρ'') : StepV vs A H σ ρ A'' H'' σ'' ρ'' := by
  refine ⟨fun b o h n => t.kp b o (s.kp b o h n) fun z => n (s.sub b z), fun a h => t.mono a (s.mono a h), fun a h => ?_, fun p h => s.sub p (t.sub p h), fun i sl hi h => ?_, fun b h => s.live b (t.live b h), t.len.trans s.len⟩
  · rcases t.grow a h with h1 | h1 | h1
    · exact s.grow a h1
    · exact .inr (.inl (s.live a h1))
    · exact .inr (.inr (s.sub a h1))
  · obtain ⟨s', h'⟩ := s.def_ i sl hi h
    exact t.def_ i s' hi h'
theorem StepV.kpr (s : StepV vs A H σ ρ A' H' σ' ρ') (E : ER K F A H σ ρ) : Kp A A' H H' :=
  ⟨s.mono, fun a o ha e => s.kp a o e (E.notOw ha), fun a xs e => s.kp a _ e fun z => by
    have := (E.ow z).2
    rw [e] at this
    exact this⟩
def wipeD (ρ : Dn) : List Nat → Dn
  | [] => ρ
  | v :: vs => (wipeD ρ vs).set v none
theorem wipeD_len (ρ : Dn) : ∀ vs : List Nat, (wipeD ρ vs).length = ρ.length
  | [] => rfl
  | v :: vs => by unfold wipeD; rw [List.length_set, wipeD_len ρ vs]
theorem wipeD_out {i : Nat} : ∀ {vs : List Nat}, i ∉ vs → (wipeD ρ vs)[i]? = ρ[i]?
  | [], _ => rfl
  | v :: vs, h => by
    simp only [List.mem_cons, not_or] at h
    unfold wipeD
    rw [List.getElem?_set_ne (fun e => h.1 e.symm), wipeD_out h.2]
theorem wipeD_in {i : Nat} {s : Sl} : ∀ {vs : List Nat}, i ∈ vs → (wipeD ρ vs)[i]? ≠ some (some s)
  | v :: vs, h => by
    unfold wipeD
    by_cases e : v = i
    · subst e
      by_cases hl : v < (wipeD ρ vs).length
      · rw [List.getElem?_set_self hl]; intro z; cases z
      · rw [List.getElem?_eq_none (by simpa using hl)]; intro z; cases z
    · rw [List.getElem?_set_ne e]
      rcases List.mem_cons.mp h with h | h
      · exact absurd h.symm e
      · exact wipeD_in h
theorem wipe_out {i : Nat} : ∀ {vs : List Nat}, i ∉ vs → (wipe σ vs)[i]? = σ[i]?
  | [], _ => rfl
  | v :: vs, h => by
    simp only [List.mem_cons, not_or] at h
    unfold wipe
    rw [List.getElem?_set_ne (fun e => h.1 e.symm), wipe_out h.2]
theorem ER.wipe (E : ER K F A H σ ρ) (hq : ∀ q ∈ F.ins, q.1 ∉ vs) : ER K F A H (wipe σ vs) (wipeD ρ vs) := by
  have key : ∀ {i : Nat} {s : Sl}, (wipeD ρ vs)[i]? = some (some s) → i ∉ vs ∧ ρ[i]? = some (some s) := fun {i s} e => by
    by_cases hi : i ∈ vs
    · exact absurd e (wipeD_in hi)
    · exact ⟨hi, by rw [← wipeD_out hi]; exact e⟩
  refine ⟨by rw [wipe_length, wipeD_len, E.len], fun i s e => ?_, fun i j b b' d d' p e1 e2 e3 e4 => ?_, E.dom, E.kp, E.mono, E.grow, fun i b d p e1 e2 => ?_, E.FS, fun q h => ?_⟩
  · obtain ⟨hi, e1⟩ := key e
    obtain ⟨v, e2, r⟩ := E.slot i s e1
    exact ⟨v, by rw [wipe_out hi]; exact e2, r⟩
  · obtain ⟨hi, f1⟩ := key e1
    obtain ⟨hj, f2⟩ := key e2
    rw [wipe_out hi] at e3
    rw [wipe_out hj] at e4
    exact E.dist i j b b' d d' p f1 f2 e3 e4
  · obtain ⟨hi, f1⟩ := key e1
    rw [wipe_out hi] at e2
    exact E.ownF i b d p f1 e2
  · obtain ⟨e1, d, e2⟩ := E.ins q h
    exact ⟨by rw [wipe_out (hq q h)]; exact e1, d, by rw [wipeD_out (hq q h)]; exact e2⟩
theorem wipe_ow {p : Addr} (h : Ow (wipe σ vs) (wipeD ρ vs) p) : Ow σ ρ p := by
  obtain ⟨i, b, d, e1, e2⟩ := h
  by_cases hi : i ∈ vs
  · exact absurd e1 (wipeD_in hi)
  · exact ⟨i, b, d, by rw [← wipeD_out hi]; exact e1, by rw [← wipe_out hi]; exact e2⟩
theorem StepV.wipe : StepV vs A H σ ρ A H (wipe σ vs) (wipeD ρ vs) :=
  ⟨fun _ _ e _ => e, fun _ h => h, fun _ h => .inl h, fun p h => wipe_ow h, fun i s hi e => ⟨s, by rw [wipeD_out hi]; exact e⟩, fun _ e => e, wipeD_len ρ vs⟩
theorem wipe_eq (h : ∀ j, j ∉ vs → σ'[j]? = σ[j]?) (hl : σ'.length = σ.length) : L2.wipe σ' vs = L2.wipe σ vs := by
  have inn : ∀ (τ : L2.St) (vs : List Nat) (i : Nat), i ∈ vs → i < τ.length → (L2.wipe τ vs)[i]? = some none := by
    intro τ vs
    induction vs with
    | nil => intro i h; cases h
    | cons v vs ih =>
      intro i h hlt
      unfold L2.wipe
      by_cases e : v = i
      · subst e
        rw [List.getElem?_set_self (by rw [wipe_length]; exact hlt)]
      · rw [List.getElem?_set_ne e]
        rcases List.mem_cons.mp h with h | h
        · exact absurd h.symm e
        · exact ih i h hlt
  apply List.ext_getElem?
  intro i
  by_cases hi : i ∈ vs
  · by_cases hlt : i < σ.length
    · rw [inn σ' vs i hi (by rw [hl]; exact hlt), inn σ vs i hi hlt]
    · rw [List.getElem?_eq_none (by rw [wipe_length, hl]; omega), List.getElem?_eq_none (by rw [wipe_length]; omega)]
  · rw [wipe_out hi, wipe_out hi, h i hi]
theorem wipe_wipe : L2.wipe (L2.wipe σ vs) vs = L2.wipe σ vs := wipe_eq (fun j hj => wipe_out hj) (wipe_length _ _)
def okW (ρ : Dn) (vs : List Nat) : Bool := vs.all fun v =>
  match ρ[v]? with
  | some none => true
  | some (some (.imm _)) => true
  | _ => false
/-- the slots vs as they stood -/
def backD (ρ ρ' : Dn) : List Nat → Dn
  | [] => ρ'
  | v :: vs => (backD ρ ρ' vs).set v (ρ[v]?.join)
theorem backD_out {i : Nat} : ∀ {vs : List Nat}, i ∉ vs → (backD ρ ρ' vs)[i]? = ρ'[i]?
  | [], _ => rfl
  | v :: vs, h => by
    simp only [List.mem_cons, not_or] at h
    unfold backD
    rw [List.getElem?_set_ne (fun e => h.1 e.symm), backD_out h.2]
theorem backD_len : ∀ vs : List Nat, (backD ρ ρ' vs).length = ρ'.length
  | [] => rfl
  | v :: vs => by unfold backD; rw [List.length_set, backD_len vs]
theorem backD_in {i : Nat} (hl : i < ρ'.length) : ∀ {vs : List Nat}, i ∈ vs → (backD ρ ρ' vs)[i]? = some (ρ[i]?.join)
  | v :: vs, h => by
    unfold backD
    by_cases e : v = i
    · subst e
      rw [List.getElem?_set_self (by rw [backD_len]; exact hl)]
    · rw [List.getElem?_set_ne e]
      rcases List.mem_cons.mp h with h | h
      · exact absurd h.symm e
      · exact backD_in hl h
theorem join_get {i : Nat} {s : Sl} (h : ρ[i]?.join = some s) : ρ[i]? = some (some s) := by
  cases e : ρ[i]? with
  | none => rw [e] at h; cases h
  | some o => rw [e] at h; cases o with
    | none => cases h
    | some t => cases h; rfl
theorem okW_get {i : Nat} {s : Sl} (h : okW ρ vs = true) (hi : i ∈ vs) (e : ρ[i]? = some (some s)) : ∃ d, s = .imm d := by
  have := List.all_eq_true.mp h i hi
  rw [e] at this
  cases s with
  | imm d => exact ⟨d, rfl⟩
  | own b d => cases this
  | scr ns => cases this
theorem ER.back (E : ER K F A H σ ρ) (hk : okW ρ vs = true) (E' : ER K F A' H' (L2.wipe σ vs) ρ') (k : Kp A A' H H') (hw : ∀ i s, i ∈ vs → ρ'[i]? ≠ some (some s)) (hl : ρ'.length = ρ.length) : ER K F A' H' σ (backD ρ ρ' vs) := by
  have key : ∀ {i : Nat} {s : Sl}, (backD ρ ρ' vs)[i]? = some (some s) → (i ∈ vs ∧ ρ[i]? = some (some s)) ∨ (i ∉ vs ∧ ρ'[i]? = some (some s)) := fun {i s} e => by
    by_cases hi : i ∈ vs
    · left
      have hlt : i < ρ'.length := by
        have := (List.getElem?_eq_some_iff.mp e).1
        rw [backD_len] at this
        exact this
      rw [backD_in hlt hi] at e
      exact ⟨hi, join_get (Option.some.inj e)⟩
    · right
      rw [backD_out hi] at e
      exact ⟨hi, e⟩
  have own : ∀ {i : Nat} {b : Bool} {d : PD}, (backD ρ ρ' vs)[i]? = some (some (.own b d)) → i ∉ vs ∧ ρ'[i]? = some (some (.own b d)) := fun {i b d} e => by
    rcases key e with ⟨hi, e1⟩ | h
    · obtain ⟨d', z⟩ := okW_get hk hi e1
      cases z
    · exact h
  refine ⟨by rw [backD_len, hl, E.len], fun i s e => ?_, fun i j b b' d d' p e1 e2 e3 e4 => ?_, E'.dom, E'.kp, E'.mono, E'.grow, fun i b d p e1 e2 => ?_, E'.FS, fun q h => ?_⟩
  · rcases key e with ⟨hi, e1⟩ | ⟨hi, e1⟩
    · obtain ⟨v, e2, r⟩ := E.slot i s e1
      obtain ⟨d, rfl⟩ := okW_get hk hi e1
      exact ⟨v, e2, Rp.kp k r⟩
    · obtain ⟨v, e2, r⟩ := E'.slot i s e1
      rw [wipe_out hi] at e2
      exact ⟨v, e2, r⟩
  · obtain ⟨hi, f1⟩ := own e1
    obtain ⟨hj, f2⟩ := own e2
    exact E'.dist i j b b' d d' p f1 f2 (by rw [wipe_out hi]; exact e3) (by rw [wipe_out hj]; exact e4)
  · obtain ⟨hi, f1⟩ := own e1
    exact E'.ownF i b d p f1 (by rw [wipe_out hi]; exact e2)
  · obtain ⟨e1, d, e2⟩ := E'.ins q h
    have hi : q.1 ∉ vs := fun hi => hw q.1 _ hi e2
    exact ⟨by rw [← wipe_out hi]; exact e1, d, by rw [backD_out hi]; exact e2⟩
/-- an object that nobody has is written -/
theorem Kp.other {p : Addr} {o u : HO} (h1 : ¬ A p) (hp : H p = some o) (ht : ∀ xs, o ≠ .tup xs) : Kp A A H (upd H p u) := by
  refine ⟨fun _ h => h, fun a v ha e => ?_, fun a xs e => ?_⟩
  · rw [upd_ne (fun z => by subst z; exact h1 ha)]; exact e
  · rw [upd_ne (fun z => by subst z; rw [hp] at e; cases e; exact ht xs rfl)]; exact e
theorem ER.other {p : Addr} {o u : HO} (E : ER K F A H σ ρ) (h1 : ¬ A p) (h2 : ¬ Ow σ ρ p) (h3 : F.H p = none) (hp : H p = some o) (ht : ∀ xs, o ≠ .tup xs) (hfz : ∀ q v, o ≠ .frz q v) : ER K F A (upd H p u) σ ρ := by
  have kk : Kp A A H (upd H p u) := Kp.other h1 hp ht
  refine ⟨E.len, fun i s e => ?_, E.dist, fun a ha => ?_, fun b v e n => ?_, E.mono, E.grow, E.ownF, E.FS, E.ins⟩
  · obtain ⟨v, e1, r⟩ := E.slot i s e
    refine ⟨v, e1, ?_⟩
    cases s with
    | imm d => exact Rp.kp kk r
    | own b d =>
      obtain ⟨q, rfl, n, r⟩ := r
      refine ⟨q, rfl, n, r.kp kk ?_⟩
      rw [upd_ne]
      intro z
      subst z
      exact h2 ⟨i, b, d, e, e1⟩
    | scr ns =>
      obtain ⟨q, rfl, r⟩ := r
      refine ⟨q, rfl, ?_⟩
      refine r.kp fun ob w z => ?_
      rw [upd_ne]
      · exact z
      · intro y; subst y; rw [hp] at z; cases z; exact hfz _ _ rfl
  · by_cases z : a = p
    · subst z; exact absurd ha h1
    · rw [upd_ne z]; exact E.dom a ha
  · rw [upd_ne]
    · exact E.kp b v e n
    · intro z; subst z; rw [h3] at e; cases e
end
end DP
/-! DPV: list comprehensions, by their loop. -/
namespace DP
open PySem L2
def compL (g : PD → Dn → Option Dn) (vs : List Nat) (cond : M Bool) (elt : M PD) : List PD → List PD → M (List PD)
  | [], acc => fun ρ => .ok acc ρ
  | d :: ds, acc => fun ρ =>
    match g d ρ with
    | none => .no
    | some ρ1 => match cond ρ1 with
      | .ok true ρ2 => match elt ρ2 with
        | .ok y ρ3 => if smallL acc.length = true then compL g vs cond elt ds (acc ++ [y]) (wipeD ρ3 vs) else .no
        | _ => .no
      | .ok false ρ2 => compL g vs cond elt ds acc (wipeD ρ2 vs)
      | _ => .no
/-- [elt for g in it if cond], own names at the slots vs -/
def eComp (it : M (List PD)) (g : PD → Dn → Option Dn) (vs : List Nat) (cond : M Bool) (elt : M Rv) : M Rv := bnd it fun ds ρ =>
  if okW ρ vs = true then
    match compL g vs cond (bnd elt frz) ds [] (wipeD ρ vs) with
    | .ok acc ρ' => .ok (.fresh (.list acc)) (backD ρ ρ' vs)
    | _ => .no
  else .no
abbrev noW : WX := fun _ _ _ _ => False
/-- a clause's tests -/
def SimTs (X : Cx) (ifs : List Expr) (f : M Bool) : Prop := ∃ t : TT, PTs X ifs t ∧ ∀ F A H σ ρ, ER X.K F A H σ ρ → ∀ Q : Bool → Hp → Prop, Pst X.K X.mg noW F A H σ ρ RT Q (f ρ) → t σ H Q
theorem sim_tsnil {X : Cx} : SimTs X [] (retM true) := ⟨_, pts_nil, fun F A H σ ρ E Q h => h A H true E Step.refl rfl⟩
theorem sim_tsone {X : Cx} {c : Expr} {f : M Bool} (h : SimT X noW c f) : SimTs X [c] f := by
  obtain ⟨t, p, h⟩ := h
  exact ⟨_, pts_one p, h⟩
section
variable {K : PySem.W.Frag} {mg : Str → Option Value} {W : WX} {vs : List Nat} {it : M (List PD)} {g : PD → Dn → Option Dn} {is : List Nat} {cond : M Bool} {elt : M Rv} {wi : TI} {tg : TG} {tt : TT} {te : TE}
theorem lc_run (hi : ∀ F A H σ ρ, ER K F A H σ ρ → ∀ R : It → Hp → Prop, Pst K mg W F A H σ ρ (fun A' H' _ J ds => ItR A' H' J ds) R (it ρ) → wi σ H R)
    (hg : ∀ F A H σ ρ v d ρ' (Q : L2.St → Hp → Prop), ER K F A H σ ρ → Rp A H v d → g d ρ = some ρ' → (∀ σ', ER K F A H σ' ρ' → (∀ j, j ∉ is → σ'[j]? = σ[j]? ∧ ρ'[j]? = ρ[j]?) → (∀ j, j ∈ is → ∃ d, ρ'[j]? = some (some (.imm d))) → σ'.length = σ.length → Q σ' H) → tg v σ H Q)
    (his : ∀ i ∈ is, i ∈ vs)
    (ht : ∀ F A H σ ρ, ER K F A H σ ρ → ∀ Q : Bool → Hp → Prop, Pst K mg noW F A H σ ρ RT Q (cond ρ) → tt σ H Q)
    (he : ∀ F A H σ ρ, ER K F A H σ ρ → ∀ Q : VK, Pst K mg noW F A H σ ρ (RE F H σ) Q (elt ρ) → te σ H Q) :
    ∀ F A H σ ρ, ER K F A H σ ρ → ∀ Q : VK, Pst K mg W F A H σ ρ (RE F H σ) Q (eComp it g vs cond elt ρ) → tLc wi tg tt te vs σ H Q := by
  intro F A H σ ρ E Q h
  refine hi F A H σ ρ E _ (h.split (RR1 := fun A' H' _ J ds => ItR A' H' J ds) fun ds ρ1 A1 H1 J E1 S1 I1 h1 => ?_)
  intro D hD
  by_cases hk : okW ρ1 vs = true
  case neg => rw [if_neg hk] at h1; exact h1.elim
  rw [if_pos hk] at h1
  have hq : ∀ q ∈ F.ins, q.1 ∉ vs := fun q hq hv => by
    obtain ⟨_, d, e⟩ := E1.ins q hq
    obtain ⟨d', z⟩ := okW_get hk hv e
    cases z
  cases ec : compL g vs cond (bnd elt frz) ds [] (wipeD ρ1 vs) with
  | no => rw [ec] at h1; exact h1.elim
  | ex x ρ' => rw [ec] at h1; exact h1.elim
  | ok accF ρF =>
    rw [ec] at h1
    have extD : ∀ b o, H1 b = some o → upd H1 D (.lst []) b = some o := fun b o e => by rw [upd_ne (ne_of_none e hD)]; exact e
    have dA : ¬ A1 D := E1.free hD
    have dO : ¬ Ow σ ρ1 D := E1.owne hD
    have dF : F.H D = none := E1.fnone hD
    refine ⟨fun i m H' => m = ds.length - i ∧ i ≤ ds.length ∧ ∃ A' ρ' acc us, ER K F A' H' (wipe σ vs) ρ' ∧ StepV vs A1 H1 σ ρ1 A' H' (wipe σ vs) ρ' ∧ H' D = some (.lst us) ∧ ¬ A' D ∧ RpAll A' H' us acc ∧ (∀ i s, i ∈ vs → ρ'[i]? ≠ some (some s)) ∧
      compL g vs cond (bnd elt frz) (ds.drop i) acc ρ' = .ok accF ρF, ⟨ds.length, by simp, Nat.zero_le _, A1, wipeD ρ1 vs, [], [], (E1.wipe hq).ext extD, ⟨fun b o e _ => extD b o e, fun _ h => h, fun _ h => .inl h, fun p h => wipe_ow h, fun i s hi e => ⟨s, by rw [wipeD_out hi]; exact e⟩, fun b e => keep_none extD e, wipeD_len _ _⟩, upd_same, dA, .nil, fun i s hi => wipeD_in hi, by simpa using ec⟩, ?_⟩
    rintro i m H2 ⟨rfl, hi2, A2, ρ2, acc, us, E2, S2, hD2, dA2, r2, hw2, ec2⟩
    have k2 : Kp A1 A2 H1 H2 := S2.kpr E1
    obtain ⟨hstop, hgo⟩ := (I1.kp k2) A2 H2 Kp.refl E2.dom
    by_cases hlt : i < ds.length
    · have hd : ds[i]? = some ds[i] := by simp [hlt]
      obtain ⟨go, yld⟩ := hgo i _ hd
      rw [List.drop_eq_getElem_cons hlt] at ec2
      simp only [compL] at ec2
      cases eg : g ds[i] ρ2 with
      | none => rw [eg] at ec2; cases ec2
      | some ρ3 =>
        rw [eg] at ec2
        dsimp only at ec2
        refine .inr ⟨go, fun H' => ∃ A' ρ' acc us, ER K F A' H' (wipe σ vs) ρ' ∧ StepV vs A1 H1 σ ρ1 A' H' (wipe σ vs) ρ' ∧ H' D = some (.lst us) ∧ ¬ A' D ∧ RpAll A' H' us acc ∧ (∀ i s, i ∈ vs → ρ'[i]? ≠ some (some s)) ∧
          compL g vs cond (bnd elt frz) (ds.drop (i + 1)) acc ρ' = .ok accF ρF, fun H' z => ⟨ds.length - (i + 1), by omega, rfl, hlt, z⟩, fun x H3 y3 => ?_⟩
        obtain ⟨k3, r3⟩ := yld x H3 y3
        have E3 := E2.ext k3
        refine hg F A2 H3 (wipe σ vs) ρ2 x ds[i] ρ3 _ E3 r3 eg fun σ3 E4 n4 m4 l4 => ?_
        have ww : wipe σ3 vs = wipe σ vs := by
          rw [← wipe_wipe (σ := σ)]
          exact wipe_eq (fun j hj => (n4 j fun z => hj (his j z)).1) l4
        refine ⟨ww, ?_⟩
        -- what the target has done
        have l3 : ρ3.length = ρ2.length := by rw [← E4.len, l4, E3.len]
        have own3 : ∀ p, Ow σ3 ρ3 p → Ow (wipe σ vs) ρ2 p := fun p ⟨j, b, d, e1, e2⟩ => by
          by_cases hj : j ∈ is
          · obtain ⟨d', z⟩ := m4 j hj
            rw [z] at e1
            cases e1
          · exact ⟨j, b, d, by rw [← (n4 j hj).2]; exact e1, by rw [← (n4 j hj).1]; exact e2⟩
        have S3 : StepV vs A2 H2 (wipe σ vs) ρ2 A2 H3 σ3 ρ3 := ⟨fun b o e _ => k3 b o e, fun _ h => h, fun _ h => .inl h, own3, fun j s hj e => ⟨s, by rw [(n4 j fun z => hj (his j z)).2]; exact e⟩, fun b e => keep_none k3 e, l3⟩
        have r3' := r2.kp (Kp.ext (A := A2) k3)
        have hD3 := k3 D _ hD2
        have dO3 : ¬ Ow σ3 ρ3 D := fun z => dO (S2.sub D (own3 D z))
        have fin : ∀ {A5 : AS} {H5 : Hp} {ρ5 : Dn} {us5 : List V} {acc5 : List PD}, ER K F A5 H5 σ3 ρ5 → StepV vs A1 H1 σ ρ1 A5 H5 σ3 ρ5 → H5 D = some (.lst us5) → ¬ A5 D → RpAll A5 H5 us5 acc5 → compL g vs cond (bnd elt frz) (ds.drop (i + 1)) acc5 (wipeD ρ5 vs) = .ok accF ρF →
            ∃ A' ρ' acc us, ER K F A' H5 (wipe σ vs) ρ' ∧ StepV vs A1 H1 σ ρ1 A' H5 (wipe σ vs) ρ' ∧ H5 D = some (.lst us) ∧ ¬ A' D ∧ RpAll A' H5 us acc ∧ (∀ i s, i ∈ vs → ρ'[i]? ≠ some (some s)) ∧ compL g vs cond (bnd elt frz) (ds.drop (i + 1)) acc ρ' = .ok accF ρF :=
          fun {A5 H5 ρ5 us5 acc5} E5 S5 hD5 dA5 r5 e5 => ⟨A5, wipeD ρ5 vs, acc5, us5, by rw [← ww]; exact E5.wipe hq, by rw [← ww]; exact S5.trans StepV.wipe, hD5, dA5, r5, fun i s hi => wipeD_in hi, e5⟩
        refine ht F A2 H3 σ3 ρ3 E4 _ ?_
        cases et : cond ρ3 with
        | no => rw [et] at ec2; cases ec2
        | ex x ρ4 => rw [et] at ec2; cases ec2
        | ok b ρ4 =>
          rw [et] at ec2
          intro A4 H4 b' E5 S4 R4
          cases R4
          have hD4 : H4 D = some (.lst us) := S4.kp D _ hD3 dO3
          have grow4 : ∀ {A' : AS}, (∀ a, A' a → A2 a ∨ H3 a = none ∨ Ow σ3 ρ3 a) → ¬ A' D := fun gr z => by
            rcases gr D z with q | q | q
            · exact dA2 q
            · rw [hD3] at q; cases q
            · exact dO3 q
          cases b with
          | false =>
            rw [if_neg (by simp)]
            exact fin E5 ((S2.trans S3).trans S4.v) hD4 (grow4 S4.grow) (r3'.kp (S4.kpr E4)) ec2
          | true =>
            rw [if_pos rfl]
            dsimp only at ec2
            refine he F A4 H4 σ3 ρ4 E5 _ ?_
            unfold bnd at ec2
            cases ee : elt ρ4 with
            | no => rw [ee] at ec2; cases ec2
            | ex x ρ5 => rw [ee] at ec2; cases ec2
            | ok rv ρ5 =>
              rw [ee] at ec2
              intro A5 H5 y E6 S5 R5
              dsimp only at ec2
              rcases frz_ok (r := rv) (ρ := ρ5) rfl with ez | ⟨d5, ρ6, ez⟩
              · rw [ez] at ec2; cases ec2
              · rw [ez] at ec2
                dsimp only at ec2
                obtain ⟨A6, E7, S6, R6, _⟩ := frz_run E6 S5 R5.q ez
                by_cases hz : smallL acc.length = true
                case neg => rw [if_neg hz] at ec2; cases ec2
                rw [if_pos hz] at ec2
                have S46 := S4.trans S6
                have hD5 : H5 D = some (.lst us) := S46.kp D _ hD3 dO3
                have dA6 := grow4 S46.grow
                have dO6 : ¬ Ow σ3 ρ6 D := fun z => dO3 (S46.sub D z)
                have r6 := r3'.kp (S46.kpr E4)
                have kD : Kp A6 A6 H5 (upd H5 D (.lst (us ++ [y]))) := Kp.other dA6 hD5 fun xs z => by cases z
                refine ⟨us, hD5, by rw [r2.length]; exact smallL_lt hz, ?_⟩
                have E8 : ER K F A6 (upd H5 D (.lst (us ++ [y]))) σ3 ρ6 := E7.other dA6 dO6 dF hD5 (fun xs z => by cases z) fun q v z => by cases z
                have SB : StepV vs A1 H1 σ ρ1 A6 H5 σ3 ρ6 := (S2.trans S3).trans S46.v
                have S7 : StepV vs A1 H1 σ ρ1 A6 (upd H5 D (.lst (us ++ [y]))) σ3 ρ6 := by
                  refine ⟨fun b o e n => ?_, SB.mono, SB.grow, SB.sub, SB.def_, fun b e => ?_, SB.len⟩
                  · rw [upd_ne (ne_of_none e hD)]
                    exact SB.kp b o e n
                  · by_cases hb : b = D
                    · subst hb; rw [upd_same] at e; cases e
                    · rw [upd_ne hb] at e; exact SB.live b e
                exact fin E8 S7 upd_same dA6 (RpAll.snoc (r6.kp kD) (Rp.kp kD R6)) ec2
    · have e : i = ds.length := by omega
      subst e
      refine .inl ⟨hstop, ?_⟩
      rw [List.drop_length] at ec2
      cases ec2
      have EB := E1.back hk E2 k2 hw2 S2.len
      have ow : ∀ p, Ow σ (backD ρ1 ρF vs) p → Ow σ ρ1 p := fun p ⟨j, b, d, e1, e2⟩ => by
        by_cases hj : j ∈ vs
        · have hlt : j < ρF.length := by
            have := (List.getElem?_eq_some_iff.mp e1).1
            rw [backD_len] at this
            exact this
          rw [backD_in hlt hj] at e1
          have e3 := join_get (Option.some.inj e1)
          exact ⟨j, b, d, e3, e2⟩
        · rw [backD_out hj] at e1
          exact S2.sub p ⟨j, b, d, e1, by rw [wipe_out hj]; exact e2⟩
      have SE : Step A1 H1 σ ρ1 A2 H2 (backD ρ1 ρF vs) := ⟨S2.kp, S2.mono, S2.grow, ow, fun j s e => by
        by_cases hj : j ∈ vs
        · have hlt : j < ρF.length := by rw [S2.len]; exact (List.getElem?_eq_some_iff.mp e).1
          exact ⟨s, by rw [backD_in hlt hj, e]; rfl⟩
        · rw [backD_out hj]; exact S2.def_ j s hj e, S2.live, by rw [backD_len, S2.len]⟩
      exact h1 A2 H2 (.ref D) EB (S1.trans SE) ⟨D, rfl, ⟨dA2, fun z => dO (ow D z), dF, S1.live D hD⟩, us, hD2, r2⟩
end
end DP
/-! DPW: list comprehensions as expressions and as statements. -/
namespace DP
open PySem L2
def starE (K : PySem.W.Frag) (mg : Str → Option Value) (W : WX) (f : M Rv) : TE := fun σ H Q => ∃ F A ρ, ER K F A H σ ρ ∧ Pst K mg W F A H σ ρ (RE F H σ) Q (f ρ)
theorem SimE.star {X : Cx} {W : WX} {e : Expr} {f : M Rv} (h : SimE X W e f) : PE X e (starE X.K X.mg W f) := by
  obtain ⟨t, p, h⟩ := h
  exact ⟨fun pins s σ H Q I ⟨F, A, ρ, E, q⟩ => p.run pins s σ H Q I (h F A H σ ρ E Q q)⟩
def starTs (K : PySem.W.Frag) (mg : Str → Option Value) (f : M Bool) : TT := fun σ H Q => ∃ F A ρ, ER K F A H σ ρ ∧ Pst K mg noW F A H σ ρ RT Q (f ρ)
theorem SimTs.star {X : Cx} {e : List Expr} {f : M Bool} (h : SimTs X e f) : PTs X e (starTs X.K X.mg f) := by
  obtain ⟨t, p, h⟩ := h
  exact ⟨fun pins s σ H Q I ⟨F, A, ρ, E, q⟩ => p.run pins s σ H Q I (h F A H σ ρ E Q q)⟩
def starG (K : PySem.W.Frag) (g : PD → Dn → Option Dn) (is : List Nat) : TG := fun v σ H Q => ∃ F A d ρ ρ', ER K F A H σ ρ ∧ Rp A H v d ∧ g d ρ = some ρ' ∧
  (∀ σ', ER K F A H σ' ρ' → (∀ j, j ∉ is → σ'[j]? = σ[j]? ∧ ρ'[j]? = ρ[j]?) → (∀ j, j ∈ is → ∃ d, ρ'[j]? = some (some (.imm d))) → σ'.length = σ.length → Q σ' H)
theorem SimG.star {X : Cx} {e : Expr} {g : PD → Dn → Option Dn} {is : List Nat} (h : SimG X e g is) : PG X e (starG X.K g is) := by
  obtain ⟨t, p, h⟩ := h
  exact ⟨fun pins s σ H v u Q I r ⟨F, A, d, ρ, ρ', E, R, eg, q⟩ => p.run pins s σ H v u Q I r (h F A H σ ρ v d ρ' Q E R eg q)⟩
section
variable {X : Cx} {W : WX} {elt tg iter : Expr} {ifs : List Expr} {scope : Scope} {own : List (Str × Nat)} {pos : Pos} {it : M (List PD)} {g : PD → Dn → Option Dn} {is : List Nat} {cond : M Bool} {f : M Rv}
theorem sim_lc (own : List (Str × Nat)) (hc : X.calm = true) (hN : X.N.Nodup) (hi : SimI X W tg iter it) (ok : BlkOk X.N X.env.scope scope own)
    (hg : ∀ (s : Shared) (H : Hp) (C : Addr) (cl : List (Str × Addr)) (fp : List Addr), SimG (X.blk s H scope (compEnvC scope cl C X.env) fp) tg g is)
    (ht : ∀ (s : Shared) (H : Hp) (C : Addr) (cl : List (Str × Addr)) (fp : List Addr), SimTs (X.blk s H scope (compEnvC scope cl C X.env) fp) ifs cond)
    (he : ∀ (s : Shared) (H : Hp) (C : Addr) (cl : List (Str × Addr)) (fp : List Addr), SimE (X.blk s H scope (compEnvC scope cl C X.env) fp) noW elt f)
    (his : ∀ i ∈ is, i ∈ own.map (·.2)) (hs : ∀ x, foldedSetIterable iter X.env x = pure x := by intro _; rfl) : SimE X W (.ListComp elt [⟨tg, iter, ifs, 0⟩] scope pos) (eComp it g (own.map (·.2)) cond f) := by
  obtain ⟨w, pi, hi⟩ := hi
  refine ⟨_, pe_lc (g := starG X.K g is) (tt := starTs X.K X.mg cond) (te := starE X.K X.mg noW f) hc hN pi ok (fun s H C cl fp => (hg s H C cl fp).star) (fun s H C cl fp => (ht s H C cl fp).star) (fun s H C cl fp => (he s H C cl fp).star) hs, ?_⟩
  exact lc_run (K := X.K) (mg := X.mg) hi (fun F A H σ ρ v d ρ' Q E R eg q => ⟨F, A, d, ρ, ρ', E, R, eg, q⟩) his (fun F A H σ ρ E Q q => ⟨F, A, ρ, E, q⟩) (fun F A H σ ρ E Q q => ⟨F, A, ρ, E, q⟩)
theorem sim_setlc (own : List (Str × Nat)) {i : Nat} {y : Str} {py spos : Pos} (hc : X.calm = true) (hN : X.N.Nodup) (hy : X.N[i]? = some y) (hyl : X.env.scope.names.lookup y = some .local)
    (hw : swapsWith (.ListComp elt [⟨tg, iter, ifs, 0⟩] scope pos) (some (.Name y py)) spos.line X.env = pure true) (hi : SimI X W tg iter it) (ok : BlkOk X.N X.env.scope scope own)
    (hg : ∀ (s : Shared) (H : Hp) (C : Addr) (cl : List (Str × Addr)) (fp : List Addr), SimG (X.blk s H scope (compEnvC scope cl C X.env) fp) tg g is)
    (ht : ∀ (s : Shared) (H : Hp) (C : Addr) (cl : List (Str × Addr)) (fp : List Addr), SimTs (X.blk s H scope (compEnvC scope cl C X.env) fp) ifs cond)
    (he : ∀ (s : Shared) (H : Hp) (C : Addr) (cl : List (Str × Addr)) (fp : List Addr), SimE (X.blk s H scope (compEnvC scope cl C X.env) fp) noW elt f)
    (his : ∀ i ∈ is, i ∈ own.map (·.2)) (hs : ∀ x, foldedSetIterable iter X.env x = pure x := by intro _; rfl) : SimS X W (.Assign [.Name y py] (.ListComp elt [⟨tg, iter, ifs, 0⟩] scope pos) spos) (sSet i (eComp it g (own.map (·.2)) cond f)) := by
  obtain ⟨w, pi, hi⟩ := hi
  refine ⟨_, ps_setLc (g := starG X.K g is) (tt := starTs X.K X.mg cond) (te := starE X.K X.mg noW f) hc hN hy hyl hw pi ok (fun s H C cl fp => (hg s H C cl fp).star) (fun s H C cl fp => (ht s H C cl fp).star) (fun s H C cl fp => (he s H C cl fp).star) hs, fun F A H σ ρ D E h => ?_⟩
  exact lc_run (K := X.K) (mg := X.mg) hi (fun F A H σ ρ v d ρ' Q E R eg q => ⟨F, A, d, ρ, ρ', E, R, eg, q⟩) his (fun F A H σ ρ E Q q => ⟨F, A, ρ, E, q⟩) (fun F A H σ ρ E Q q => ⟨F, A, ρ, E, q⟩) F A H σ ρ E _
    (PstS.split E h fun r ρ1 A1 H1 v E1 S1 R1 h2 => putR_run (S1.kpr E) E1 R1 h2)
end
end DP
/-! DPX: what a def comes to; calls. -/
namespace DP
open PySem L2
inductive FR where
  | ok (c : Rc) (outs : List PD)
  | ex (e : Exn) (outs : List PD)
  | no
/-- no exception -/
def FR.calm : FR → FR
  | .ok c o => .ok c o
  | _ => .no
inductive ArgsR (A : AS) (H : Hp) : List Bool → List V → List PD → List Addr → Prop
  | nil : ArgsR A H [] [] [] []
  | imm {v : V} {d : PD} {ms : List Bool} {vs : List V} {ds : List PD} {ps : List Addr} : Rp A H v d → ArgsR A H ms vs ds ps → ArgsR A H (false :: ms) (v :: vs) (d :: ds) ps
  | inp {p : Addr} {d : PD} {ms : List Bool} {vs : List V} {ds : List PD} {ps : List Addr} : ¬ A p → OwnObj A H p d → p ∉ ps → ArgsR A H ms vs ds ps → ArgsR A H (true :: ms) (.ref p :: vs) (d :: ds) (p :: ps)
structure FrameF (A : AS) (H : Hp) (ps : List Addr) (A' : AS) (H' : Hp) : Prop where
  kp : ∀ b o, H b = some o → b ∉ ps → H' b = some o
  mono : ∀ a, A a → A' a
  grow : ∀ a, A' a → A a ∨ H a = none
  dom : ∀ a, A' a → H' a ≠ none
  live : ∀ b, H' b = none → H b = none
inductive OutsR (A : AS) (H : Hp) : List Addr → List PD → Prop
  | nil : OutsR A H [] []
  | cons {p : Addr} {ps : List Addr} {d : PD} {ds : List PD} : ¬ A p → OwnObj A H p d → OutsR A H ps ds → OutsR A H (p :: ps) (d :: ds)
def ResR (A' : AS) (H H' : Hp) (v : V) : Rc → Prop
  | .val d => Rp A' H' v d
  | .fresh d => ∃ p, v = .ref p ∧ ¬ A' p ∧ H p = none ∧ OwnObj A' H' p d
def PstF (mg : Str → Option Value) (A : AS) (H : Hp) (ps : List Addr) (Q : VK) (E : XK) : FR → Prop
  | .ok c outs => ∀ A' H' v, FrameF A H ps A' H' → OutsR A' H' ps outs → ResR A' H H' v c → Q v H'
  | .ex e outs => ∀ A' H' cls d, FrameF A H ps A' H' → OutsR A' H' ps outs → XR mg A' H' e cls d → E cls d H'
  | .no => False
/-- a def's promise: on data it comes to m -/
def spD (mg : Str → Option Value) (ms : List Bool) (m : List PD → FR) : Sp := fun vs H Q E => ∃ A ds ps, (∀ a, A a → H a ≠ none) ∧ ArgsR A H ms vs ds ps ∧ PstF mg A H ps Q E (m ds)
theorem ArgsR.length {A : AS} {H : Hp} : ∀ {ms : List Bool} {vs : List V} {ds : List PD} {ps : List Addr}, ArgsR A H ms vs ds ps → vs.length = ms.length
  | _, _, _, _, .nil => rfl
  | _, _, _, _, .imm _ h => by simp [ArgsR.length h]
  | _, _, _, _, .inp _ _ _ h => by simp [ArgsR.length h]
/-! ### a def's body -/
def slOf (m : Bool) (d : PD) : Option Sl := some (if m = true then .own true d else .imm d)
def argD : List Bool → List PD → Dn
  | m :: ms, d :: ds => slOf m d :: argD ms ds
  | _, _ => []
def startD (n : Nat) (ms : List Bool) (ds : List PD) : Dn := argD ms ds ++ List.replicate (n - ms.length) none
def outsAt (ρ : Dn) : Nat → List Bool → Option (List PD)
  | _, [] => some []
  | i, false :: ms => outsAt ρ (i + 1) ms
  | i, true :: ms => match ρ[i]? with
    | some (some (.own true d)) => (outsAt ρ (i + 1) ms).map (d :: ·)
    | _ => none
def resOf (ρ : Dn) : Rv → Option Rc
  | .val d => some (.val d)
  | .fresh d => some (.fresh d)
  | .slot i => match ρ[i]? with
    | some (some (.imm d)) => some (.val d)
    | some (some (.own false d)) => some (.fresh d)
    | _ => none
def runF (n : Nat) (ms : List Bool) (b : SM) (ds : List PD) : FR :=
  match b (startD n ms ds) with
  | .nx ρ => match outsAt ρ 0 ms with
    | some o => .ok (.val .none) o
    | none => .no
  | .rt r ρ => match outsAt ρ 0 ms, resOf ρ r with
    | some o, some c => .ok c o
    | _, _ => .no
  | .ex e ρ => match outsAt ρ 0 ms with
    | some o => .ex e o
    | none => .no
  | _ => .no
def insAt : Nat → List Bool → List V → List (Nat × Addr)
  | i, false :: ms, _ :: vs => insAt (i + 1) ms vs
  | i, true :: ms, .ref p :: vs => (i, p) :: insAt (i + 1) ms vs
  | _, _, _ => []
section
variable {K : PySem.W.Frag} {A : AS} {H : Hp}
theorem ins_ps : ∀ {ms : List Bool} {vs : List V} {ds : List PD} {ps : List Addr} (i : Nat), ArgsR A H ms vs ds ps → (insAt i ms vs).map (·.2) = ps
  | _, _, _, _, _, .nil => rfl
  | _, _, _, _, i, .imm _ h => by simp only [insAt]; exact ins_ps (i + 1) h
  | _, _, _, _, i, .inp _ _ _ h => by simp only [insAt, List.map_cons]; rw [ins_ps (i + 1) h]
/-- what the arguments are, by their places -/
theorem args_at : ∀ {ms : List Bool} {vs : List V} {ds : List PD} {ps : List Addr}, ArgsR A H ms vs ds ps → ∀ (j : Nat) (s : Sl), (argD ms ds)[j]? = some (some s) → ∃ v, vs[j]? = some v ∧ SlR K A H v s ∧ (∀ p d b, s = .own b d → v = .ref p → b = true ∧ p ∈ ps)
  | _, _, _, _, .nil, j, s, e => by simp [argD] at e
  | _, _, _, _, .imm r h, 0, s, e => by
    simp only [argD, slOf] at e
    simp at e
    subst e
    exact ⟨_, rfl, r, fun p d b z => nomatch z⟩
  | _, _, _, _, .imm r h, j + 1, s, e => by
    obtain ⟨v, e1, r1, o⟩ := args_at h j s (by simpa [argD] using e)
    exact ⟨v, by simpa using e1, r1, o⟩
  | _, _, _, _, .inp n o hn h, 0, s, e => by
    simp only [argD, slOf] at e
    simp at e
    subst e
    exact ⟨_, rfl, ⟨_, rfl, n, o⟩, fun p d b z y => by cases z; cases y; exact ⟨rfl, by simp⟩⟩
  | _, _, _, _, .inp n o hn h, j + 1, s, e => by
    obtain ⟨v, e1, r1, o⟩ := args_at h j s (by simpa [argD] using e)
    exact ⟨v, by simpa using e1, r1, fun p d b z y => let ⟨x, w⟩ := o p d b z y; ⟨x, List.mem_cons_of_mem _ w⟩⟩
theorem args_dist : ∀ {ms : List Bool} {vs : List V} {ds : List PD} {ps : List Addr}, ArgsR A H ms vs ds ps → ∀ (i j : Nat) (b b' : Bool) (d d' : PD) (p : Addr), (argD ms ds)[i]? = some (some (.own b d)) → (argD ms ds)[j]? = some (some (.own b' d')) → vs[i]? = some (.ref p) → vs[j]? = some (.ref p) → i = j
  | _, _, _, _, .nil, i, j, _, _, _, _, _, e, _, _, _ => by simp [argD] at e
  | _, _, _, _, .imm r h, i, j, b, b', d, d', p, e1, e2, e3, e4 => by
    cases i with
    | zero => simp [argD, slOf] at e1
    | succ i => cases j with
      | zero => simp [argD, slOf] at e2
      | succ j => rw [args_dist h i j b b' d d' p (by simpa [argD] using e1) (by simpa [argD] using e2) (by simpa using e3) (by simpa using e4)]
  | _, _, _, _, .inp (p := q) n o hn h, i, j, b, b', d, d', p, e1, e2, e3, e4 => by
    cases i with
    | zero => cases j with
      | zero => rfl
      | succ j =>
        exfalso
        have hq : q = p := by simpa using e3
        obtain ⟨v, f1, _, f2⟩ := args_at (K := []) h j _ (by simpa [argD] using e2)
        have e4' : v = .ref p := by
          have : _ = some (V.ref p) := e4
          simp at this
          rw [this] at f1
          exact (Option.some.inj f1).symm
        exact hn (by rw [hq]; exact (f2 p _ _ rfl e4').2)
    | succ i => cases j with
      | zero =>
        exfalso
        have hq : q = p := by simpa using e4
        obtain ⟨v, f1, _, f2⟩ := args_at (K := []) h i _ (by simpa [argD] using e1)
        have e4' : v = .ref p := by
          have : _ = some (V.ref p) := e3
          simp at this
          rw [this] at f1
          exact (Option.some.inj f1).symm
        exact hn (by rw [hq]; exact (f2 p _ _ rfl e4').2)
      | succ j => rw [args_dist h i j b b' d d' p (by simpa [argD] using e1) (by simpa [argD] using e2) (by simpa using e3) (by simpa using e4)]
theorem args_ins : ∀ {ms : List Bool} {vs : List V} {ds : List PD} {ps : List Addr} (i : Nat), ArgsR A H ms vs ds ps → ∀ q ∈ insAt i ms vs, i ≤ q.1 ∧ vs[q.1 - i]? = some (.ref q.2) ∧ ∃ d, (argD ms ds)[q.1 - i]? = some (some (.own true d))
  | _, _, _, _, i, .nil, q, h => by simp [insAt] at h
  | _, _, _, _, i, .imm r h, q, hq => by
    simp only [insAt] at hq
    obtain ⟨h1, h2, d, h3⟩ := args_ins (i + 1) h q hq
    have e : q.1 - i = (q.1 - (i + 1)) + 1 := by omega
    exact ⟨by omega, by rw [e]; simpa using h2, d, by rw [e]; simpa [argD] using h3⟩
  | _, _, _, _, i, .inp n o hn h, q, hq => by
    simp only [insAt, List.mem_cons] at hq
    rcases hq with rfl | hq
    · exact ⟨Nat.le_refl _, by simp, _, by simp [argD, slOf]; rfl⟩
    · obtain ⟨h1, h2, d, h3⟩ := args_ins (i + 1) h q hq
      have e : q.1 - i = (q.1 - (i + 1)) + 1 := by omega
      exact ⟨by omega, by rw [e]; simpa using h2, d, by rw [e]; simpa [argD] using h3⟩
theorem argD_len : ∀ {ms : List Bool} {vs : List V} {ds : List PD} {ps : List Addr}, ArgsR A H ms vs ds ps → (argD ms ds).length = vs.length
  | _, _, _, _, .nil => rfl
  | _, _, _, _, .imm _ h => by simp [argD, argD_len h]
  | _, _, _, _, .inp _ _ _ h => by simp [argD, argD_len h]
theorem rep_none {α : Type} {n i : Nat} {s : α} : (List.replicate n (none : Option α))[i]? ≠ some (some s) := by
  intro e
  rw [List.getElem?_replicate] at e
  split at e <;> cases e
theorem ER.begins {N : List Str} {ms : List Bool} {vs : List V} {ds : List PD} {ps : List Addr} (hd : ∀ a, A a → H a ≠ none) (h : ArgsR A H ms vs ds ps) :
    ER K ⟨A, H, insAt 0 ms vs⟩ A H (L2.start N vs) (startD N.length ms ds) := by
  have hl := argD_len h
  have hv := h.length
  have low : ∀ {j : Nat} {s : Sl}, (startD N.length ms ds)[j]? = some (some s) → (argD ms ds)[j]? = some (some s) ∧ j < vs.length := fun {j s} e => by
    unfold startD at e
    by_cases hj : j < (argD ms ds).length
    · rw [List.getElem?_append_left hj] at e
      exact ⟨e, by omega⟩
    · rw [List.getElem?_append_right (by omega)] at e
      exact absurd e rep_none
  have val : ∀ {j : Nat} {v : V}, vs[j]? = some v → (L2.start N vs)[j]? = some (some v) := fun {j v} e => by
    unfold L2.start
    rw [List.getElem?_append_left (by have := (List.getElem?_eq_some_iff.mp e).1; simpa using this), List.getElem?_map, e]
    rfl
  have lav : ∀ {j : Nat} {v : V}, j < vs.length → (L2.start N vs)[j]? = some (some v) → vs[j]? = some v := fun {j v} hj e => by
    unfold L2.start at e
    rw [List.getElem?_append_left (by simpa using hj), List.getElem?_map] at e
    cases q : vs[j]? with
    | none => rw [q] at e; cases e
    | some w => rw [q] at e; cases e; rfl
  have hS : ∀ p, Ent.S ⟨A, H, insAt 0 ms vs⟩ p → p ∈ ps := fun p ⟨q, hq, e⟩ => by
    rw [← ins_ps 0 h]
    exact List.mem_map.mpr ⟨q, hq, e⟩
  refine ⟨by unfold L2.start startD; simp [hl, hv], fun j s e => ?_, fun i j b b' d d' p e1 e2 e3 e4 => ?_, hd, fun _ _ e _ => e, fun _ h => h, fun _ h => .inl h, fun j b d p e1 e2 => ?_, fun p hp => ?_, fun q hq => ?_⟩
  · obtain ⟨e1, _⟩ := low e
    obtain ⟨v, e2, r, _⟩ := args_at h j s e1
    exact ⟨v, val e2, r⟩
  · obtain ⟨f1, g1⟩ := low e1
    obtain ⟨f2, g2⟩ := low e2
    exact args_dist h i j b b' d d' p f1 f2 (lav g1 e3) (lav g2 e4)
  · obtain ⟨f1, g1⟩ := low e1
    obtain ⟨v, e3, _, o⟩ := args_at (K := K) h j _ f1
    rw [lav g1 e2] at e3
    cases e3
    obtain ⟨rfl, hp⟩ := o p d b rfl rfl
    rw [if_pos rfl]
    rw [← ins_ps 0 h] at hp
    obtain ⟨q, hq, e⟩ := List.mem_map.mp hp
    exact ⟨q, hq, e⟩
  · obtain ⟨q, hq, rfl⟩ := hp
    obtain ⟨_, h2, d, h3⟩ := args_ins 0 h q hq
    obtain ⟨v, e3, ⟨p', e4, n, _⟩, _⟩ := args_at (K := K) h _ _ h3
    rw [h2] at e3
    cases e3
    cases e4
    exact n
  · obtain ⟨_, h2, d, h3⟩ := args_ins 0 h q hq
    refine ⟨val (by simpa using h2), d, ?_⟩
    unfold startD
    have hj : q.1 < (argD ms ds).length := by have := (List.getElem?_eq_some_iff.mp h3).1; simpa using this
    rw [List.getElem?_append_left hj]
    simpa using h3
theorem outs_of {F : Ent} {A' : AS} {H' : Hp} {σ : L2.St} {ρ : Dn} (E : ER K F A' H' σ ρ) : ∀ {ms : List Bool} {vs : List V} (i : Nat) {o : List PD}, (∀ q ∈ insAt i ms vs, q ∈ F.ins) → vs.length = ms.length → outsAt ρ i ms = some o → (∀ (j : Nat), ms[j]? = some true → ∃ p, vs[j]? = some (.ref p)) → OutsR A' H' ((insAt i ms vs).map (·.2)) o
  | [], vs, i, o, _, hv, e, _ => by
    cases e
    cases vs with
    | nil => exact .nil
    | cons _ _ => cases hv
  | false :: ms, v :: vs, i, o, hi, hv, e, hr => outs_of E (ms := ms) (vs := vs) (i + 1) (o := o) hi (by simpa using hv) e fun j hj => by
    have := hr (j + 1) (by simpa using hj)
    simpa using this
  | true :: ms, v :: vs, i, o, hi, hv, e, hr => by
    obtain ⟨p, hp⟩ := hr 0 rfl
    have hp' : v = .ref p := by simpa using hp
    subst hp'
    simp only [insAt, List.map_cons]
    have hin := hi (i, p) (by simp [insAt])
    obtain ⟨e1, d, e2⟩ := E.ins _ hin
    simp only [outsAt, e2] at e
    cases e3 : outsAt ρ (i + 1) ms with
    | none => rw [e3] at e; cases e
    | some o' =>
      rw [e3] at e
      cases e
      obtain ⟨v, e4, p', e5, n, ob⟩ := E.slot _ _ e2
      rw [e1] at e4
      cases e4
      cases e5
      exact .cons n ob (outs_of E (i + 1) (fun q hq => hi q (by simp [insAt, hq])) (by simpa using hv) e3 fun j hj => by
        have := hr (j + 1) (by simpa using hj)
        simpa using this)
theorem args_refs : ∀ {ms : List Bool} {vs : List V} {ds : List PD} {ps : List Addr}, ArgsR A H ms vs ds ps → ∀ (j : Nat), ms[j]? = some true → ∃ p, vs[j]? = some (.ref p)
  | _, _, _, _, .nil, j, e => by simp at e
  | _, _, _, _, .imm _ h, 0, e => by simp at e
  | _, _, _, _, .imm _ h, j + 1, e => by
    obtain ⟨p, q⟩ := args_refs h j (by simpa using e)
    exact ⟨p, by simpa using q⟩
  | _, _, _, _, .inp _ _ _ h, 0, e => ⟨_, rfl⟩
  | _, _, _, _, .inp _ _ _ h, j + 1, e => by
    obtain ⟨p, q⟩ := args_refs h j (by simpa using e)
    exact ⟨p, by simpa using q⟩
end
section
variable {K : PySem.W.Frag} {mg : Str → Option Value} {W : WX} {A : AS} {H : Hp}
/-- the body's end is the def's end -/
theorem run_end {N : List Str} {ms : List Bool} {vs : List V} {ds : List PD} {ps : List Addr} {b : SM} {Q : VK} {E : XK} (h : ArgsR A H ms vs ds ps) (hq : PstF mg A H ps Q E (runF N.length ms b ds)) (hW : ∀ cls d σ H', E cls d H' → W cls d σ H') :
    PstS K mg W ⟨A, H, insAt 0 ms vs⟩ A H { nx := fun _ H' => Q .non H', rt := Q } (b (startD N.length ms ds)) := by
  have frame : ∀ {A' : AS} {H' : Hp} {σ' : L2.St} {ρ' : Dn}, ER K ⟨A, H, insAt 0 ms vs⟩ A' H' σ' ρ' → FrameF A H ps A' H' := fun {A' H' σ' ρ'} E' =>
    ⟨fun b o e n => E'.kp b o e fun ⟨q, hq, e'⟩ => n (by rw [← ins_ps 0 h]; exact List.mem_map.mpr ⟨q, hq, e'⟩), E'.mono, E'.grow, E'.dom, fun b e => E'.fnone e⟩
  have outs : ∀ {A' : AS} {H' : Hp} {σ' : L2.St} {ρ' : Dn} {o : List PD}, ER K ⟨A, H, insAt 0 ms vs⟩ A' H' σ' ρ' → outsAt ρ' 0 ms = some o → OutsR A' H' ps o := fun {A' H' σ' ρ' o} E' e => by
    have := outs_of E' 0 (fun q hq => hq) h.length e (args_refs h)
    rw [ins_ps 0 h] at this
    exact this
  unfold runF at hq
  cases eb : b (startD N.length ms ds) with
  | nx ρ =>
    rw [eb] at hq
    dsimp only at hq
    cases eo : outsAt ρ 0 ms with
    | none => rw [eo] at hq; exact hq.elim
    | some o =>
      rw [eo] at hq
      exact fun A' H' σ' E' _ => hq A' H' .non (frame E') (outs E' eo) .non
  | rt r ρ =>
    rw [eb] at hq
    dsimp only at hq
    cases eo : outsAt ρ 0 ms with
    | none => rw [eo] at hq; exact hq.elim
    | some o =>
      rw [eo] at hq
      cases er : resOf ρ r with
      | none => rw [er] at hq; exact hq.elim
      | some c =>
        rw [er] at hq
        refine fun A' H' σ' v E' _ R => hq A' H' v (frame E') (outs E' eo) ?_
        cases r with
        | val d => cases er; exact R
        | fresh d =>
          cases er
          obtain ⟨p, e, ⟨h1, h2, h3, h4⟩, h5⟩ := R
          exact ⟨p, e, h1, h3, h5⟩
        | slot i =>
          obtain ⟨e1, s, e2⟩ := R
          simp only [resOf, e2] at er
          obtain ⟨v', e3, r⟩ := E'.slot i s e2
          rw [e1] at e3
          cases e3
          cases s with
          | imm d => cases er; exact r
          | own bb d =>
            cases bb with
            | true => cases er
            | false =>
              cases er
              obtain ⟨p, rfl, n, ob⟩ := r
              have := E'.ownF i false d p e2 e1
              exact ⟨p, rfl, n, by simpa using this, ob⟩
          | scr ns => cases er
  | ex e ρ =>
    rw [eb] at hq
    dsimp only at hq
    cases eo : outsAt ρ 0 ms with
    | none => rw [eo] at hq; exact hq.elim
    | some o =>
      rw [eo] at hq
      exact fun A' H' σ' cls d E' _ X => hW _ _ _ _ (hq A' H' cls d (frame E') (outs E' eo) X)
  | bk ρ => rw [eb] at hq; exact hq.elim
  | ct ρ => rw [eb] at hq; exact hq.elim
  | no => rw [eb] at hq; exact hq.elim
end
/-- a def that lets no exception out -/
theorem fn_sim {P : Program} {w : World} {K : PySem.W.Frag} {mg : Str → Option Value} {base : Heap} {x qual : Str} {st : Stmt} {f : Addr} {fd : FuncData} {N ps : List Str} {k : Nat} {ms : List Bool} {b : SM} (F : Fun K x qual st f fd) (S : FnScope N ps (defScope st)) (hm : ms.length = ps.length)
    (hb : ∀ (cdv : Value) (A : Around) (outer : List PySem.Env) (s : Shared) (H : Hp) (E : XK), Room k (A.deeper (PyProof.Rows.envOfC qual (defScope st) s.heap.objs.size f cdv)) → SimB (cxOf CX0 P w K mg base N qual (defScope st) f cdv A outer s H E).nox noW (defBody st) b) :
    FnOk P w K mg base CX0 (k + 1) f fd ps (spD mg ms fun ds => (runF N.length ms b ds).calm) := by
  refine F.ok S (fun vs H Q E ⟨A, ds, qs, _, h, _⟩ => by rw [h.length, hm]) fun cdv A outer s H vs Q E hr ⟨Z, ds, qs, hd, ha, hq⟩ => ?_
  obtain ⟨t, p, h⟩ := hb cdv A outer s H E hr
  exact ⟨t, p, h _ Z H _ _ _ (ER.begins hd ha) (run_end (E := fun _ _ _ => False) ha (by
    dsimp only at hq
    cases er : runF N.length ms b ds with
    | ok c o => rw [er] at hq; exact hq
    | ex e o => rw [er] at hq; exact hq.elim
    | no => rw [er] at hq; exact hq) fun _ _ _ _ z => z)⟩
/-- a def that may let exceptions out -/
theorem fn_simX {P : Program} {w : World} {K : PySem.W.Frag} {mg : Str → Option Value} {base : Heap} {x qual : Str} {st : Stmt} {f : Addr} {fd : FuncData} {N ps : List Str} {k : Nat} {ms : List Bool} {b : SM} (F : Fun K x qual st f fd) (S : FnScope N ps (defScope st)) (hm : ms.length = ps.length)
    (hb : ∀ (cdv : Value) (A : Around) (outer : List PySem.Env) (s : Shared) (H : Hp) (E : XK), Room k (A.deeper (PyProof.Rows.envOfC qual (defScope st) s.heap.objs.size f cdv)) → SimB (cxOf (L2.CX P w) P w K mg base N qual (defScope st) f cdv A outer s H E) (fun cls d _ H => E cls d H) (defBody st) b) :
    FnOk P w K mg base (L2.CX P w) (k + 1) f fd ps (spD mg ms (runF N.length ms b)) := by
  refine F.okX S (fun vs H Q E ⟨A, ds, qs, _, h, _⟩ => by rw [h.length, hm]) fun cdv A outer s H vs Q E hr ⟨Z, ds, qs, hd, ha, hq⟩ => ?_
  obtain ⟨t, p, h⟩ := hb cdv A outer s H E hr
  exact ⟨t, p, h _ Z H _ _ _ (ER.begins hd ha) (run_end ha hq fun _ _ _ _ z => z)⟩
/-! ### calls -/
mutual
/-- no lists (l), no dicts (k) within -/
def clean (l k : Bool) : PD → Bool
  | .list ds => !l && cleanAll l k ds
  | .tuple ds => cleanAll l k ds
  | .dict ds => !k && cleanKV l k ds
  | _ => true
def cleanAll (l k : Bool) : List PD → Bool
  | [] => true
  | d :: ds => clean l k d && cleanAll l k ds
def cleanKV (l k : Bool) : List (PD × PD) → Bool
  | [] => true
  | (_, d) :: ds => clean l k d && cleanKV l k ds
end
/-- A without B -/
def less (A B : AS) : AS := fun a => A a ∧ ¬ B a
def Bad (B : AS) (H : Hp) (l k : Bool) : Prop := ∀ a, B a → (l = true ∧ ∃ xs, H a = some (.lst xs)) ∨ (k = true ∧ ∃ xs, H a = some (.dK xs))
mutual
theorem Rp.less {A B : AS} {H : Hp} {l k : Bool} (hb : Bad B H l k) : ∀ {v : V} {d : PD}, Rp A H v d → clean l k d = true → Rp (less A B) H v d
  | _, _, .non, _ => .non
  | _, _, .bl b, _ => .bl b
  | _, _, .int i, _ => .int i
  | _, _, .str x, _ => .str x
  | _, _, .lst (a := a) ha hr r, c => by
    simp only [clean, Bool.and_eq_true, Bool.not_eq_true'] at c
    refine .lst ⟨ha, fun hB => ?_⟩ hr (RpAll.less hb r c.2)
    rcases hb a hB with ⟨h1, _⟩ | ⟨h1, ys, h2⟩
    · rw [c.1] at h1; cases h1
    · rw [hr] at h2; cases h2
  | _, _, .tup h r, c => .tup h (RpAll.less hb r (by simpa [clean] using c))
  | _, _, .dic (a := a) ha h r, c => by
    simp only [clean, Bool.and_eq_true, Bool.not_eq_true'] at c
    refine .dic ⟨ha, fun hB => ?_⟩ h (RpKV.less hb r c.2)
    rcases hb a hB with ⟨h1, ys, h2⟩ | ⟨h1, ys, h2⟩
    · rw [h] at h2; cases h2
    · rw [c.1] at h1; cases h1
theorem RpAll.less {A B : AS} {H : Hp} {l k : Bool} (hb : Bad B H l k) : ∀ {v : List V} {d : List PD}, RpAll A H v d → cleanAll l k d = true → RpAll (less A B) H v d
  | _, _, .nil, _ => .nil
  | _, _, .cons r h, c => by
    simp only [cleanAll, Bool.and_eq_true] at c
    exact .cons (Rp.less hb r c.1) (RpAll.less hb h c.2)
theorem RpKV.less {A B : AS} {H : Hp} {l k : Bool} (hb : Bad B H l k) : ∀ {v : List (Key × V)} {d : List (PD × PD)}, RpKV A H v d → cleanKV l k d = true → RpKV (less A B) H v d
  | _, _, .nil, _ => .nil
  | _, _, .cons r h, c => by
    simp only [cleanKV, Bool.and_eq_true] at c
    exact .cons (Rp.less hb r c.1) (RpKV.less hb h c.2)
end
def cleanTop (l k : Bool) : PD → Bool
  | .list ds => cleanAll l k ds
  | .dict ds => cleanKV l k ds
  | d => clean l k d
theorem OwnObj.less {A B : AS} {H : Hp} {l k : Bool} {p : Addr} {d : PD} (hb : Bad B H l k) (h : OwnObj A H p d) (c : cleanTop l k d = true) : OwnObj (less A B) H p d := by
  cases d <;> simp only [OwnObj] at h ⊢
  · obtain ⟨xs, e, r⟩ := h; exact ⟨xs, e, r.less hb c⟩
  · obtain ⟨xs, e, r⟩ := h; exact ⟨xs, e, r.less hb c⟩
def cleanRc (l k : Bool) : Rc → Bool
  | .val d => clean l k d
  | .fresh d => cleanTop l k d
def isOwn (ρ : Dn) (i : Nat) : Bool :=
  match ρ[i]? with
  | some (some (.own _ _)) => true
  | _ => false
def isOwnL (ρ : Dn) (i : Nat) : Bool :=
  match ρ[i]? with
  | some (some (.own _ (.list _))) => true
  | _ => false
def isOwnD (ρ : Dn) (i : Nat) : Bool :=
  match ρ[i]? with
  | some (some (.own _ (.dict _))) => true
  | _ => false
/-- the arguments: their data, the slots that are lent, the slots that are handed in to be changed -/
def prep : List Bool → List Rv → Dn → Option (List PD × List Nat × List Nat)
  | [], [], _ => some ([], [], [])
  | false :: ms, r :: rs, ρ => match rd r ρ, prep ms rs ρ with
    | some d, some (ds, bs, os) => some (d :: ds, (match r with
      | .slot i => if isOwn ρ i = true then i :: bs else bs
      | _ => bs), os)
    | _, _ => none
  | true :: ms, .slot i :: rs, ρ => match ρ[i]?, prep ms rs ρ with
    | some (some (.own _ d)), some (ds, bs, os) => if os.contains i = true then none else some (d :: ds, bs, i :: os)
    | _, _ => none
  | _, _, _ => none
def okBO (bs os : List Nat) : Bool := os.all fun i => !bs.contains i
def setOwn (ρ : Dn) (i : Nat) (d : PD) : Dn :=
  match ρ[i]? with
  | some (some (.own b _)) => ρ.set i (some (.own b d))
  | _ => ρ
def setOuts : List Nat → List PD → Dn → Dn
  | i :: is, d :: ds, ρ => setOuts is ds (setOwn ρ i d)
  | _, _, ρ => ρ
def eCall (ms : List Bool) (m : List PD → FR) (fa : M (List Rv)) : M Rv := bnd fa fun rs ρ =>
  match prep ms rs ρ with
  | none => .no
  | some (ds, bs, os) => if okBO bs os = true then
      match m ds with
      | .ok c outs => if (cleanRc (bs.any (isOwnL ρ)) (bs.any (isOwnD ρ)) c && outs.all (cleanTop (bs.any (isOwnL ρ)) (bs.any (isOwnD ρ)))) = true then .ok c.rv (setOuts os outs ρ) else .no
      | .ex e outs => if ((e.fs.map (·.2)).all (clean (bs.any (isOwnL ρ)) (bs.any (isOwnD ρ))) && outs.all (cleanTop (bs.any (isOwnL ρ)) (bs.any (isOwnD ρ)))) = true then .ex e (setOuts os outs ρ) else .no
      | .no => .no
    else .no
end DP
/-! DPY: calls of defs. -/
namespace DP
open PySem L2
def frA : List V → List Rv → List Addr
  | .ref a :: vs, .fresh _ :: rs => a :: frA vs rs
  | _ :: vs, _ :: rs => frA vs rs
  | _, _ => []
def BoA (σ : L2.St) (bs : List Nat) : AS := fun a => ∃ i ∈ bs, σ[i]? = some (some (.ref a))
inductive OsP (σ : L2.St) (ρ : Dn) : List Nat → List Addr → Prop
  | nil : OsP σ ρ [] []
  | cons {i : Nat} {p : Addr} {os : List Nat} {ps : List Addr} : σ[i]? = some (some (.ref p)) → (∃ b d, ρ[i]? = some (some (.own b d))) → i ∉ os → OsP σ ρ os ps → OsP σ ρ (i :: os) (p :: ps)
section
variable {K : PySem.W.Frag} {F : Ent} {Z : Hp} {A : AS} {H : Hp} {σ : L2.St} {ρ : Dn}
theorem OsP.mem : ∀ {os : List Nat} {ps : List Addr}, OsP σ ρ os ps → ∀ p ∈ ps, ∃ i ∈ os, σ[i]? = some (some (.ref p)) ∧ ∃ b d, ρ[i]? = some (some (.own b d))
  | _, _, .nil, p, h => nomatch h
  | _, _, .cons e o n r, p, h => by
    rcases List.mem_cons.mp h with rfl | h
    · exact ⟨_, by simp, e, o⟩
    · obtain ⟨i, hi, e', o'⟩ := OsP.mem r p h
      exact ⟨i, List.mem_cons_of_mem _ hi, e', o'⟩
theorem frA_mem : ∀ {vs : List V} {rs : List Rv}, RvRs F Z A H σ ρ vs rs → ∀ a ∈ frA vs rs, ¬ A a ∧ ¬ Ow σ ρ a ∧ F.H a = none ∧ Z a = none ∧ H a ≠ none
  | _, _, .nil, a, h => by simp [frA] at h
  | v :: _, r :: _, .cons h hs, a, ha => by
    cases r with
    | fresh d =>
      obtain ⟨p, rfl, ⟨h1, h2, h3, h4⟩, h5⟩ := h
      simp only [frA, List.mem_cons] at ha
      rcases ha with rfl | ha
      · exact ⟨h1, h2, h3, h4, h5.ne⟩
      · exact frA_mem hs a ha
    | val d => exact frA_mem hs a (by cases v <;> simpa [frA] using ha)
    | slot i => exact frA_mem hs a (by cases v <;> simpa [frA] using ha)
theorem prep_bs : ∀ {ms : List Bool} {rs : List Rv} {ds : List PD} {bs os : List Nat}, prep ms rs ρ = some (ds, bs, os) → ∀ i ∈ bs, isOwn ρ i = true
  | [], [], _, _, _, e, i, h => by simp [prep] at e; obtain ⟨_, rfl, _⟩ := e; cases h
  | [], _ :: _, _, _, _, e, i, h => by simp [prep] at e
  | false :: ms, [], _, _, _, e, i, h => by simp [prep] at e
  | true :: ms, [], _, _, _, e, i, h => by simp [prep] at e
  | false :: ms, r :: rs, ds, bs, os, e, i, h => by
    simp only [prep] at e
    cases e1 : rd r ρ with
    | none => rw [e1] at e; simp at e
    | some d =>
      rw [e1] at e
      cases e2 : prep ms rs ρ with
      | none => rw [e2] at e; simp at e
      | some q =>
        obtain ⟨ds', bs', os'⟩ := q
        rw [e2] at e
        simp only [Option.some.injEq, Prod.mk.injEq] at e
        obtain ⟨rfl, rfl, rfl⟩ := e
        have ih := prep_bs e2
        cases r with
        | val d => exact ih i h
        | fresh d => exact ih i h
        | slot j =>
          dsimp only at h
          split at h
          · rename_i ho
            rcases List.mem_cons.mp h with rfl | h
            · exact ho
            · exact ih i h
          · exact ih i h
  | true :: ms, .val _ :: rs, _, _, _, e, i, h => by simp [prep] at e
  | true :: ms, .fresh _ :: rs, _, _, _, e, i, h => by simp [prep] at e
  | true :: ms, .slot j :: rs, ds, bs, os, e, i, h => by
    simp only [prep] at e
    split at e
    · rename_i b d ds' bs' os' e1 e2
      split at e
      · cases e
      · simp only [Option.some.injEq, Prod.mk.injEq] at e
        obtain ⟨rfl, rfl, rfl⟩ := e
        exact prep_bs e2 i h
    · cases e
theorem prep_run (E : ER K F A H σ ρ) (Ac : AS) (hA : ∀ a, A a → Ac a) : ∀ {ms : List Bool} {rs : List Rv} {vs : List V} {ds : List PD} {bs os : List Nat}, RvRs F Z A H σ ρ vs rs → prep ms rs ρ = some (ds, bs, os) → (∀ a ∈ frA vs rs, Ac a) → (∀ a, BoA σ bs a → Ac a) →
    ∃ ps, OsP σ ρ os ps ∧ ((∀ p ∈ ps, ¬ Ac p) → ArgsR Ac H ms vs ds ps)
  | [], [], _, _, _, _, .nil, e, _, _ => by
    simp [prep] at e
    obtain ⟨rfl, rfl, rfl⟩ := e
    exact ⟨[], .nil, fun _ => .nil⟩
  | [], _ :: _, _, _, _, _, _, e, _, _ => by simp [prep] at e
  | false :: ms, [], _, _, _, _, _, e, _, _ => by simp [prep] at e
  | true :: ms, [], _, _, _, _, _, e, _, _ => by simp [prep] at e
  | false :: ms, r :: rs, v :: vs, ds, bs, os, .cons R Rs, e, hf, hb => by
    simp only [prep] at e
    cases e1 : rd r ρ with
    | none => rw [e1] at e; simp at e
    | some d =>
      rw [e1] at e
      cases e2 : prep ms rs ρ with
      | none => rw [e2] at e; simp at e
      | some q =>
        obtain ⟨ds', bs', os'⟩ := q
        rw [e2] at e
        simp only [Option.some.injEq, Prod.mk.injEq] at e
        obtain ⟨rfl, rfl, rfl⟩ := e
        have kp : Kp A Ac H H := ⟨hA, fun _ _ _ e => e, fun _ _ e => e⟩
        have hf' : ∀ a ∈ frA vs rs, Ac a := fun a ha => hf a (by
          cases r <;> cases v <;> simp [frA, ha])
        have hb' : ∀ a, BoA σ bs' a → Ac a := fun a ⟨i, hi, ei⟩ => hb a ⟨i, by
          cases r with
          | val d => exact hi
          | fresh d => exact hi
          | slot j => dsimp only; split <;> simp [hi], ei⟩
        obtain ⟨ps, h1, h2⟩ := prep_run E Ac hA Rs e2 hf' hb'
        refine ⟨ps, h1, fun hp => .imm ?_ (h2 hp)⟩
        cases r with
        | val d' => cases e1; exact Rp.kp kp R
        | fresh d' =>
          cases e1
          obtain ⟨p, rfl, _, o⟩ := R
          have hc : Ac p := hf p (by simp [frA])
          have hr := o.rp
          exact Rp.kp ⟨fun a z => z.elim (hA a) fun z => by subst z; exact hc, fun _ _ _ e => e, fun _ _ e => e⟩ hr
        | slot i =>
          obtain ⟨e3, s, e4⟩ := R
          simp only [rd, e4] at e1
          obtain ⟨v', e5, rr⟩ := E.slot i s e4
          rw [e3] at e5
          cases e5
          cases s with
          | imm d' => cases e1; exact Rp.kp kp rr
          | own b d' =>
            cases e1
            obtain ⟨p, rfl, n, o⟩ := rr
            have hc : Ac p := hb p ⟨i, by simp [isOwn, e4], e3⟩
            have hr := o.rp
            exact Rp.kp ⟨fun a z => z.elim (hA a) fun z => by subst z; exact hc, fun _ _ _ e => e, fun _ _ e => e⟩ hr
          | scr ns => cases e1
  | true :: ms, .val _ :: rs, _, _, _, _, _, e, _, _ => by simp [prep] at e
  | true :: ms, .fresh _ :: rs, _, _, _, _, _, e, _, _ => by simp [prep] at e
  | true :: ms, .slot j :: rs, v :: vs, ds, bs, os, .cons R Rs, e, hf, hb => by
    simp only [prep] at e
    split at e
    · rename_i b d ds' bs' os' e1 e2
      split at e
      · cases e
      · rename_i hn
        simp only [Option.some.injEq, Prod.mk.injEq] at e
        obtain ⟨rfl, rfl, rfl⟩ := e
        obtain ⟨e3, s, e4⟩ := R
        rw [e1] at e4
        cases e4
        obtain ⟨v', e5, p, rfl, n, o⟩ := E.slot j _ e1
        rw [e3] at e5
        cases e5
        have kp : Kp A Ac H H := ⟨hA, fun _ _ _ e => e, fun _ _ e => e⟩
        obtain ⟨ps, h1, h2⟩ := prep_run E Ac hA Rs e2 (fun a ha => hf a (by simpa [frA] using ha)) hb
        have hj : j ∉ os' := fun z => hn (by simpa using z)
        refine ⟨p :: ps, .cons e3 ⟨b, d, e1⟩ hj h1, fun hp => .inp (hp p (by simp)) (o.kp kp rfl) (fun hm => ?_) (h2 fun q hq => hp q (List.mem_cons_of_mem _ hq))⟩
        obtain ⟨i, hi, f1, b', d', f2⟩ := h1.mem p hm
        exact hj (by rw [E.dist j i b b' d d' p e1 f2 e3 f1]; exact hi)
    · cases e
theorem setOwn_at {i j : Nat} {d : PD} : (setOwn ρ i d)[j]? = if i = j ∧ isOwn ρ i = true then (match ρ[i]? with | some (some (.own b _)) => some (some (.own b d)) | o => o) else ρ[j]? := by
  unfold setOwn isOwn
  split
  · rename_i b d0 e
    by_cases h : i = j
    · subst h
      rw [if_pos ⟨rfl, rfl⟩]
      rw [get_set_self (List.getElem?_eq_some_iff.mp e).1]
      try rw [e]
    · rw [if_neg (fun z => h z.1), get_set_ne h]
  · rename_i h
    rw [if_neg (by intro z; simp at z)]
theorem setOwn_len {i : Nat} {d : PD} : (setOwn ρ i d).length = ρ.length := by
  unfold setOwn
  split <;> simp
end
/-- what the outs say of a slot -/
theorem setOuts_at {A : AS} {H : Hp} {σ : L2.St} : ∀ {os : List Nat} {ps : List Addr} {ρ : Dn} {outs : List PD}, OsP σ ρ os ps → OutsR A H ps outs → ∀ (j : Nat) (s : Sl), (setOuts os outs ρ)[j]? = some (some s) →
    (j ∉ os ∧ ρ[j]? = some (some s)) ∨ (∃ b d p, s = .own b d ∧ σ[j]? = some (some (.ref p)) ∧ p ∈ ps ∧ OwnObj A H p d ∧ ∃ d0, ρ[j]? = some (some (.own b d0)))
  | _, _, ρ, _, .nil, .nil, j, s, e => .inl ⟨by simp, e⟩
  | _, _, ρ, _, .cons (i := i) (p := p) (os := os) (ps := ps) e1 ⟨b, d0, e2⟩ hn r, .cons (d := d) (ds := ds) n o q, j, s, e => by
    have hs : ∀ k, k ≠ i → (setOwn ρ i d)[k]? = ρ[k]? := fun k hk => by rw [setOwn_at, if_neg fun z => hk z.1.symm]
    have hself : (setOwn ρ i d)[i]? = some (some (.own b d)) := by rw [setOwn_at, if_pos ⟨rfl, by simp [isOwn, e2]⟩, e2]
    have r' : OsP σ (setOwn ρ i d) os ps := by
      have : ∀ {os : List Nat} {ps : List Addr}, i ∉ os → OsP σ ρ os ps → OsP σ (setOwn ρ i d) os ps := by
        intro os ps hi h
        induction h with
        | nil => exact .nil
        | cons a1 a2 a3 _ ih =>
          simp only [List.mem_cons, not_or] at hi
          exact .cons a1 (by rw [hs _ (Ne.symm hi.1)]; exact a2) a3 (ih hi.2)
      exact this hn r
    simp only [setOuts] at e
    rcases setOuts_at r' q j s e with ⟨hj, h⟩ | ⟨b', d', p', h1, h2, h3, h4, d1, h5⟩
    · by_cases hij : j = i
      · subst hij
        rw [hself] at h
        cases h
        exact .inr ⟨b, d, p, rfl, e1, by simp, o, d0, e2⟩
      · rw [hs j hij] at h
        exact .inl ⟨by simp [hij, hj], h⟩
    · refine .inr ⟨b', d', p', h1, h2, List.mem_cons_of_mem _ h3, h4, ?_⟩
      by_cases hij : j = i
      · subst hij
        rw [hself] at h5
        cases h5
        exact ⟨d0, e2⟩
      · rw [hs j hij] at h5
        exact ⟨d1, h5⟩
theorem setOuts_len : ∀ {os : List Nat} {outs : List PD} {ρ : Dn}, (setOuts os outs ρ).length = ρ.length
  | [], _, _ => rfl
  | _ :: _, [], _ => rfl
  | i :: os, d :: ds, ρ => by simp only [setOuts]; rw [setOuts_len, setOwn_len]
theorem setOuts_keep : ∀ {os : List Nat} {outs : List PD} {ρ : Dn} {j : Nat} {s : Sl}, ρ[j]? = some (some s) → ∃ s', (setOuts os outs ρ)[j]? = some (some s') ∧ (∀ b d, s = .own b d → ∃ d', s' = .own b d') ∧ ((∀ b d, s ≠ .own b d) → s' = s)
  | [], _, _, _, s, e => ⟨s, e, fun b d h => ⟨d, h⟩, fun _ => rfl⟩
  | _ :: _, [], _, _, s, e => ⟨s, e, fun b d h => ⟨d, h⟩, fun _ => rfl⟩
  | i :: os, d :: ds, ρ, j, s, e => by
    simp only [setOuts]
    by_cases h : i = j ∧ isOwn ρ i = true
    · obtain ⟨rfl, ho⟩ := h
      have hown : ∃ b d0, s = .own b d0 := by
        unfold isOwn at ho
        rw [e] at ho
        cases s with
        | imm d => cases ho
        | own b d0 => exact ⟨b, d0, rfl⟩
        | scr ns => cases ho
      obtain ⟨b, d0, rfl⟩ := hown
      have e1 : (setOwn ρ i d)[i]? = some (some (.own b d)) := by rw [setOwn_at, if_pos ⟨rfl, ho⟩, e]
      obtain ⟨s', f1, f2, f3⟩ := setOuts_keep (os := os) (outs := ds) e1
      obtain ⟨d', rfl⟩ := f2 b d rfl
      exact ⟨_, f1, fun b' d'' z => by cases z; exact ⟨d', rfl⟩, fun n => absurd rfl (n b d0)⟩
    · have e1 : (setOwn ρ i d)[j]? = some (some s) := by rw [setOwn_at, if_neg h]; exact e
      exact setOuts_keep (os := os) (outs := ds) e1
section
variable {K : PySem.W.Frag} {mg : Str → Option Value} {F : Ent} {A0 A : AS} {H0 H : Hp} {σ : L2.St} {ρ0 ρ : Dn}
/-- behind a call: the state of the caller -/
theorem after_call {Ac A' : AS} {H' : Hp} {vs : List V} {rs : List Rv} {bs os : List Nat} {ps : List Addr} {outs : List PD} {l k : Bool} (E : ER K F A H σ ρ) (S : Step A0 H0 σ ρ0 A H ρ) (R : RvRs F H0 A H σ ρ vs rs) (hbs : ∀ i ∈ bs, isOwn ρ i = true)
    (hAc : ∀ a, Ac a ↔ (A a ∨ a ∈ frA vs rs ∨ BoA σ bs a)) (ho : OsP σ ρ os ps) (hok : okBO bs os = true) (hl : l = bs.any (isOwnL ρ)) (hk : k = bs.any (isOwnD ρ)) (fr : FrameF Ac H ps A' H') (out : OutsR A' H' ps outs) (hc : outs.all (cleanTop l k) = true) :
    ER K F (less A' (BoA σ bs)) H' σ (setOuts os outs ρ) ∧ Step A0 H0 σ ρ0 (less A' (BoA σ bs)) H' (setOuts os outs ρ) ∧ Bad (BoA σ bs) H' l k ∧ (∀ p, Ow σ (setOuts os outs ρ) p → Ow σ ρ p) := by
  have bow : ∀ a, BoA σ bs a → ∃ i b d, i ∈ bs ∧ ρ[i]? = some (some (.own b d)) ∧ σ[i]? = some (some (.ref a)) := fun a ⟨i, hi, e⟩ => by
    have := hbs i hi
    unfold isOwn at this
    split at this
    · rename_i b d e2; exact ⟨i, b, d, hi, e2, e⟩
    · cases this
  have pow : ∀ p ∈ ps, ∃ i b d, i ∈ os ∧ ρ[i]? = some (some (.own b d)) ∧ σ[i]? = some (some (.ref p)) := fun p hp => by
    obtain ⟨i, hi, e, b, d, e2⟩ := ho.mem p hp
    exact ⟨i, b, d, hi, e2, e⟩
  have bnp : ∀ a, BoA σ bs a → a ∉ ps := fun a hb hp => by
    obtain ⟨i, b, d, hi, e1, e2⟩ := bow a hb
    obtain ⟨j, b', d', hj, f1, f2⟩ := pow a hp
    have := E.dist i j b b' d d' a e1 f1 e2 f2
    subst this
    have := List.all_eq_true.mp hok i hj
    simp [hi] at this
  have ownNotA' : ∀ {i : Nat} {b : Bool} {d : PD} {p : Addr}, ρ[i]? = some (some (.own b d)) → σ[i]? = some (some (.ref p)) → ¬ less A' (BoA σ bs) p := fun {i b d p} e1 e2 ⟨z, nb⟩ => by
    obtain ⟨h1, h2⟩ := E.ow ⟨i, b, d, e1, e2⟩
    rcases fr.grow p z with q | q
    · rcases (hAc p).mp q with q | q | q
      · exact h1 q
      · exact (frA_mem R p q).2.1 ⟨i, b, d, e1, e2⟩
      · exact nb q
    · rw [q] at h2; exact h2
  have kp : Kp A (less A' (BoA σ bs)) H H' := by
    refine ⟨fun a ha => ⟨fr.mono a ((hAc a).mpr (.inl ha)), fun hb => ?_⟩, fun a o ha e => fr.kp a o e fun hp => ?_, fun a xs e => fr.kp a _ e fun hp => ?_⟩
    · obtain ⟨i, b, d, _, e1, e2⟩ := bow a hb
      exact (E.ow ⟨i, b, d, e1, e2⟩).1 ha
    · obtain ⟨i, b, d, _, e1, e2⟩ := pow a hp
      exact (E.ow ⟨i, b, d, e1, e2⟩).1 ha
    · obtain ⟨i, b, d, _, e1, e2⟩ := pow a hp
      have := (E.ow ⟨i, b, d, e1, e2⟩).2
      rw [e] at this
      exact this
  have bad : Bad (BoA σ bs) H' l k := fun a hb => by
    obtain ⟨i, b, d, hi, e1, e2⟩ := bow a hb
    obtain ⟨v, e3, p, rfl, n, o⟩ := E.slot i _ e1
    rw [e2] at e3
    cases e3
    cases d with
    | list ds =>
      obtain ⟨xs, ex, _⟩ := o
      refine .inl ⟨?_, xs, fr.kp _ _ ex (bnp _ hb)⟩
      rw [hl]
      exact List.any_eq_true.mpr ⟨i, hi, by simp [isOwnL, e1]⟩
    | dict ds =>
      obtain ⟨xs, ex, _⟩ := o
      refine .inr ⟨?_, xs, fr.kp _ _ ex (bnp _ hb)⟩
      rw [hk]
      exact List.any_eq_true.mpr ⟨i, hi, by simp [isOwnD, e1]⟩
    | none => exact o.elim
    | bool _ => exact o.elim
    | int _ => exact o.elim
    | str _ => exact o.elim
    | tuple _ => exact o.elim
  have outc : ∀ {ps : List Addr} {outs : List PD}, OutsR A' H' ps outs → outs.all (cleanTop l k) = true → OutsR (less A' (BoA σ bs)) H' ps outs := by
    intro ps outs h
    induction h with
    | nil => intro _; exact .nil
    | cons n o _ ih =>
      intro hc
      simp only [List.all_cons, Bool.and_eq_true] at hc
      exact .cons (fun z => n z.1) (o.less bad hc.1) (ih hc.2)
  have out' := outc out hc
  have keepS : ∀ {b : Addr} {o : HO}, H b = some o → ¬ isLD (some o) → H' b = some o := fun {b o} e n => fr.kp b o e fun hp => by
    obtain ⟨i, bb, d, _, e1, e2⟩ := pow b hp
    have := (E.ow ⟨i, bb, d, e1, e2⟩).2
    rw [e] at this
    exact n this
  have osub : ∀ p, Ow σ (setOuts os outs ρ) p → Ow σ ρ p := fun p ⟨i, b, d, e1, e2⟩ => by
    rcases setOuts_at ho out' i _ e1 with ⟨_, h⟩ | ⟨b', d', q, h1, h2, h3, h4, d0, h5⟩
    · exact ⟨i, b, d, h, e2⟩
    · exact ⟨i, b', d0, h5, e2⟩
  refine ⟨⟨by rw [setOuts_len, E.len], fun i s e => ?_, fun i j b b' d d' p e1 e2 e3 e4 => ?_, fun a ha => fr.dom a ha.1, fun b o e n => ?_, fun a ha => kp.sub a (E.mono a ha), fun a ha => ?_, fun i b d p e1 e2 => ?_, fun p hp => ?_, fun q hq => ?_⟩, ⟨fun b o e n => ?_, fun a ha => kp.sub a (S.mono a ha), fun a ha => ?_, fun p h => S.sub p (osub p h), fun i s e => ?_, fun b e => S.live b (fr.live b e), by rw [setOuts_len, S.len]⟩, bad, osub⟩
  · rcases setOuts_at ho out' i s e with ⟨hi, h⟩ | ⟨b, d, p, rfl, h2, h3, h4, d0, h5⟩
    · obtain ⟨v, e1, r⟩ := E.slot i s h
      refine ⟨v, e1, ?_⟩
      cases s with
      | imm d => exact Rp.kp kp r
      | own b d =>
        obtain ⟨p, rfl, n, o⟩ := r
        refine ⟨p, rfl, ownNotA' h e1, o.kp kp ?_⟩
        cases ep : H p with
        | none => exact absurd ep o.ne
        | some ob =>
          refine fr.kp p ob ep fun hp => ?_
          obtain ⟨j, b', d', hj, f1, f2⟩ := pow p hp
          have := E.dist i j b b' d d' p h f1 e1 f2
          subst this
          exact hi hj
      | scr ns =>
        obtain ⟨p, rfl, q⟩ := r
        exact ⟨p, rfl, q.kp fun o u z => keepS z fun z => z⟩
    · exact ⟨.ref p, h2, p, rfl, ownNotA' h5 h2, h4⟩
  · rcases setOuts_at ho out' i _ e1 with ⟨_, h⟩ | ⟨b1, d1, q1, _, _, _, _, d0, h⟩
    · rcases setOuts_at ho out' j _ e2 with ⟨_, g⟩ | ⟨b2, d2, q2, _, _, _, _, d3, g⟩
      · exact E.dist i j _ _ _ _ p h g e3 e4
      · exact E.dist i j _ _ _ _ p h g e3 e4
    · rcases setOuts_at ho out' j _ e2 with ⟨_, g⟩ | ⟨b2, d2, q2, _, _, _, _, d3, g⟩
      · exact E.dist i j _ _ _ _ p h g e3 e4
      · exact E.dist i j _ _ _ _ p h g e3 e4
  · refine fr.kp b o (E.kp b o e n) fun hp => ?_
    obtain ⟨i, bb, d, _, e1, e2⟩ := pow b hp
    have := E.ownF i bb d b e1 e2
    cases bb with
    | true => exact n (by simpa using this)
    | false => rw [if_neg (by simp)] at this; rw [this] at e; cases e
  · obtain ⟨z, nb⟩ := ha
    rcases fr.grow a z with q | q
    · rcases (hAc a).mp q with q | q | q
      · exact E.grow a q
      · exact .inr (frA_mem R a q).2.2.1
      · exact absurd q nb
    · exact .inr (E.fnone q)
  · rcases setOuts_at ho out' i _ e1 with ⟨_, h⟩ | ⟨b', d', q, h1, h2, h3, h4, d0, h5⟩
    · exact E.ownF i b d p h e2
    · cases h1
      exact E.ownF i b d0 p h5 e2
  · obtain ⟨q, hq, rfl⟩ := hp
    obtain ⟨e1, d, e2⟩ := E.ins q hq
    exact ownNotA' e2 e1
  · obtain ⟨e1, d, e2⟩ := E.ins q hq
    obtain ⟨s', f1, f2, _⟩ := setOuts_keep (os := os) (outs := outs) e2
    obtain ⟨d', rfl⟩ := f2 true d rfl
    exact ⟨e1, d', f1⟩
  · refine fr.kp b o (S.kp b o e n) fun hp => n (S.sub b ?_)
    obtain ⟨i, bb, d, _, e1, e2⟩ := pow b hp
    exact ⟨i, bb, d, e1, e2⟩
  · obtain ⟨z, nb⟩ := ha
    rcases fr.grow a z with q | q
    · rcases (hAc a).mp q with q | q | q
      · exact S.grow a q
      · exact .inr (.inl (frA_mem R a q).2.2.2.1)
      · exact absurd q nb
    · exact .inr (.inl (S.live a q))
  · obtain ⟨s1, e1⟩ := S.def_ i s e
    obtain ⟨s2, e2, _⟩ := setOuts_keep (os := os) (outs := outs) e1
    exact ⟨s2, e2⟩
end
section
variable {X : Cx} {W : WX} {CX : CXT} {k : Nat} {f : Addr} {fd : FuncData} {ps : List Str} {x : Str} {p pos : Pos} {e : Expr} {es : List Expr} {fs : M (List Rv)} {ms : List Bool} {m : List PD → FR}
/-- what a call asks, by its arguments -/
theorem call_run {t : TA} (ha : ∀ F A H σ ρ, ER X.K F A H σ ρ → ∀ Q : List V → Hp → Prop, Pst X.K X.mg W F A H σ ρ (RA F H σ) Q (fs ρ) → t σ H Q) :
    ∀ F A H σ ρ, ER X.K F A H σ ρ → ∀ Q : VK, Pst X.K X.mg W F A H σ ρ (RE F H σ) Q (eCall ms m fs ρ) → t σ H (fun vs H1 => spD X.mg ms m vs H1 Q fun cls d H' => W cls d σ H') := by
  intro F A H σ ρ E Q h
  refine ha F A H σ ρ E _ (h.split fun rs ρ1 A1 H1 vs E1 S1 R1 h1 => ?_)
  cases ep : prep ms rs ρ1 with
  | none => simp only [ep] at h1; exact h1.elim
  | some q =>
    obtain ⟨ds, bs, os⟩ := q
    simp only [ep] at h1
    by_cases hok : okBO bs os = true
    case neg => rw [if_neg hok] at h1; exact h1.elim
    rw [if_pos hok] at h1
    have hbs := prep_bs ep
    generalize hAc : (fun a => A1 a ∨ a ∈ frA vs rs ∨ BoA σ bs a : AS) = Ac
    have hAc' : ∀ a, Ac a ↔ (A1 a ∨ a ∈ frA vs rs ∨ BoA σ bs a) := fun a => by rw [← hAc]
    obtain ⟨qs, ho, hargs⟩ := prep_run E1 Ac (fun a h => (hAc' a).mpr (.inl h)) R1 ep (fun a h => (hAc' a).mpr (.inr (.inl h))) fun a h => (hAc' a).mpr (.inr (.inr h))
    have hdom : ∀ a, Ac a → H1 a ≠ none := fun a h => by
      rcases (hAc' a).mp h with h | h | ⟨i, hi, e⟩
      · exact E1.dom a h
      · exact (frA_mem R1 a h).2.2.2.2
      · have := hbs i hi
        unfold isOwn at this
        split at this
        · rename_i b d e2
          intro z
          have q := (E1.ow ⟨i, b, d, e2, e⟩).2
          rw [z] at q
          exact q
        · cases this
    have hqs : ∀ p ∈ qs, ¬ Ac p := fun p hp z => by
      obtain ⟨i, hi, e1, b, d, e2⟩ := ho.mem p hp
      rcases (hAc' p).mp z with z | z | ⟨j, hj, f⟩
      · exact (E1.ow ⟨i, b, d, e2, e1⟩).1 z
      · exact (frA_mem R1 p z).2.1 ⟨i, b, d, e2, e1⟩
      · have := hbs j hj
        unfold isOwn at this
        split at this
        · rename_i b' d' f2
          have := E1.dist i j b b' d d' p e2 f2 e1 f
          subst this
          have := List.all_eq_true.mp hok i hi
          simp [hj] at this
        · cases this
    refine ⟨Ac, ds, qs, hdom, hargs hqs, ?_⟩
    cases em : m ds with
    | no => rw [em] at h1; exact h1.elim
    | ok c outs =>
      rw [em] at h1
      dsimp only at h1
      split at h1
      · rename_i hc
        simp only [Bool.and_eq_true] at hc
        intro A' H' v fr out res
        obtain ⟨E2, S2, bad, osub⟩ := after_call E1 S1 R1 hbs hAc' ho hok rfl rfl fr out hc.2
        refine h1 _ H' v E2 S2 ?_
        cases c with
        | val d => exact Rp.less bad res hc.1
        | fresh d =>
          obtain ⟨p, rfl, n, hn, o⟩ := res
          exact ⟨p, rfl, ⟨fun z => n z.1, fun z => E1.owne hn (osub p z), E1.fnone hn, S1.live p hn⟩, o.less bad hc.1⟩
      · exact h1.elim
    | ex x outs =>
      rw [em] at h1
      dsimp only at h1
      split at h1
      · rename_i hc
        simp only [Bool.and_eq_true] at hc
        intro A' H' cls d fr out xr
        obtain ⟨E2, S2, bad, osub⟩ := after_call E1 S1 R1 hbs hAc' ho hok rfl rfl fr out hc.2
        refine h1 _ H' cls d E2 S2 ?_
        obtain ⟨C, h2, h3, h4⟩ := xr
        refine ⟨C, h2, h3, h4.imp id ?_⟩
        rintro ⟨da, fs, g1, g2, g3, g4⟩
        refine ⟨da, fs, g1, g2, g3, g4.less bad ?_⟩
        have : ∀ l : List PD, l.all (clean (bs.any (isOwnL ρ1)) (bs.any (isOwnD ρ1))) = true → cleanAll (bs.any (isOwnL ρ1)) (bs.any (isOwnD ρ1)) l = true := by
          intro l
          induction l with
          | nil => intro _; simp [cleanAll]
          | cons a l ih => intro h; simp only [List.all_cons, Bool.and_eq_true] at h; simp only [cleanAll, Bool.and_eq_true]; exact ⟨h.1, ih h.2⟩
        exact this _ hc.1
      · exact h1.elim
theorem sim_call (F : FnOk X.prog X.w X.K X.mg X.base CX k f fd ps (spD X.mg ms m)) (hr : Room k X.A) (hg : Gl X x) (hm : X.mg x = some (.ref f)) (hk : PySem.W.keepIn X.K (.ref f) = true) (hb : Binds X.K fd ps []) (hx : ∀ σ, PassesAt CX X σ (fun cls d H => W cls d σ H)) (ha : SimA X W (e :: es) fs)
    (hdb : (x == ("__debug__" : Str)) = false := by decide) (he : starEach (e :: es) X.env = (false, eval e X.env) :: starEach es X.env := by rfl) (hpl : (backTo pos (starEach es X.env)).any (·.1) = false := by rfl) : SimE X W (.Call (.Name x p) (e :: es) [] pos) (eCall ms m fs) := by
  obtain ⟨t, pa, ha⟩ := ha
  exact ⟨_, pe_callS (E := fun σ cls d H => W cls d σ H) F hr hg hm hk hb hx pa hdb he hpl, call_run ha⟩
theorem pass0S (σ : L2.St) (E : XK) : PassesAt CX0 X σ E := fun _ _ _ _ _ _ h => h.elim
end
end DP
/-! DPO: the operations. -/
namespace DP
open PySem L2
section
variable {A : AS} {H H' : Hp} {v : V} {d : PD}
theorem nr_val (r : Rp A H v d) : NewR A H H v (.val d) := ⟨fun _ _ e => e, r⟩
theorem new_ext {p : Addr} {o : HO} (hp : H p = none) : ∀ b u, H b = some u → upd H p o b = some u := fun b u e => by rw [upd_ne (ne_of_none e hp)]; exact e
theorem nr_tup {p : Addr} {xs : List V} {ds : List PD} (hp : H p = none) (r : RpAll A H xs ds) : NewR A H (upd H p (.tup xs)) (.ref p) (.val (.tuple ds)) := ⟨new_ext hp, .tup upd_same (r.kp (Kp.ext (new_ext hp)))⟩
theorem nr_lst {p : Addr} {xs : List V} {ds : List PD} (hp : H p = none) (r : RpAll A H xs ds) : NewR A H (upd H p (.lst xs)) (.ref p) (.fresh (.list ds)) := ⟨new_ext hp, p, rfl, hp, xs, upd_same, r.kp (Kp.ext (new_ext hp))⟩
end
theorem Op2.or {r r' : R2} {g g' : PD → PD → Option Rc} (h : Op2 r g) (h' : Op2 r' g') : Op2 (fun x y H Q => r x y H Q ∨ r' x y H Q) (fun a b => match g a b with | some c => some c | none => g' a b) := by
  refine ⟨fun A H x y d1 d2 c Q hd hx hy e q => ?_⟩
  cases e1 : g d1 d2 with
  | some c' =>
    rw [e1] at e
    cases e
    exact .inl (h.run A H x y d1 d2 c Q hd hx hy e1 q)
  | none =>
    rw [e1] at e
    exact .inr (h'.run A H x y d1 d2 c Q hd hx hy e q)
/-! ints -/
def gI (C : Int → Int → Bool) (f : Int → Int → PD) : PD → PD → Option Rc
  | .int i, .int j => if C i j = true then some (.val (f i j)) else none
  | _, _ => none
def scV : PD → V
  | .bool b => .bl b
  | .int i => .int i
  | .str x => .str x
  | _ => .non
def isSc : PD → Bool
  | .none | .bool _ | .int _ | .str _ => true
  | _ => false
theorem rp_sc {A : AS} {H : Hp} : ∀ {d : PD}, isSc d = true → Rp A H (scV d) d
  | .none, _ => .non
  | .bool b, _ => .bl b
  | .int i, _ => .int i
  | .str x, _ => .str x
  | .list _, h => nomatch h
  | .tuple _, h => nomatch h
  | .dict _, h => nomatch h
theorem gI_eq {C : Int → Int → Bool} {f : Int → Int → PD} {d1 d2 : PD} {c : Rc} (h : gI C f d1 d2 = some c) : ∃ i j, d1 = .int i ∧ d2 = .int j ∧ C i j = true ∧ c = .val (f i j) := by
  unfold gI at h
  split at h
  · rename_i i j
    split at h
    · rename_i hc
      cases h
      exact ⟨i, j, rfl, rfl, hc, rfl⟩
    · cases h
  · cases h
theorem op_rI {C : Int → Int → Prop} {B : Int → Int → Bool} {f : Int → Int → PD} (hB : ∀ i j, B i j = true → C i j) (hs : ∀ i j, isSc (f i j) = true) : Op2 (rI C fun i j => scV (f i j)) (gI B f) :=
  ⟨fun A H x y d1 d2 c Q _ hx hy e q => by
    obtain ⟨i, j, rfl, rfl, hc, rfl⟩ := gI_eq e
    exact ⟨i, j, hx.int, hy.int, hB i j hc, q _ _ (nr_val (rp_sc (hs i j)))⟩⟩
theorem op_rI0 {f : Int → Int → PD} (hs : ∀ i j, isSc (f i j) = true) : Op2 (rI0 fun i j => scV (f i j)) (gI (fun _ _ => true) f) :=
  ⟨fun A H x y d1 d2 c Q _ hx hy e q => by
    obtain ⟨i, j, rfl, rfl, hc, rfl⟩ := gI_eq e
    exact ⟨i, j, hx.int, hy.int, q _ _ (nr_val (rp_sc (hs i j)))⟩⟩
abbrev yesB : Int → Int → Bool := fun _ _ => true
def gAddI := gI yesB fun i j => .int (i + j)
def gSub := gI yesB fun i j => .int (i - j)
def mulOk (i j : Int) : Bool := decide (-(2 ^ 64) < i ∧ i < 2 ^ 64) || decide (-(2 ^ 64) < j ∧ j < 2 ^ 64)
def gMulI := gI mulOk fun i j => .int (i * j)
def divOk (_ j : Int) : Bool := decide (0 < j ∧ j < 2 ^ 200)
def gFdiv := gI divOk fun i j => .int (i / j)
def gMod := gI (fun _ j => decide (0 < j)) fun i j => .int (i % j)
def powOk (i j : Int) : Bool := decide (0 ≤ j ∧ j ≤ 1000000) && decide (i.natAbs < 2 ^ 64)
def gPow := gI powOk fun i j => .int (i ^ j.toNat)
def gShl := gI powOk fun i j => .int (i * 2 ^ j.toNat)
def gLt := gI yesB fun i j => .bool (decide (i < j))
def gLe := gI yesB fun i j => .bool (decide (i ≤ j))
def gGt := gI yesB fun i j => .bool (decide (j < i))
def gGe := gI yesB fun i j => .bool (decide (j ≤ i))
theorem o2_addI : Op2 (rI0 fun i j => .int (i + j)) gAddI := op_rI0 (f := fun i j => .int (i + j)) fun _ _ => rfl
theorem o2_sub : Op2 (rI0 fun i j => .int (i - j)) gSub := op_rI0 (f := fun i j => .int (i - j)) fun _ _ => rfl
theorem o2_mulI : Op2 (rI CMul fun i j => .int (i * j)) gMulI := op_rI (C := CMul) (B := mulOk) (f := fun i j => .int (i * j)) (fun i j h => by
  simp only [mulOk, Bool.or_eq_true, decide_eq_true_eq] at h
  exact h) fun _ _ => rfl
theorem o2_fdiv : Op2 (rI CDivW fun i j => .int (i / j)) gFdiv := op_rI (C := CDivW) (B := divOk) (f := fun i j => .int (i / j)) (fun i j h => by
  have h' := of_decide_eq_true h
  exact wide_div (b := 200) h'.1 (by omega) (by decide) (by decide)) fun _ _ => rfl
theorem o2_mod : Op2 (rI (fun _ j => 0 < j) fun i j => .int (i % j)) gMod := op_rI (C := fun _ j => 0 < j) (B := fun _ j => decide (0 < j)) (f := fun i j => .int (i % j)) (fun i j h => of_decide_eq_true h) fun _ _ => rfl
theorem o2_pow : Op2 (rI CPow fun i j => .int (i ^ j.toNat)) gPow := op_rI (C := CPow) (B := powOk) (f := fun i j => .int (i ^ j.toNat)) (fun i j h => by
  simp only [powOk, Bool.and_eq_true, decide_eq_true_eq] at h
  exact ⟨h.1.1, h.1.2, h.2⟩) fun _ _ => rfl
theorem o2_shl : Op2 (rI CPow fun i j => .int (i * 2 ^ j.toNat)) gShl := op_rI (C := CPow) (B := powOk) (f := fun i j => .int (i * 2 ^ j.toNat)) (fun i j h => by
  simp only [powOk, Bool.and_eq_true, decide_eq_true_eq] at h
  exact ⟨h.1.1, h.1.2, h.2⟩) fun _ _ => rfl
theorem o2_lt : Op2 (rI0 fun i j => .bl (decide (i < j))) gLt := op_rI0 (f := fun i j => .bool (decide (i < j))) fun _ _ => rfl
theorem o2_le : Op2 (rI0 fun i j => .bl (decide (i ≤ j))) gLe := op_rI0 (f := fun i j => .bool (decide (i ≤ j))) fun _ _ => rfl
theorem o2_gt : Op2 (rI0 fun i j => .bl (decide (j < i))) gGt := op_rI0 (f := fun i j => .bool (decide (j < i))) fun _ _ => rfl
theorem o2_ge : Op2 (rI0 fun i j => .bl (decide (j ≤ i))) gGe := op_rI0 (f := fun i j => .bool (decide (j ≤ i))) fun _ _ => rfl
/-! lists, tuples -/
def gCat : PD → PD → Option Rc
  | .list xs, .list ys => if smallL (xs.length + ys.length) = true then some (.fresh (.list (xs ++ ys))) else none
  | _, _ => none
theorem o2_cat : Op2 rCat gCat := ⟨fun A H x y d1 d2 c Q _ hx hy e q => by
  unfold gCat at e
  split at e
  · rename_i xs ys
    split at e
    · rename_i hz
      cases e
      obtain ⟨l, us, rfl, h1, r1⟩ := hx.list
      obtain ⟨b, ws, rfl, h2, r2⟩ := hy.list
      exact ⟨l, b, us, ws, rfl, rfl, h1, h2, by rw [r1.length, r2.length]; exact smallL_le hz, fun p hp => q _ _ (nr_lst hp (r1.append r2))⟩
    · cases e
  · cases e⟩
def gCatT : PD → PD → Option Rc
  | .tuple xs, .tuple ys => if smallL (xs.length + ys.length) = true then some (.val (.tuple (xs ++ ys))) else none
  | _, _ => none
theorem RpAll.nilD {A : AS} {H : Hp} {xs : List V} (h : RpAll A H xs []) : xs = [] := by cases h; rfl
theorem RpAll.nilV {A : AS} {H : Hp} {ds : List PD} (h : RpAll A H [] ds) : ds = [] := by cases h; rfl
theorem o2_catT (K : PySem.W.Frag) : Op2 (rCatA K) gCatT := ⟨fun A H x y d1 d2 c Q _ hx hy e q => by
  unfold gCatT at e
  split at e
  · rename_i xs ys
    split at e
    · rename_i hz
      cases e
      obtain ⟨l, us, rfl, h1, r1⟩ := hx.tup
      obtain ⟨b, ws, rfl, h2, r2⟩ := hy.tup
      refine ⟨l, b, us, ws, rfl, rfl, SqT.of h1, SqT.of h2, by rw [r1.length, r2.length]; exact smallL_le hz, fun h => ?_, fun _ h => ?_, fun _ _ p hp => q _ _ (nr_tup hp (r1.append r2))⟩
      · subst h
        have := r1.nilV
        subst this
        exact q _ _ (nr_val (.tup h2 r2))
      · subst h
        have := r2.nilV
        subst this
        rw [List.append_nil] at q
        exact q _ _ (nr_val (.tup h1 r1))
    · cases e
  · cases e⟩
def gCatS : PD → PD → Option Rc
  | .str x, .str y => if smallL (x.length + y.length) = true then some (.val (.str (x ++ y))) else none
  | _, _ => none
theorem o2_catS : Op2 (fun x y H Q => ∃ i j, x = .str i ∧ y = .str j ∧ i.length + j.length ≤ sizeLine ∧ Q (.str (i ++ j)) H) gCatS := ⟨fun A H x y d1 d2 c Q _ hx hy e q => by
  unfold gCatS at e
  split at e
  · split at e
    · rename_i hz
      cases e
      exact ⟨_, _, hx.str, hy.str, smallL_le hz, q _ _ (nr_val (.str _))⟩
    · cases e
  · cases e⟩
/-- a + b -/
def gAdd : PD → PD → Option Rc
  | .int i, .int j => some (.val (.int (i + j)))
  | .list xs, .list ys => if smallL (xs.length + ys.length) = true then some (.fresh (.list (xs ++ ys))) else none
  | .tuple xs, .tuple ys => if smallL (xs.length + ys.length) = true then some (.val (.tuple (xs ++ ys))) else none
  | .str x, .str y => if smallL (x.length + y.length) = true then some (.val (.str (x ++ y))) else none
  | _, _ => none
theorem Op2.imp {r : R2} {g g' : PD → PD → Option Rc} (h : Op2 r g) (e : ∀ a b c, g' a b = some c → g a b = some c) : Op2 r g' := ⟨fun A H x y d1 d2 c Q hd hx hy e1 q => h.run A H x y d1 d2 c Q hd hx hy (e _ _ _ e1) q⟩
def rAddAll (K : PySem.W.Frag) : R2 := fun x y H Q => (rI0 (fun i j => .int (i + j)) x y H Q) ∨ (rCat x y H Q ∨ (rCatA K x y H Q ∨ (∃ i j, x = .str i ∧ y = .str j ∧ i.length + j.length ≤ sizeLine ∧ Q (.str (i ++ j)) H)))
theorem or_add {X : Cx} : OpR X (binaryOp .Add) (rAddAll X.K) := op_add.or (op_cat.or (op_catA.or op_add_str))
theorem o2_add (K : PySem.W.Frag) : Op2 (rAddAll K) gAdd := (o2_addI.or (o2_cat.or ((o2_catT K).or o2_catS))).imp fun a b c h => by
  unfold gAdd at h
  split at h
  · cases h; rfl
  · simp only [gAddI, gI, gCat]; rw [h]
  · simp only [gAddI, gI, gCat, gCatT]; rw [h]
  · simp only [gAddI, gI, gCat, gCatT, gCatS]; exact h
  · cases h
/-! == -/
mutual
theorem Rp.dp {K : PySem.W.Frag} {A : AS} {H : Hp} : ∀ {v : V} {d : PD}, Rp A H v d → d.canLay0 = true → Dp K H v d
  | _, _, .non, _ => .non
  | _, _, .bl b, _ => .bl b
  | _, _, .int i, _ => .int i
  | _, _, .str x, _ => .str x
  | _, _, .lst _ h r, c => .lst (SqL.of h) (RpAll.dp r (by simpa [PyData.canLay0] using c))
  | _, _, .tup h r, c => .tup (SqT.of h) (RpAll.dp r (by simpa [PyData.canLay0] using c))
  | _, _, .dic _ _ _, c => by simp [PyData.canLay0] at c
theorem RpAll.dp {K : PySem.W.Frag} {A : AS} {H : Hp} : ∀ {v : List V} {d : List PD}, RpAll A H v d → PyData.canLayAll0 d = true → DpAll K H v d
  | _, _, .nil, _ => .nil
  | _, _, .cons r h, c => by
    simp only [PyData.canLayAll0, Bool.and_eq_true] at c
    exact .cons (Rp.dp r c.1) (RpAll.dp h c.2)
end
theorem Rt.dp {K : PySem.W.Frag} {A : AS} {H : Hp} {v : V} {d : PD} (h : Rt A H v d) (c : d.canLay0 = true) : Dp K H v d := by
  rcases h with h | ⟨p, rfl, o⟩
  · exact h.dp c
  · cases d <;> simp only [OwnObj] at o
    · obtain ⟨xs, e, r⟩ := o
      exact .lst (SqL.of e) (r.dp (by simpa [PyData.canLay0] using c))
    · simp [PyData.canLay0] at c
def gEq (neg : Bool) : PD → PD → Option Rc := fun d e => if (SeqAt.shaped d && SeqAt.shaped e) = true then some (.val (.bool (if neg = true then !PyData.eqv d e else PyData.eqv d e))) else none
theorem o2_eq (K : PySem.W.Frag) : Op2 (rEqD K) (gEq false) := ⟨fun A H x y d1 d2 c Q _ hx hy e q => by
  unfold gEq at e
  split at e
  · rename_i h
    cases e
    simp only [Bool.and_eq_true] at h
    exact ⟨d1, d2, hx.dp (SeqAt.canLay_of_shaped h.1), hy.dp (SeqAt.canLay_of_shaped h.2), h.1, h.2, q _ _ (nr_val (.bl _))⟩
  · cases e⟩
theorem o2_ne (K : PySem.W.Frag) : Op2 (rNeD K) (gEq true) := ⟨fun A H x y d1 d2 c Q _ hx hy e q => by
  unfold gEq at e
  split at e
  · rename_i h
    cases e
    simp only [Bool.and_eq_true] at h
    exact ⟨d1, d2, hx.dp (SeqAt.canLay_of_shaped h.1), hy.dp (SeqAt.canLay_of_shaped h.2), h.1, h.2, q _ _ (nr_val (.bl _))⟩
  · cases e⟩
/-! x in xs -/
def keyD : PD → Option Key
  | .int i => some (.inl i)
  | .str x => some (.inr x)
  | _ => none
def keyIsD (k : Key) : PD → Bool
  | .int i => match k with
    | .inl j => decide (i = j)
    | _ => false
  | .str x => match k with
    | .inr y => decide (x = y)
    | _ => false
  | _ => false
/-- d[k] -/
def look (k : Key) : List (PD × PD) → Option PD
  | [] => none
  | (q, d) :: r => if keyIsD k q = true then some d else look k r
theorem keyIsD_kD (k q : Key) : keyIsD k (kD q) = decide (q = k) := by
  cases q <;> cases k <;> simp [kD, keyIsD]
theorem look_valV {A : AS} {H : Hp} {k : Key} : ∀ {kvs : List (Key × V)} {ds : List (PD × PD)}, RpKV A H kvs ds → (look k ds = none ∧ valV kvs k = none) ∨ (∃ d v, look k ds = some d ∧ valV kvs k = some v ∧ Rp A H v d)
  | _, _, .nil => .inl ⟨rfl, rfl⟩
  | _, _, .cons (k := q) (v := v) (d := d) r h => by
    simp only [look, keyIsD_kD]
    by_cases e : q = k
    · right
      exact ⟨d, v, by simp [e], valV_pos e, r⟩
    · rw [valV_neg e]
      rcases look_valV h with ⟨h1, h2⟩ | ⟨d', v', h1, h2, h3⟩
      · left; exact ⟨by simp [e, h1], h2⟩
      · right; exact ⟨d', v', by simp [e, h1], h2, h3⟩
def gIn (neg : Bool) : PD → PD → Option Rc
  | d, .list ds => if (SeqAt.shaped d && SeqAt.shaped (.list ds)) = true then some (.val (.bool (if neg = true then !(ds.any fun z => PyData.eqv z d) else ds.any fun z => PyData.eqv z d))) else none
  | d, .tuple ds => if (isSc d && ds.all isSc) = true then some (.val (.bool (if neg = true then !(ds.any fun z => PyData.eqv z d) else ds.any fun z => PyData.eqv z d))) else none
  | d, .dict kvs => match keyD d with
    | some k => some (.val (.bool (if neg = true then !(look k kvs).isSome else (look k kvs).isSome)))
    | none => none
  | _, _ => none
def rInDct : R2 := fun x y H Q => ∃ a k kvs, y = .ref a ∧ x = kV k ∧ H a = some (.dK kvs) ∧ Q (.bl (valV kvs k).isSome) H
def rNotInDct : R2 := fun x y H Q => ∃ a k kvs, y = .ref a ∧ x = kV k ∧ H a = some (.dK kvs) ∧ Q (.bl (!(valV kvs k).isSome)) H
theorem or_inDct {X : Cx} (hu : X.A.units + 1 < cLine) : OpR X (compareOp .In) rInDct := by
  intro pins s σ H x y v u Q I rx ry ⟨a, k, kvs, e1, e2, h, q⟩
  subst e1 e2
  obtain rfl : u = Value.ref a := ry
  exact d_in hu I (DGet.k h) rx fun s3 I3 => ⟨.bl _, H, I3, rfl, q⟩
theorem or_notInDct {X : Cx} (hu : X.A.units + 1 < cLine) : OpR X (compareOp .NotIn) rNotInDct := by
  intro pins s σ H x y v u Q I rx ry ⟨a, k, kvs, e1, e2, h, q⟩
  subst e1 e2
  obtain rfl : u = Value.ref a := ry
  exact d_notIn hu I (DGet.k h) rx fun s3 I3 => ⟨.bl _, H, I3, rfl, q⟩
theorem sc_flat {A : AS} {H : Hp} {v : V} {d : PD} (h : Rt A H v d) (s : isSc d = true) : v = scV d ∧ flatV v = true := by
  cases d with
  | none => rw [h.none]; exact ⟨rfl, rfl⟩
  | bool b => rw [h.bool]; exact ⟨rfl, rfl⟩
  | int b => rw [h.int]; exact ⟨rfl, rfl⟩
  | str b => rw [h.str]; exact ⟨rfl, rfl⟩
  | list _ => cases s
  | tuple _ => cases s
  | dict _ => cases s
theorem eqV_sc : ∀ {d e : PD}, isSc d = true → isSc e = true → eqV (scV d) (scV e) = PyData.eqv d e := by
  intro d e hd he
  cases d <;> cases e <;> simp_all [isSc, scV, eqV, PyData.eqv]
theorem inV_sc {A : AS} {H : Hp} {d : PD} (hd : isSc d = true) : ∀ {vs : List V} {ds : List PD}, RpAll A H vs ds → ds.all isSc = true → inV (scV d) vs = (ds.any fun z => PyData.eqv z d) ∧ vs.all flatV = true
  | _, _, .nil, _ => ⟨rfl, rfl⟩
  | _, _, .cons r h, s => by
    simp only [List.all_cons, Bool.and_eq_true] at s
    obtain ⟨h1, h2⟩ := inV_sc hd h s.2
    obtain ⟨e, f⟩ := sc_flat (.inl r) s.1
    refine ⟨?_, by simp only [List.all_cons, f, h2, Bool.and_self]⟩
    unfold inV at h1 ⊢
    simp only [List.any_cons]
    rw [h1, e, eqV_sc s.1 hd]
def rInAll (K : PySem.W.Frag) : R2 := fun x y H Q => rInD K x y H Q ∨ (rIn K false x y H Q ∨ rInDct x y H Q)
def rNotInAll (K : PySem.W.Frag) : R2 := fun x y H Q => rNotInD K x y H Q ∨ (rIn K true x y H Q ∨ rNotInDct x y H Q)
theorem or_in {X : Cx} (hu : X.A.units + 65 < cLine) : OpR X (compareOp .In) (rInAll X.K) := (op_inD hu).or (op_in_seq.or (or_inDct (by omega)))
theorem or_notIn {X : Cx} (hu : X.A.units + 65 < cLine) : OpR X (compareOp .NotIn) (rNotInAll X.K) := (op_notInD hu).or (op_notIn_seq.or (or_notInDct (by omega)))
theorem keyD_eq {d : PD} {k : Key} (h : keyD d = some k) : isSc d = true ∧ scV d = kV k := by
  cases d <;> simp [keyD] at h <;> subst h <;> exact ⟨rfl, rfl⟩
theorem o2_in (K : PySem.W.Frag) : Op2 (rInAll K) (gIn false) := ⟨fun A H x y d1 d2 c Q _ hx hy e q => by
  unfold gIn at e
  split at e
  · rename_i ds
    split at e
    · rename_i h
      cases e
      simp only [Bool.and_eq_true] at h
      exact .inl ⟨d1, ds, hx.dp (SeqAt.canLay_of_shaped h.1), hy.dp (SeqAt.canLay_of_shaped h.2), h.1, h.2, q _ _ (nr_val (.bl _))⟩
    · cases e
  · rename_i ds
    split at e
    · rename_i h
      cases e
      simp only [Bool.and_eq_true] at h
      obtain ⟨p, us, rfl, h1, r1⟩ := hy.tup
      obtain ⟨ex, fx⟩ := sc_flat hx h.1
      obtain ⟨e1, e2⟩ := inV_sc h.1 r1 h.2
      subst ex
      exact .inr (.inl ⟨p, us, rfl, .inr (SqT.of h1), fx, e2, by rw [e1]; exact q _ _ (nr_val (.bl _))⟩)
    · cases e
  · rename_i kvs
    split at e
    · rename_i k hk
      cases e
      obtain ⟨hs, ek⟩ := keyD_eq hk
      obtain ⟨ex, _⟩ := sc_flat hx hs
      obtain ⟨p, us, rfl, h1, r1⟩ := hy.dic
      refine .inr (.inr ⟨p, k, us, rfl, by rw [ex, ek], h1, ?_⟩)
      have : (valV us k).isSome = (look k kvs).isSome := by
        rcases look_valV (k := k) r1 with ⟨a, b⟩ | ⟨d, v, a, b, _⟩ <;> rw [a, b] <;> rfl
      rw [this]
      exact q _ _ (nr_val (.bl _))
    · cases e
  · cases e⟩
theorem o2_notIn (K : PySem.W.Frag) : Op2 (rNotInAll K) (gIn true) := ⟨fun A H x y d1 d2 c Q _ hx hy e q => by
  unfold gIn at e
  split at e
  · rename_i ds
    split at e
    · rename_i h
      cases e
      simp only [Bool.and_eq_true] at h
      exact .inl ⟨d1, ds, hx.dp (SeqAt.canLay_of_shaped h.1), hy.dp (SeqAt.canLay_of_shaped h.2), h.1, h.2, q _ _ (nr_val (.bl _))⟩
    · cases e
  · rename_i ds
    split at e
    · rename_i h
      cases e
      simp only [Bool.and_eq_true] at h
      obtain ⟨p, us, rfl, h1, r1⟩ := hy.tup
      obtain ⟨ex, fx⟩ := sc_flat hx h.1
      obtain ⟨e1, e2⟩ := inV_sc h.1 r1 h.2
      subst ex
      exact .inr (.inl ⟨p, us, rfl, .inr (SqT.of h1), fx, e2, by rw [e1]; exact q _ _ (nr_val (.bl _))⟩)
    · cases e
  · rename_i kvs
    split at e
    · rename_i k hk
      cases e
      obtain ⟨hs, ek⟩ := keyD_eq hk
      obtain ⟨ex, _⟩ := sc_flat hx hs
      obtain ⟨p, us, rfl, h1, r1⟩ := hy.dic
      refine .inr (.inr ⟨p, k, us, rfl, by rw [ex, ek], h1, ?_⟩)
      have : (valV us k).isSome = (look k kvs).isSome := by
        rcases look_valV (k := k) r1 with ⟨a, b⟩ | ⟨d, v, a, b, _⟩ <;> rw [a, b] <;> rfl
      rw [this]
      exact q _ _ (nr_val (.bl _))
    · cases e
  · cases e⟩
end DP
/-! DPP: items, slices, calls of built-ins. -/
namespace DP
open PySem L2
def gMul : PD → PD → Option Rc
  | .int i, .int j => if mulOk i j = true then some (.val (.int (i * j))) else none
  | .list xs, .int k => if (decide (-(2 ^ 63) ≤ k ∧ k < 2 ^ 63) && smallL (xs.length * k.toNat)) = true then some (.fresh (.list (List.replicate k.toNat xs).flatten)) else none
  | _, _ => none
theorem RpAll.rep {A : AS} {H : Hp} {vs : List V} {ds : List PD} (h : RpAll A H vs ds) : ∀ n : Nat, RpAll A H (List.replicate n vs).flatten (List.replicate n ds).flatten
  | 0 => .nil
  | n + 1 => by
    rw [List.replicate_succ, List.replicate_succ, List.flatten_cons, List.flatten_cons]
    exact h.append (RpAll.rep h n)
def rMulAll : R2 := fun x y H Q => rI CMul (fun i j => .int (i * j)) x y H Q ∨ rRep x y H Q
theorem or_mul {X : Cx} : OpR X (binaryOp .Mult) rMulAll := op_mul.or op_rep
theorem o2_mul : Op2 rMulAll gMul := ⟨fun A H x y d1 d2 c Q hd hx hy e q => by
  unfold gMul at e
  split at e
  · rename_i i j
    refine .inl (o2_mulI.run A H x y _ _ c Q hd hx hy ?_ q)
    simp only [gMulI, gI]
    exact e
  · split at e
    · rename_i xs k h
      cases e
      simp only [Bool.and_eq_true, decide_eq_true_eq] at h
      obtain ⟨l, us, rfl, h1, r1⟩ := hx.list
      exact .inr ⟨l, k, us, rfl, hy.int, h1, h.1.1, h.1.2, by rw [r1.length]; exact smallL_le h.2, fun p hp => q _ _ (nr_lst hp (r1.rep _))⟩
    · cases e
  · cases e⟩
/-! items -/
def gIx : PD → PD → Option Rc
  | .list ds, .int i => (atI ds i).map .val
  | .tuple ds, .int i => (atI ds i).map .val
  | .dict kvs, k => match keyD k with
    | some q => (look q kvs).map .val
    | none => none
  | _, _ => none
def rIxDct : R2 := fun x y H Q => ∃ a k kvs v, x = .ref a ∧ y = kV k ∧ H a = some (.dK kvs) ∧ valV kvs k = some v ∧ Q v H
theorem ix_dct {X : Cx} (hu : X.A.units + 1 < cLine) : IxR X rIxDct := by
  intro value slice pins s σ H x y v u Q I rx ry ⟨a, k, kvs, w, e1, e2, h, hv, q⟩ hs
  subst e1 e2
  obtain rfl : v = Value.ref a := rx
  have g : DGet H a (kV k) (some w) := by rw [← hv]; exact DGet.k h
  exact PyProof.Rows.tail_any (dict_typeIs I g) PySem.F.slot_dict_getitem.lookup (d_getItem hu I g ry fun w' s3 I3 rw' => ⟨w, H, I3, rw', q⟩) hs
theorem atI_rp {A : AS} {H : Hp} {vs : List V} {ds : List PD} {i : Int} {d : PD} (h : RpAll A H vs ds) (e : atI ds i = some d) : ∃ v, atI vs i = some v ∧ Rp A H v d := by
  unfold atI at e ⊢
  rw [h.length]
  cases e1 : ixN ds.length i with
  | none => rw [e1] at e; cases e
  | some j =>
    rw [e1] at e
    exact h.get (by simpa using e)
def rIxAll (K : PySem.W.Frag) : R2 := fun x y H Q => rIx K x y H Q ∨ rIxDct x y H Q
theorem ir_all {X : Cx} (hu : X.A.units + 1 < cLine) : IxR X (rIxAll X.K) := ix_seq.or (ix_dct hu)
theorem o2_ix (K : PySem.W.Frag) : Op2 (rIxAll K) gIx := ⟨fun A H x y d1 d2 c Q hd hx hy e q => by
  unfold gIx at e
  split at e
  · rename_i ds i
    cases e1 : atI ds i with
    | none => rw [e1] at e; cases e
    | some d =>
      rw [e1] at e
      cases e
      obtain ⟨l, us, rfl, h1, r1⟩ := hx.list
      obtain ⟨v, e2, r⟩ := atI_rp r1 e1
      exact .inl (.inl ⟨l, us, i, v, rfl, hy.int, SqL.of h1, e2, q _ _ (nr_val r)⟩)
  · rename_i ds i
    cases e1 : atI ds i with
    | none => rw [e1] at e; cases e
    | some d =>
      rw [e1] at e
      cases e
      obtain ⟨l, us, rfl, h1, r1⟩ := hx.tup
      obtain ⟨v, e2, r⟩ := atI_rp r1 e1
      exact .inl (.inr (.inl ⟨l, us, i, v, rfl, hy.int, SqT.of h1, e2, q _ _ (nr_val r)⟩))
  · rename_i kvs k
    split at e
    · rename_i kk hk
      obtain ⟨hs, ek⟩ := keyD_eq hk
      obtain ⟨ex, _⟩ := sc_flat hy hs
      obtain ⟨p, us, rfl, h1, r1⟩ := hx.dic
      rcases look_valV (k := kk) r1 with ⟨a, b⟩ | ⟨d, v, a, b, r⟩
      · rw [a] at e; cases e
      · rw [a] at e
        cases e
        exact .inr ⟨p, kk, us, v, rfl, by rw [ex, ek], h1, b, q _ _ (nr_val r)⟩
    · cases e
  · cases e⟩
/-! slices -/
def partM : Option (M Rv) → M (Option Int)
  | none => retM none
  | some f => bnd f fun r => bnd (rdM r) fun d => match d with
    | .int i => retM (some i)
    | _ => noM
def SimO (X : Cx) (W : WX) (e : Option Expr) (f : Option (M Rv)) : Prop := ∃ t : TO, PO X e t ∧ ∀ F A H σ ρ, ER X.K F A H σ ρ → ∀ Q : Option Int → Hp → Prop, Pst X.K X.mg W F A H σ ρ (fun _ _ _ b c => b = c) Q (partM f ρ) → t σ H Q
theorem sim_onone {X : Cx} {W : WX} : SimO X W none none := ⟨_, po_none, fun F A H σ ρ E Q h => h A H none E Step.refl rfl⟩
theorem sim_osome {X : Cx} {W : WX} {e : Expr} {f : M Rv} (h : SimE X W e f) : SimO X W (some e) (some f) := by
  obtain ⟨t, p, h⟩ := h
  refine ⟨_, po_some p, fun F A H σ ρ E Q hq => ?_⟩
  refine h F A H σ ρ E _ (Pst.split (m := f) hq fun r ρ1 A1 H1 v E1 S1 R1 h1 => ?_)
  obtain ⟨d, e1, h2⟩ := h1.rd
  have hz := RvR.rt E1 R1 e1
  cases d with
  | int i => exact ⟨i, hz.int, h2 A1 H1 _ E1 S1 rfl⟩
  | bool k => exact h2.elim
  | none => exact h2.elim
  | str i => exact h2.elim
  | list i => exact h2.elim
  | tuple i => exact h2.elim
  | dict i => exact h2.elim
def cutD (xs : List PD) (lo hi : Option Int) : List PD := (xs.drop (HT.sIx xs.length 0 lo)).take (HT.sIx xs.length xs.length hi - HT.sIx xs.length 0 lo)
def gSl (d : PD) (lo hi : Option Int) : Option Rc :=
  match d with
  | .list ds => some (.fresh (.list (cutD ds lo hi)))
  | .tuple ds => some (.val (.tuple (cutD ds lo hi)))
  | _ => none
def eSl (f : M Rv) (lo hi : Option (M Rv)) : M Rv := bnd f fun x => bnd (partM lo) fun l => bnd (partM hi) fun h => bnd (rdM x) fun d => fin (gSl d l h)
theorem RpAll.drop {A : AS} {H : Hp} : ∀ {vs : List V} {ds : List PD} (n : Nat), RpAll A H vs ds → RpAll A H (vs.drop n) (ds.drop n)
  | _, _, 0, h => h
  | _, _, n + 1, .nil => .nil
  | _, _, n + 1, .cons _ h => RpAll.drop n h
theorem RpAll.take {A : AS} {H : Hp} : ∀ {vs : List V} {ds : List PD} (n : Nat), RpAll A H vs ds → RpAll A H (vs.take n) (ds.take n)
  | _, _, 0, _ => by simp; exact .nil
  | _, _, n + 1, .nil => .nil
  | _, _, n + 1, .cons r h => .cons r (RpAll.take n h)
theorem RpAll.cut {A : AS} {H : Hp} {vs : List V} {ds : List PD} (h : RpAll A H vs ds) (lo hi : Option Int) : RpAll A H (cutV vs lo hi) (cutD ds lo hi) := by
  unfold cutV cutD
  rw [h.length]
  exact (h.drop _).take _
theorem sim_slice {X : Cx} {W : WX} {e : Expr} {lo hi : Option Expr} {f : M Rv} {fl fh : Option (M Rv)} {p2 pos : Pos} (he : SimE X W e f) (hl : SimO X W lo fl) (hh : SimO X W hi fh) : SimE X W (.Subscript e (.Slice lo hi none p2) pos) (eSl f fl fh) := by
  obtain ⟨t, p, he⟩ := he
  obtain ⟨tl, pl, hl⟩ := hl
  obtain ⟨th, ph, hh⟩ := hh
  refine ⟨_, pe_slice (sl_list.or sl_tupA) p pl ph, fun F A H σ ρ E Q h => ?_⟩
  refine he F A H σ ρ E _ (h.split fun x ρ1 A1 H1 v1 E1 S1 R1 h1 => ?_)
  refine hl F A1 H1 σ ρ1 E1 _ ((h1.after S1).split (RR1 := fun _ _ _ b c => b = c) fun l ρ2 A2 H2 l' E2 S2 R2 h2 => ?_)
  subst R2
  refine hh F A2 H2 σ ρ2 E2 _ ((h2.after S2).split (RR1 := fun _ _ _ b c => b = c) fun u ρ3 A3 H3 u' E3 S3 R3 h3 => ?_)
  subst R3
  obtain ⟨d, e1, h4⟩ := h3.rd
  have R1' : RvR F H A3 H3 σ ρ3 v1 x := RvR.step E2 S3 (RvR.step E1 S2 R1)
  obtain ⟨c, e2, h5⟩ := h4.fin' S3 E3 (S1.trans S2)
  have hz := R1'.rt E3 e1
  unfold gSl at e2
  split at e2
  · cases e2
    obtain ⟨a, us, rfl, g1, r1⟩ := hz.list
    exact .inl ⟨a, us, rfl, SqL.of g1, fun p hp => h5 _ _ (nr_lst hp (r1.cut _ _))⟩
  · cases e2
    obtain ⟨a, us, rfl, g1, r1⟩ := hz.tup
    refine .inr ⟨a, us, rfl, SqT.of g1, fun hw => ?_, fun _ p hp => h5 _ _ (nr_tup hp (r1.cut _ _))⟩
    have := r1.cut l' u'
    unfold cutV at this
    rw [hw.1, hw.2] at this
    simp only [List.drop_zero, Nat.sub_zero, List.take_length] at this
    exact h5 _ _ (nr_val (.tup g1 this))
  · cases e2
/-! built-ins -/
def gAbs : List PD → Option Rc
  | [.int i] => some (.val (.int (if i < 0 then -i else i)))
  | _ => none
theorem on_abs : OpN (fun xs H Q => ∃ i, xs = [.int i] ∧ Q (.int (if i < 0 then -i else i)) H) gAbs := ⟨fun A H xs ds c Q _ hx e q => by
  unfold gAbs at e
  split at e
  · cases e
    obtain ⟨v, rfl, r⟩ := hx.one
    exact ⟨_, by rw [r.int], q _ _ (nr_val (.int _))⟩
  · cases e⟩
def gMax2 : List PD → Option Rc
  | [.int i, .int j] => some (.val (.int (if j > i then j else i)))
  | _ => none
def gMin2 : List PD → Option Rc
  | [.int i, .int j] => some (.val (.int (if j < i then j else i)))
  | _ => none
theorem on_max2 : OpN (fun xs H Q => ∃ i j, xs = [.int i, .int j] ∧ Q (.int (if j > i then j else i)) H) gMax2 := ⟨fun A H xs ds c Q _ hx e q => by
  unfold gMax2 at e
  split at e
  · cases e
    obtain ⟨v, w, rfl, r, r2⟩ := hx.two
    exact ⟨_, _, by rw [r.int, r2.int], q _ _ (nr_val (.int _))⟩
  · cases e⟩
theorem on_min2 : OpN (fun xs H Q => ∃ i j, xs = [.int i, .int j] ∧ Q (.int (if j < i then j else i)) H) gMin2 := ⟨fun A H xs ds c Q _ hx e q => by
  unfold gMin2 at e
  split at e
  · cases e
    obtain ⟨v, w, rfl, r, r2⟩ := hx.two
    exact ⟨_, _, by rw [r.int, r2.int], q _ _ (nr_val (.int _))⟩
  · cases e⟩
def gLen : List PD → Option Rc
  | [.list ds] => some (.val (.int ds.length))
  | [.tuple ds] => some (.val (.int ds.length))
  | _ => none
theorem on_len (K : PySem.W.Frag) : OpN (fun xs H Q => ∃ x n, xs = [x] ∧ LenV K x H n ∧ Q (.int n) H) gLen := ⟨fun A H xs ds c Q _ hx e q => by
  unfold gLen at e
  split at e
  · cases e
    obtain ⟨v, rfl, r⟩ := hx.one
    obtain ⟨p, us, rfl, h, rr⟩ := r.list
    exact ⟨_, _, rfl, .inl ⟨us, SqL.of h, rr.length.symm⟩, q _ _ (nr_val (.int _))⟩
  · cases e
    obtain ⟨v, rfl, r⟩ := hx.one
    obtain ⟨p, us, rfl, h, rr⟩ := r.tup
    exact ⟨_, _, rfl, .inr ⟨us, SqT.of h, rr.length.symm⟩, q _ _ (nr_val (.int _))⟩
  · cases e⟩
/-- a list of ints, of truths -/
def intsOf : List PD → Option (List Int)
  | [] => some []
  | .int i :: ds => (intsOf ds).map (i :: ·)
  | _ :: _ => none
def boolsOf : List PD → Option (List Bool)
  | [] => some []
  | .bool i :: ds => (boolsOf ds).map (i :: ·)
  | _ :: _ => none
theorem intsOf_rp {A : AS} {H : Hp} : ∀ {vs : List V} {ds : List PD} {ns : List Int}, RpAll A H vs ds → intsOf ds = some ns → vs = ns.map V.int
  | _, _, _, .nil, e => by cases e; rfl
  | _, _, ns, .cons r h, e => by
    cases r with
    | int i =>
      simp only [intsOf] at e
      cases e1 : intsOf _ with
      | none => rw [e1] at e; cases e
      | some ms => rw [e1] at e; cases e; rw [intsOf_rp h e1]; rfl
    | _ => cases e
theorem boolsOf_rp {A : AS} {H : Hp} : ∀ {vs : List V} {ds : List PD} {ns : List Bool}, RpAll A H vs ds → boolsOf ds = some ns → vs = ns.map V.bl
  | _, _, _, .nil, e => by cases e; rfl
  | _, _, ns, .cons r h, e => by
    cases r with
    | bl i =>
      simp only [boolsOf] at e
      cases e1 : boolsOf _ with
      | none => rw [e1] at e; cases e
      | some ms => rw [e1] at e; cases e; rw [boolsOf_rp h e1]; rfl
    | _ => cases e
theorem rp_ints {A : AS} {H : Hp} : ∀ ns : List Int, RpAll A H (ns.map V.int) (ns.map PyData.int)
  | [] => .nil
  | n :: ns => .cons (.int n) (rp_ints ns)
def gSum : List PD → Option Rc
  | [.list ds] => (intsOf ds).map fun ns => .val (.int ns.sum)
  | _ => none
theorem on_sum (K : PySem.W.Frag) : OpN (rSum K) gSum := ⟨fun A H xs ds c Q _ hx e q => by
  unfold gSum at e
  split at e
  · rename_i l
    cases e1 : intsOf l with
    | none => rw [e1] at e; cases e
    | some ns =>
      rw [e1] at e
      cases e
      obtain ⟨v, rfl, r⟩ := hx.one
      obtain ⟨p, us, rfl, h, rr⟩ := r.list
      exact ⟨p, ns, rfl, by rw [← intsOf_rp rr e1]; exact SqL.of h, q _ _ (nr_val (.int _))⟩
  · cases e⟩
def gAll : List PD → Option Rc
  | [.list ds] => (boolsOf ds).map fun ns => .val (.bool (ns.all id))
  | _ => none
def gAny : List PD → Option Rc
  | [.list ds] => (boolsOf ds).map fun ns => .val (.bool (ns.any id))
  | _ => none
theorem on_all (K : PySem.W.Frag) : OpN (rAll K) gAll := ⟨fun A H xs ds c Q _ hx e q => by
  unfold gAll at e
  split at e
  · rename_i l
    cases e1 : boolsOf l with
    | none => rw [e1] at e; cases e
    | some ns =>
      rw [e1] at e
      cases e
      obtain ⟨v, rfl, r⟩ := hx.one
      obtain ⟨p, us, rfl, h, rr⟩ := r.list
      exact ⟨p, ns, rfl, by rw [← boolsOf_rp rr e1]; exact SqL.of h, q _ _ (nr_val (.bl _))⟩
  · cases e⟩
theorem on_any (K : PySem.W.Frag) : OpN (rAny K) gAny := ⟨fun A H xs ds c Q _ hx e q => by
  unfold gAny at e
  split at e
  · rename_i l
    cases e1 : boolsOf l with
    | none => rw [e1] at e; cases e
    | some ns =>
      rw [e1] at e
      cases e
      obtain ⟨v, rfl, r⟩ := hx.one
      obtain ⟨p, us, rfl, h, rr⟩ := r.list
      exact ⟨p, ns, rfl, by rw [← boolsOf_rp rr e1]; exact SqL.of h, q _ _ (nr_val (.bl _))⟩
  · cases e⟩
def gList : List PD → Option Rc
  | [.list ds] => some (.fresh (.list ds))
  | [.tuple ds] => some (.fresh (.list ds))
  | _ => none
def gTuple : List PD → Option Rc
  | [.list ds] => some (.val (.tuple ds))
  | [.tuple ds] => some (.val (.tuple ds))
  | _ => none
theorem on_list (K : PySem.W.Frag) : OpN (fun xs H Q => ∃ p ys, xs = [.ref p] ∧ (SqL K H p ys ∨ SqT K H p ys) ∧ ∀ l, H l = none → Q (.ref l) (upd H l (.lst ys))) gList := ⟨fun A H xs ds c Q _ hx e q => by
  unfold gList at e
  split at e
  · cases e
    obtain ⟨v, rfl, r⟩ := hx.one
    obtain ⟨p, us, rfl, h, rr⟩ := r.list
    exact ⟨p, us, rfl, .inl (SqL.of h), fun l hl => q _ _ (nr_lst hl rr)⟩
  · cases e
    obtain ⟨v, rfl, r⟩ := hx.one
    obtain ⟨p, us, rfl, h, rr⟩ := r.tup
    exact ⟨p, us, rfl, .inr (SqT.of h), fun l hl => q _ _ (nr_lst hl rr)⟩
  · cases e⟩
theorem on_tuple (K : PySem.W.Frag) : OpN (fun xs H Q => ∃ p ys, xs = [.ref p] ∧ ((SqL K H p ys ∧ ∀ l, H l = none → Q (.ref l) (upd H l (.tup ys))) ∨ (SqT K H p ys ∧ Q (.ref p) H))) gTuple := ⟨fun A H xs ds c Q _ hx e q => by
  unfold gTuple at e
  split at e
  · cases e
    obtain ⟨v, rfl, r⟩ := hx.one
    obtain ⟨p, us, rfl, h, rr⟩ := r.list
    exact ⟨p, us, rfl, .inl ⟨SqL.of h, fun l hl => q _ _ (nr_tup hl rr)⟩⟩
  · cases e
    obtain ⟨v, rfl, r⟩ := hx.one
    obtain ⟨p, us, rfl, h, rr⟩ := r.tup
    exact ⟨p, us, rfl, .inr ⟨SqT.of h, q _ _ (nr_val (.tup h rr))⟩⟩
  · cases e⟩
def gInt : List PD → Option Rc
  | [.int i] => some (.val (.int i))
  | [.bool k] => some (.val (.int (if k then 1 else 0)))
  | _ => none
theorem on_int : OpN (fun xs H Q => (∃ i, xs = [.int i] ∧ Q (.int i) H) ∨ ∃ k, xs = [.bl k] ∧ Q (.int (if k then 1 else 0)) H) gInt := ⟨fun A H xs ds c Q _ hx e q => by
  unfold gInt at e
  split at e
  · cases e
    obtain ⟨v, rfl, r⟩ := hx.one
    exact .inl ⟨_, by rw [r.int], q _ _ (nr_val (.int _))⟩
  · cases e
    obtain ⟨v, rfl, r⟩ := hx.one
    exact .inr ⟨_, by rw [r.bool], q _ _ (nr_val (.int _))⟩
  · cases e⟩
def gNeg : PD → Option Rc
  | .int i => some (.val (.int (-i)))
  | _ => none
theorem o1_neg : Op1 (rU fun i => .int (-i)) gNeg := ⟨fun A H x d1 c Q _ hx e q => by
  unfold gNeg at e
  split at e
  · cases e
    exact ⟨_, hx.int, q _ _ (nr_val (.int _))⟩
  · cases e⟩
end DP
/-! DPQ: sorted, stores into lists and dicts, append, get. -/
namespace DP
open PySem L2
/-! sorted -/
def rSortedD (K : PySem.W.Frag) : List V → Hp → VK → Prop := fun vs H Q => ∃ (a : Addr) (ps : List (V × PD)), vs = [V.ref a] ∧ SqL K H a (ps.map (·.1)) ∧ (∀ p ∈ ps, Dp K H p.1 p.2) ∧ PySem.W.AllAlike (ps.map (·.2)) ∧ PySem.W.Sortable (ps.map (·.2)) ∧ (∀ p ∈ ps, p.2.depth ≤ 60) ∧
  ∀ l, H l = none → Q (.ref l) (upd H l (.lst ((ps.mergeSort (PySem.W.dataLe false (·.2))).map (·.1))))
section
variable {X : Cx} {pins : List (Addr × Obj)} {σ : L2.St} {H : Hp} {s : Shared}
theorem each_of : ∀ {ps : List (V × PD)} {us : List Value}, Vals (ps.map (·.1)) us → PySem.W.EachIs (fun u p => RelV p.1 u) us ps
  | [], _, r => by cases r; exact .nil
  | p :: ps, _, r => by
    cases r with
    | cons r h => exact .cons r (each_of h)
theorem each_to : ∀ {ps : List (V × PD)} {us : List Value}, PySem.W.EachIs (fun u (p : V × PD) => RelV p.1 u) us ps → Vals (ps.map (·.1)) us
  | _, _, .nil => .nil
  | _, _, .cons r h => .cons r (each_to h)
theorem each_reads (I : Inv X pins σ H s) : ∀ {ps : List (V × PD)} {us : List Value}, Vals (ps.map (·.1)) us → (∀ p ∈ ps, Dp X.K H p.1 p.2) → PySem.W.EachIs (fun u (p : V × PD) => ∃ as, Reads s.heap u p.2 as) us ps
  | [], _, r, _ => by cases r; exact .nil
  | p :: ps, _, r, h => by
    cases r with
    | cons r t => exact .cons (Dp.reads I _ _ _ (h p (by simp)) r) (each_reads I t fun q hq => h q (List.mem_cons_of_mem _ hq))
theorem cr_sortedD (hu : X.A.units + 64 < cLine) : CallR X (.builtin "sorted") (rSortedD X.K) := by
  intro pins s σ H vs us Q I r ⟨a, ps, e, hs, hd, hal, hk, hdp, q⟩
  subst e
  obtain ⟨its, rv, hl, hz⟩ := I.list hs
  rw [Vals.ref1 r]
  have hlen := rv.length
  rw [List.length_map] at hlen hz
  refine PySem.W.sorted_data (enc := fun p : V × PD => p.2) hl.isList (each_of rv) (each_reads I rv hd) hal hk hz (fun p hp => by have := hdp p hp; omega) fun out h1 h2 => ?_
  obtain ⟨ep, he'⟩ := PyProof.Rows.sortedAll_at s.heap its out.toArray
  have v2 := each_to h2
  have l2 : ((ps.mergeSort (PySem.W.dataLe false (·.2))).map (·.1)).length ≤ sizeLine := by rw [List.length_map, List.length_mergeSort]; exact hz
  exact ⟨.ref _, upd H (s.heap.objs.size + 1) (.lst _), I.laid (t' := s.toks) (fun _ _ => PyProof.Rows.sortedAll_old) (Nat.le_succ _) ⟨l2, out, ep, v2, by simpa using he'⟩, rfl, q _ (I.hok.fresh (Nat.le_succ _))⟩
end
def alikeL : List PD → Bool
  | [] => true
  | d :: ds => ds.all (fun e => PySem.W.alike d e) && alikeL ds
def selfL (ds : List PD) : Bool := ds.all fun d => PySem.W.alike d d
def tupX : PD → Bool
  | .tuple (_ :: _) => true
  | _ => false
def notTN : PD → Bool
  | .tuple _ => false
  | .none => false
  | _ => true
def sortOk (ds : List PD) : Bool := alikeL ds && selfL ds && (ds.all tupX || ds.all notTN) && ds.all (fun d => d.canLay0 && decide (d.depth ≤ 60))
theorem alikeL_all : ∀ {ds : List PD}, alikeL ds = true → selfL ds = true → PySem.W.AllAlike ds := by
  intro ds h1 h2
  induction ds with
  | nil => intro d hd; cases hd
  | cons x xs ih =>
    simp only [alikeL, Bool.and_eq_true] at h1
    simp only [selfL, List.all_cons, Bool.and_eq_true] at h2
    intro d hd d' hd'
    rcases List.mem_cons.mp hd with rfl | hd
    · rcases List.mem_cons.mp hd' with rfl | hd'
      · exact h2.1
      · exact List.all_eq_true.mp h1.1 _ hd'
    · rcases List.mem_cons.mp hd' with rfl | hd'
      · rw [PySem.W.alike_comm]; exact List.all_eq_true.mp h1.1 d (by assumption)
      · exact ih h1.2 h2.2 d hd d' hd'
def leD (a b : PD) : Bool := !PySem.W.dataLt b a
/-- the int keys of a dict -/
def keysOf : List (PD × PD) → Option (List Int)
  | [] => some []
  | (.int i, _) :: r => (keysOf r).map (i :: ·)
  | _ => none
def leI (a b : Int) : Bool := decide (a ≤ b)
def gSorted : List PD → Option Rc
  | [.list ds] => if sortOk ds = true then some (.fresh (.list (ds.mergeSort leD))) else none
  | [.dict kvs] => match keysOf kvs with
    | some ks => if ks.length < 64 then some (.fresh (.list ((ks.mergeSort leI).map .int))) else none
    | none => none
  | _ => none
theorem zip_fst {A : AS} {H : Hp} : ∀ {us : List V} {ds : List PD}, RpAll A H us ds → (us.zip ds).map (·.1) = us ∧ (us.zip ds).map (·.2) = ds ∧ ∀ p ∈ us.zip ds, Rp A H p.1 p.2
  | _, _, .nil => ⟨rfl, rfl, fun p h => nomatch h⟩
  | _, _, .cons r h => by
    obtain ⟨a, b, c⟩ := zip_fst h
    refine ⟨by simp [a], by simp [b], fun p hp => ?_⟩
    simp only [List.zip_cons_cons, List.mem_cons] at hp
    rcases hp with rfl | hp
    · exact r
    · exact c p hp
theorem of_pairs {A : AS} {H : Hp} : ∀ {ps : List (V × PD)}, (∀ p ∈ ps, Rp A H p.1 p.2) → RpAll A H (ps.map (·.1)) (ps.map (·.2))
  | [], _ => .nil
  | p :: ps, h => .cons (h p (by simp)) (of_pairs fun q hq => h q (List.mem_cons_of_mem _ hq))
def rSortedK (K : PySem.W.Frag) : List V → Hp → VK → Prop := fun xs H Q => ∃ (a : Addr) (kvs : List (Key × V)) (ks : List Int), xs = [.ref a] ∧ Rd H a (.dK kvs) ∧ kvs.map (·.1) = ks.map Sum.inl ∧ ks.length < 64 ∧ ∀ (ys : List Int) (p : Addr), ys.Perm ks → ys.Pairwise (· ≤ ·) → H p = none → Q (.ref p) (upd H p (.lst (ys.map V.int)))
theorem keysOf_rp {A : AS} {H : Hp} : ∀ {kvs : List (Key × V)} {ds : List (PD × PD)} {ks : List Int}, RpKV A H kvs ds → keysOf ds = some ks → kvs.map (·.1) = ks.map Sum.inl
  | _, _, _, .nil, e => by cases e; rfl
  | _, _, ks, .cons (k := k) r h, e => by
    cases k with
    | inl i =>
      simp only [kD, keysOf] at e
      cases e1 : keysOf _ with
      | none => rw [e1] at e; cases e
      | some l => rw [e1] at e; cases e; simp [keysOf_rp h e1]
    | inr x => cases e
theorem sorted_unique {ys zs : List Int} (p : ys.Perm zs) (h1 : ys.Pairwise (· ≤ ·)) (h2 : zs.Pairwise (· ≤ ·)) : ys = zs := List.Perm.eq_of_pairwise (fun a b _ _ h1 h2 => Int.le_antisymm h1 h2) h1 h2 p
theorem msort_sorted (ks : List Int) : (ks.mergeSort leI).Pairwise (· ≤ ·) := by
  have := List.pairwise_mergeSort (le := leI) (fun a b c h1 h2 => by simp [leI] at *; omega) (fun a b => by simp [leI]; omega) ks
  exact this.imp fun {a b} h => by simpa [leI] using h
theorem on_sorted (K : PySem.W.Frag) : OpN (fun vs H Q => rSortedD K vs H Q ∨ rSortedK K vs H Q) gSorted := ⟨fun A H xs ds c Q hd hx e q => by
  unfold gSorted at e
  split at e
  · rename_i ds
    split at e
    · rename_i hok
      cases e
      simp only [sortOk, Bool.and_eq_true, Bool.or_eq_true, List.all_eq_true, decide_eq_true_eq] at hok
      obtain ⟨⟨⟨h1, h2⟩, h3⟩, h4⟩ := hok
      obtain ⟨v, rfl, r⟩ := hx.one
      obtain ⟨p, us, rfl, h, rr⟩ := r.list
      obtain ⟨z1, z2, z3⟩ := zip_fst rr
      refine .inl ⟨p, us.zip ds, rfl, by rw [z1]; exact SqL.of h, fun w hw => (z3 w hw).dp (h4 _ ?_).1, by rw [z2]; exact alikeL_all h1 h2, ?_, fun w hw => (h4 _ ?_).2, fun l hl => ?_⟩
      · rw [← z2]; exact List.mem_map.mpr ⟨w, hw, rfl⟩
      · rw [z2]
        rcases h3 with h3 | h3
        · left
          intro d hd
          have := h3 d hd
          unfold tupX at this
          split at this
          · exact ⟨_, _, rfl⟩
          · cases this
        · right
          intro d hd
          have := h3 d hd
          unfold notTN at this
          split at this
          · cases this
          · cases this
          · rename_i g1 g2
            exact ⟨g2, g1⟩
      · rw [← z2]; exact List.mem_map.mpr ⟨w, hw, rfl⟩
      · have e2 : ((us.zip ds).mergeSort (PySem.W.dataLe false (·.2))).map (·.2) = ds.mergeSort leD := by
          rw [List.map_mergeSort (s := leD) (f := fun p : V × PD => p.2) (fun a _ b _ => by rw [PySem.W.dataLe_eq]; rfl), z2]
        have rr2 := of_pairs (A := A) (H := H) (ps := (us.zip ds).mergeSort (PySem.W.dataLe false (·.2))) fun p hp => z3 p (List.mem_mergeSort.mp hp)
        rw [e2] at rr2
        exact q _ _ (nr_lst hl rr2)
    · cases e
  · rename_i kvs
    split at e
    · rename_i ks hk
      split at e
      · rename_i h64
        cases e
        obtain ⟨v, rfl, r⟩ := hx.one
        obtain ⟨p, us, rfl, h, rr⟩ := r.dic
        refine .inr ⟨p, us, ks, rfl, .inl h, keysOf_rp rr hk, h64, fun ys l hp hs hl => ?_⟩
        have e2 : ys = ks.mergeSort leI := sorted_unique (hp.trans (List.mergeSort_perm ks leI).symm) hs (msort_sorted ks)
        subst e2
        exact q _ _ (nr_lst hl (rp_ints _))
      · cases e
    · cases e
  · cases e⟩
/-! ### stores into things -/
section
variable {K : PySem.W.Frag} {F : Ent} {A : AS} {H : Hp} {σ : L2.St} {ρ : Dn} {i : Nat} {p : Addr} {b : Bool} {d d' : PD}
/-- slot i's own thing is changed -/
theorem ER.updOwn {o : HO} (E : ER K F A H σ ρ) (e1 : ρ[i]? = some (some (.own b d))) (e2 : σ[i]? = some (some (.ref p))) (ho : OwnObj A (upd H p o) p d') :
    ER K F A (upd H p o) σ (ρ.set i (some (.own b d'))) ∧ Kp A A H (upd H p o) := by
  have hi : i < ρ.length := (List.getElem?_eq_some_iff.mp e1).1
  obtain ⟨hA, hl⟩ := E.ow ⟨i, b, d, e1, e2⟩
  have hp : ∃ u, H p = some u ∧ (∀ xs, u ≠ .tup xs) ∧ ∀ q v, u ≠ .frz q v := by
    cases e : H p with
    | none => rw [e] at hl; exact hl.elim
    | some u =>
      rw [e] at hl
      refine ⟨u, rfl, fun xs z => ?_, fun q v z => ?_⟩
      · subst z; exact hl
      · subst z; exact hl
  obtain ⟨u, hu, ht, hf⟩ := hp
  have kk : Kp A A H (upd H p o) := Kp.other hA hu ht
  have own : ∀ {j : Nat} {b' : Bool} {d1 : PD}, (ρ.set i (some (.own b d')))[j]? = some (some (.own b' d1)) → ∃ d2, ρ[j]? = some (some (.own b' d2)) := fun {j b' d1} e => by
    by_cases hj : i = j
    · subst hj
      rw [get_set_self hi] at e
      cases e
      exact ⟨d, e1⟩
    · rw [get_set_ne hj] at e
      exact ⟨d1, e⟩
  refine ⟨⟨by simp [E.len], fun j s e => ?_, fun j k b1 b2 d1 d2 q f1 f2 f3 f4 => ?_, fun a ha => ?_, fun c v e n => ?_, E.mono, E.grow, fun j b1 d1 q f1 f2 => ?_, E.FS, fun q hq => ?_⟩, kk⟩
  · by_cases hj : i = j
    · subst hj
      rw [get_set_self hi] at e
      cases e
      exact ⟨_, e2, p, rfl, hA, ho⟩
    · rw [get_set_ne hj] at e
      obtain ⟨v, e3, r⟩ := E.slot j s e
      refine ⟨v, e3, ?_⟩
      cases s with
      | imm d => exact Rp.kp kk r
      | own b1 d1 =>
        obtain ⟨q, rfl, n, r⟩ := r
        refine ⟨q, rfl, n, r.kp kk ?_⟩
        rw [upd_ne]
        intro z
        subst z
        exact hj (E.dist i j _ _ _ _ q e1 e e2 e3)
      | scr ns =>
        obtain ⟨q, rfl, r⟩ := r
        refine ⟨q, rfl, r.kp fun ob w z => ?_⟩
        rw [upd_ne]
        · exact z
        · intro y; subst y; rw [hu] at z; cases z; exact hf _ _ rfl
  · obtain ⟨d3, g1⟩ := own f1
    obtain ⟨d4, g2⟩ := own f2
    exact E.dist j k _ _ _ _ q g1 g2 f3 f4
  · by_cases z : a = p
    · subst z; exact absurd ha hA
    · rw [upd_ne z]; exact E.dom a ha
  · rw [upd_ne]
    · exact E.kp c v e n
    · intro z
      subst z
      have := E.ownF i b d c e1 e2
      cases b with
      | true => exact n (by simpa using this)
      | false => rw [if_neg (by simp)] at this; rw [this] at e; cases e
  · obtain ⟨d3, g1⟩ := own f1
    exact E.ownF j b1 d3 q g1 f2
  · obtain ⟨f1, d3, f2⟩ := E.ins q hq
    refine ⟨f1, ?_⟩
    by_cases hj : i = q.1
    · subst hj
      rw [e1] at f2
      cases f2
      exact ⟨d', get_set_self hi⟩
    · exact ⟨d3, by rw [get_set_ne hj]; exact f2⟩
end
/-- a target that takes data that stays -/
def SimTg (X : Cx) (W : WX) (tg : Expr) (g : PD → SM) : Prop := ∃ t : TG, PG X tg t ∧ ∀ F A H σ ρ v d D, ER X.K F A H σ ρ → Rp A H v d → PstS X.K X.mg W F A H D (g d ρ) → t v σ H D.nx
def tgOf (g : PD → Dn → Option Dn) : PD → SM := fun d ρ =>
  match g d ρ with
  | some ρ' => .nx ρ'
  | none => .no
section
variable {X : Cx} {W : WX} {tg tg2 e : Expr} {g : PD → Dn → Option Dn} {is : List Nat} {fe : M Rv} {G G2 : PD → SM} {pos : Pos}
theorem SimG.toTg (h : SimG X tg g is) : SimTg X W tg (tgOf g) := by
  obtain ⟨t, p, h⟩ := h
  refine ⟨t, p, fun F A H σ ρ v d D E R hs => ?_⟩
  unfold tgOf at hs
  cases eg : g d ρ with
  | none => rw [eg] at hs; exact hs.elim
  | some ρ' =>
    rw [eg] at hs
    exact h F A H σ ρ v d ρ' _ E R eg fun σ' E' _ _ _ => hs A H σ' E' Kp.refl
def sAsgG (f : M Rv) (G : PD → SM) : SM := bndS f fun r => bndS (frz r) G
theorem sim_asgG (he : SimE X W e fe) (hg : SimTg X W tg G) (hs : swapsWithSole [tg] e pos.line X.env = pure false := by rfl) (hw : swappedStores [tg] e X.env = pure none := by rfl)
    (h1 : (assignEach [tg] X.env).map (·.2) = [assign tg X.env] := by rfl) : SimS X W (.Assign [tg] e pos) (sAsgG fe G) := by
  obtain ⟨t, p, h⟩ := he
  obtain ⟨u, q, hg⟩ := hg
  refine ⟨_, ps_asg p q hs hw h1, fun F A H σ ρ D E h1 => ?_⟩
  refine h F A H σ ρ E _ (PstS.split E h1 fun r ρ1 A1 H1 v E1 S1 R1 h2 => ?_)
  obtain ⟨d, A2, ρ2, E2, S2, R2, h3⟩ := h2.frz E1 S1 R1
  exact hg F A2 H1 σ ρ2 v d D E2 R2 (h3.after (S2.kpr E))
def sAsgG2 (f : M Rv) (G G2 : PD → SM) : SM := bndS f fun r => bndS (frz r) fun d => sSeq (G d) (G2 d)
theorem sim_asgG2 (he : SimE X W e fe) (hg : SimTg X W tg G) (hg2 : SimTg X W tg2 G2) (ha : (assignEach [tg, tg2] X.env).map (·.2) = [assign tg X.env, assign tg2 X.env] := by rfl) (hw : swappedStores [tg, tg2] e X.env = pure none := by rfl) : SimS X W (.Assign [tg, tg2] e pos) (sAsgG2 fe G G2) := by
  obtain ⟨t, p, h⟩ := he
  obtain ⟨u, q, hg⟩ := hg
  obtain ⟨u2, q2, hg2⟩ := hg2
  refine ⟨_, ps_asg2 p q q2 ha hw, fun F A H σ ρ D E h1 => ?_⟩
  refine h F A H σ ρ E _ (PstS.split E h1 fun r ρ1 A1 H1 v E1 S1 R1 h2 => ?_)
  obtain ⟨d, A2, ρ2, E2, S2, R2, h3⟩ := h2.frz E1 S1 R1
  have h4 := h3.after (S2.kpr E)
  refine hg F A2 H1 σ ρ2 v d { D with nx := fun σ' H' => u2 v σ' H' D.nx } E2 R2 ?_
  unfold sSeq at h4
  cases e1 : G d ρ2 with
  | nx ρ' => rw [e1] at h4; exact fun A' H' σ' E' k => hg2 F A' H' σ' ρ' v d D E' (Rp.kp k R2) (h4.after k)
  | rt r ρ' => rw [e1] at h4; exact h4
  | bk ρ' => rw [e1] at h4; exact h4
  | ct ρ' => rw [e1] at h4; exact h4
  | ex x ρ' => rw [e1] at h4; exact h4
  | no => rw [e1] at h4; exact h4
/-! xs[i] = v, d[k] = v -/
def putD (k : Key) (v : PD) (kvs : List (PD × PD)) : List (PD × PD) :=
  if (kvs.any fun p => keyIsD k p.1) = true then kvs.map (fun p => if keyIsD k p.1 = true then (p.1, v) else p) else kvs ++ [(kD k, v)]
def setIx (d k v : PD) : Option PD :=
  match d with
  | .list ds => match k with
    | .int i => (ixN ds.length i).map fun j => .list (ds.set j v)
    | _ => none
  | .dict kvs => match keyD k with
    | some q => if smallL kvs.length = true then some (.dict (putD q v kvs)) else none
    | none => none
  | _ => none
def rSetAll : TSet := fun o i v H Q => (∃ p xs k j, o = .ref p ∧ i = .int k ∧ H p = some (.lst xs) ∧ ixN xs.length k = some j ∧ Q (upd H p (.lst (xs.set j v)))) ∨
  ∃ a k kvs, o = .ref a ∧ i = kV k ∧ H a = some (.dK kvs) ∧ kvs.length < sizeLine ∧ Q (upd H a (.dK (putK kvs k v)))
theorem set_all (hu : X.A.units + 1 < cLine) : PSet X rSetAll := by
  intro pins s σ H o i v ov iv u Q I ro ri rv h
  rcases h with h | ⟨a, k, kvs, e1, e2, h, hz, q⟩
  · exact set_list pins s σ H o i v ov iv u Q I ro ri rv h
  · subst e1 e2
    obtain rfl : ov = Value.ref a := ro
    exact d_setItem hu I (DPut.k h hz) ri rv fun s' I' => ⟨_, I', q⟩
theorem RpAll.set {A : AS} {H : Hp} {v : V} {d : PD} (r : Rp A H v d) : ∀ {vs : List V} {ds : List PD} (j : Nat), RpAll A H vs ds → RpAll A H (vs.set j v) (ds.set j d)
  | _, _, _, .nil => .nil
  | _, _, 0, .cons _ h => .cons r h
  | _, _, j + 1, .cons q h => .cons q (RpAll.set r j h)
theorem any_rp {A : AS} {H : Hp} {k : Key} : ∀ {kvs : List (Key × V)} {ds : List (PD × PD)}, RpKV A H kvs ds → (kvs.any fun p => decide (p.1 = k)) = ds.any fun p => keyIsD k p.1
  | _, _, .nil => rfl
  | _, _, .cons r h => by simp only [List.any_cons, keyIsD_kD, any_rp h]
theorem map_rp {A : AS} {H : Hp} {k : Key} {v : V} {d : PD} (r : Rp A H v d) : ∀ {kvs : List (Key × V)} {ds : List (PD × PD)}, RpKV A H kvs ds → RpKV A H (kvs.map fun p => if p.1 = k then (p.1, v) else p) (ds.map fun p => if keyIsD k p.1 = true then (p.1, d) else p)
  | _, _, .nil => .nil
  | _, _, .cons (k := q) (v := x) (d := y) q1 h => by
    simp only [List.map_cons, keyIsD_kD, decide_eq_true_eq]
    by_cases e : q = k
    · rw [if_pos e, if_pos e]; exact .cons r (map_rp r h)
    · rw [if_neg e, if_neg e]; exact .cons q1 (map_rp r h)
theorem RpKV.append {A : AS} {H : Hp} : ∀ {kvs kvs' : List (Key × V)} {ds ds' : List (PD × PD)}, RpKV A H kvs ds → RpKV A H kvs' ds' → RpKV A H (kvs ++ kvs') (ds ++ ds')
  | _, _, _, _, .nil, h => h
  | _, _, _, _, .cons r h, h' => .cons r (RpKV.append h h')
theorem RpKV.length {A : AS} {H : Hp} : ∀ {kvs : List (Key × V)} {ds : List (PD × PD)}, RpKV A H kvs ds → kvs.length = ds.length
  | _, _, .nil => rfl
  | _, _, .cons _ h => by simp [RpKV.length h]
theorem putK_rp {A : AS} {H : Hp} {k : Key} {v : V} {d : PD} (r : Rp A H v d) {kvs : List (Key × V)} {ds : List (PD × PD)} (h : RpKV A H kvs ds) : RpKV A H (putK kvs k v) (putD k d ds) := by
  unfold putK putD
  rw [any_rp h]
  split
  · exact map_rp r h
  · exact h.append (.cons r .nil)
/-- a store into slot i's own thing -/
def putAt (i : Nat) (d k : PD) : SM := fun ρ =>
  match ρ[i]? with
  | some (some (.own b o)) => match setIx o k d with
    | some o' => .nx (ρ.set i (some (.own b o')))
    | none => .no
  | _ => .no
def sPutIx (i : Nat) (fk : M Rv) (d : PD) : SM := fun ρ => if isOwn ρ i = true then bndS fk (fun r => bndS (rdM r) (putAt i d)) ρ else .no
theorem upd_own_list {A : AS} {H : Hp} {p : Addr} {xs ys : List V} {es : List PD} (hA : ¬ A p) (h : H p = some (.lst xs)) (r : RpAll A H ys es) : OwnObj A (upd H p (.lst ys)) p (.list es) :=
  ⟨ys, upd_same, r.kp (Kp.other hA h fun _ z => by cases z)⟩
theorem upd_own_dict {A : AS} {H : Hp} {p : Addr} {xs ys : List (Key × V)} {es : List (PD × PD)} (hA : ¬ A p) (h : H p = some (.dK xs)) (r : RpKV A H ys es) : OwnObj A (upd H p (.dK ys)) p (.dict es) :=
  ⟨ys, upd_same, r.kp (Kp.other hA h fun _ z => by cases z)⟩
theorem sim_tgsub {o ix : Expr} {i : Nat} {fk : M Rv} (hu : X.A.units + 1 < cLine) (ho : PE X o (tVar i)) (hi : SimE X W ix fk)
    (ha : ∀ v, assign (.Subscript o ix pos) X.env v = (do
      let ov ← holding [v] (eval o X.env)
      let iv ← holding [v, ov] (eval ix X.env)
      standAt pos
      holding [v, ov, iv] (setItem ov iv v)
      release [v, ov, iv] []) := by intro _; rfl) : SimTg X W (.Subscript o ix pos) (sPutIx i fk) := by
  obtain ⟨t, pk, hi⟩ := hi
  refine ⟨_, pg_sub ho pk (set_all hu) ha, fun F A H σ ρ v d D E R h => ?_⟩
  unfold sPutIx at h
  by_cases hown : isOwn ρ i = true
  case neg => rw [if_neg hown] at h; exact h.elim
  rw [if_pos hown] at h
  obtain ⟨b0, o0, e0⟩ : ∃ b o, ρ[i]? = some (some (.own b o)) := by
    unfold isOwn at hown
    split at hown
    · exact ⟨_, _, by assumption⟩
    · cases hown
  obtain ⟨w, e1, p, rfl, hA0, ob0⟩ := E.slot i _ e0
  refine ⟨.ref p, e1, ?_⟩
  refine hi F A H σ ρ E _ (PstS.split E h fun r ρ1 A1 H1 kv E1 S1 R1 h1 => ?_)
  obtain ⟨k, e2, h2⟩ := h1.rd
  have hk := RvR.rt E1 R1 e2
  have Rv' : Rp A1 H1 v d := Rp.kp (S1.kpr E) R
  unfold putAt at h2
  split at h2
  · rename_i b1 o1 e3
    obtain ⟨w', e4, p', rfl, hA1, ob1⟩ := E1.slot i _ e3
    rw [e1] at e4
    cases e4
    cases es : setIx o1 k d with
    | none => rw [es] at h2; exact h2.elim
    | some o' =>
      rw [es] at h2
      dsimp only at h2
      unfold setIx at es
      split at es
      · rename_i ds
        split at es
        · rename_i n
          cases ej : ixN ds.length n with
          | none => rw [ej] at es; cases es
          | some j =>
            rw [ej] at es
            cases es
            obtain ⟨xs, hx, rx⟩ := ob1
            have ow := upd_own_list hA1 hx (RpAll.set Rv' j rx)
            obtain ⟨E2, k2⟩ := E1.updOwn e3 e1 ow
            exact .inl ⟨p, xs, n, j, rfl, hk.int, hx, by rw [rx.length]; exact ej, h2 A1 _ σ E2 ((S1.kpr E).trans k2)⟩
        · cases es
      · rename_i kvs
        split at es
        · rename_i q hq
          split at es
          · rename_i hz
            cases es
            obtain ⟨hs, ek⟩ := keyD_eq hq
            obtain ⟨ex, _⟩ := sc_flat hk hs
            obtain ⟨xs, hx, rx⟩ := ob1
            have ow := upd_own_dict hA1 hx (putK_rp (k := q) Rv' rx)
            obtain ⟨E2, k2⟩ := E1.updOwn e3 e1 ow
            exact .inr ⟨p, q, xs, rfl, by rw [ex, ek], hx, by rw [rx.length]; exact smallL_lt hz, h2 A1 _ σ E2 ((S1.kpr E).trans k2)⟩
          · cases es
        · cases es
      · cases es
  · exact h2.elim
/-! xs.append(e) -/
def appAt (i : Nat) (d : PD) : SM := fun ρ =>
  match ρ[i]? with
  | some (some (.own b (.list ds))) => if smallL ds.length = true then .nx (ρ.set i (some (.own b (.list (ds ++ [d]))))) else .no
  | _ => .no
def isOwnLst (ρ : Dn) (i : Nat) : Bool :=
  match ρ[i]? with
  | some (some (.own _ (.list _))) => true
  | _ => false
def sApp (i : Nat) (f : M Rv) : SM := fun ρ => if isOwnLst ρ i = true then bndS f (fun r => bndS (frz r) (appAt i)) ρ else .no
theorem sim_app {o a : Expr} {i : Nat} {fa : M Rv} {apos cpos spos : Pos} (ho : PE X o (tVar i)) (ha : SimE X W a fa)
    (hbase : attributeBase o "append" X.env (eval o X.env) = eval o X.env := by rfl)
    (hfew : ((backTo cpos (starEach (a :: []) X.env)).all (fun x => !x.1) && (backToKw cpos (keywordEach [] X.env)).all (fun x => x.1.isSome)
      && decide ((a :: []).length + ([] : List Keyword).length + (if ([] : List Keyword).isEmpty then 0 else 1) < 30)) = true := by rfl)
    (hline : (apos.endLine == cpos.line) = true := by rfl) (hs : starEach (a :: []) X.env = (false, eval a X.env) :: starEach [] X.env := by rfl) (hplain : (backTo cpos (starEach [] X.env)).any (·.1) = false := by rfl)
    (hsw : swapsWith (.Call (.Attribute o "append" apos) [a] [] cpos) none spos.line X.env = pure false := by rfl) :
    SimS X W (.Expr (.Call (.Attribute o "append" apos) [a] [] cpos) spos) (sApp i fa) := by
  obtain ⟨t, pa, ha⟩ := ha
  refine ⟨_, ps_expr (pe_bm PySem.F.plainAttrs_list PySem.F.slot_list_append PySem.F.type_list_append mt_append ho (pa_cons pa pa_nil hs) hbase hfew hline hs hplain) hsw, fun F A H σ ρ D E h => ?_⟩
  unfold sApp at h
  by_cases hown : isOwnLst ρ i = true
  case neg => rw [if_neg hown] at h; exact h.elim
  rw [if_pos hown] at h
  obtain ⟨b0, o0, e0⟩ : ∃ b o, ρ[i]? = some (some (.own b (.list o))) := by
    unfold isOwnLst at hown
    split at hown
    · exact ⟨_, _, by assumption⟩
    · cases hown
  obtain ⟨w, e1, p, rfl, hA0, xs0, hx0, r0⟩ := E.slot i _ e0
  refine ⟨.ref p, e1, .inl ⟨rfl, xs0, SqL.of hx0⟩, ?_⟩
  refine ha F A H σ ρ E _ (PstS.split E h fun r ρ1 A1 H1 v E1 S1 R1 h1 => ?_)
  obtain ⟨d, A2, ρ2, E2, S2, R2, h2⟩ := h1.frz E1 S1 R1
  unfold appAt at h2
  split at h2
  · rename_i b1 ds e3
    split at h2
    · rename_i hz
      obtain ⟨w', e4, p', rfl, hA1, xs, hx, rx⟩ := E2.slot i _ e3
      rw [e1] at e4
      cases e4
      have ow := upd_own_list hA1 hx (rx.snoc R2)
      obtain ⟨E3, k3⟩ := E2.updOwn e3 e1 ow
      exact ⟨p, xs, v, rfl, rfl, hx, by rw [rx.length]; exact smallL_lt hz, h2 A2 _ σ E3 ((S2.kpr E).trans k3)⟩
    · exact h2.elim
  · exact h2.elim
/-! {} and d.get(k, x) -/
def eDict0 : M Rv := fun ρ => .ok (.fresh (.dict [])) ρ
theorem sim_dict0 : SimE X W (.Dict [] [] pos) eDict0 := by
  refine ⟨_, pe_dnewK, fun F A H σ ρ E Q h => ?_⟩
  intro p hp
  have ext := new_ext (o := .dK []) hp
  exact h A _ (.ref p) (E.ext ext) (Step.ext ext) ⟨p, rfl, ⟨E.free hp, E.owne hp, E.fnone hp, hp⟩, [], upd_same, .nil⟩
def getDf (d k x : PD) : Option PD :=
  match d with
  | .dict kvs => match keyD k with
    | some q => some ((look q kvs).getD x)
    | none => none
  | _ => none
def isDictV (r : Rv) : M Unit := fun ρ =>
  match rd r ρ with
  | some (.dict _) => .ok () ρ
  | _ => .no
def eGet2 (fo fk fx : M Rv) : M Rv := bnd fo fun o => bnd (isDictV o) fun _ => bnd fk fun k => bnd fx fun x => bnd (frz x) fun dx => bnd (rdM o) fun d => bnd (rdM k) fun kd =>
  match getDf d kd dx with
  | some c => retM (.val c)
  | none => noM
theorem sim_get2 {o k x : Expr} {fo fk fx : M Rv} {apos cpos : Pos} (hu : X.A.units + 1 < cLine) (ho : SimE X W o fo) (hk : SimE X W k fk) (hx : SimE X W x fx) (m : M2 X o "get" apos k x cpos) : SimE X W (.Call (.Attribute o "get" apos) [k, x] [] cpos) (eGet2 fo fk fx) := by
  obtain ⟨t, po, ho⟩ := ho
  obtain ⟨tk, pk, hk⟩ := hk
  obtain ⟨tx, px, hx⟩ := hx
  refine ⟨_, pe_dget2 hu po pk px m, fun F A H σ ρ E Q h => ?_⟩
  refine ho F A H σ ρ E _ (h.split fun r ρ1 A1 H1 v1 E1 S1 R1 h1 => ?_)
  have hd : ∃ kvs, rd r ρ1 = some (.dict kvs) ∧ Pst X.K X.mg W F A H σ ρ (RE F H σ) Q ((bnd fk fun k => bnd fx fun x => bnd (frz x) fun dx => bnd (rdM r) fun d => bnd (rdM k) fun kd =>
      match getDf d kd dx with
      | some c => retM (.val c)
      | none => noM) ρ1) := by
    unfold isDictV at h1
    simp only [bnd] at h1 ⊢
    split at h1
    · rename_i a ρ' e1
      split at e1
      · rename_i kvs e2
        cases e1
        exact ⟨kvs, e2, h1⟩
      · cases e1
    · rename_i e1; split at e1 <;> cases e1
    · exact h1.elim
  obtain ⟨kvs0, ed0, h1⟩ := hd
  obtain ⟨p, us0, ev, hp0, rr0⟩ := (RvR.rt E1 R1 ed0).dic
  subst ev
  refine ⟨p, rfl, .inl ⟨us0, .inl hp0⟩, ?_⟩
  refine hk F A1 H1 σ ρ1 E1 _ ((h1.after S1).split fun kr ρ2 A2 H2 v2 E2 S2 R2 h2 => ?_)
  refine hx F A2 H2 σ ρ2 E2 _ ((h2.after S2).split fun xr ρ3 A3 H3 v3 E3 S3 R3 h3 => ?_)
  obtain ⟨dx, A4, ρ4, E4, S4, R4, h4⟩ := Pst.frz E3 S3 R3 h3
  obtain ⟨d, e5, h5⟩ := h4.rd
  obtain ⟨kd, e6, h6⟩ := h5.rd
  have R1' : RvR F H A4 H3 σ ρ4 (.ref p) r := RvR.step E2 S4 (RvR.step E1 S2 R1)
  have R2' : RvR F H1 A4 H3 σ ρ4 v2 kr := RvR.step E2 S4 R2
  cases eg : getDf d kd dx with
  | none => rw [eg] at h6; exact h6.elim
  | some c =>
    rw [eg] at h6
    unfold getDf at eg
    split at eg
    · rename_i kvs
      split at eg
      · rename_i q hq
        cases eg
        obtain ⟨hs, ek⟩ := keyD_eq hq
        obtain ⟨ex, _⟩ := sc_flat (RvR.rt E4 R2' e6) hs
        obtain ⟨p', us, ev', h1', r1⟩ := (RvR.rt E4 R1' e5).dic
        cases ev'
        refine ⟨valV us q, ?_, ?_⟩
        · rw [ex, ek]; exact DGet.k h1'
        · rcases look_valV (k := q) r1 with ⟨a, b⟩ | ⟨d', v', a, b, rr⟩
          · rw [a] at h6; rw [b]; exact h6 A4 H3 v3 E4 S4 R4
          · rw [a] at h6; rw [b]; exact h6 A4 H3 v' E4 S4 rr
      · cases eg
    · cases eg
end
end DP
/-! DPR: dict comprehensions. -/
namespace DP
open PySem L2
def dcompL (g : PD → Dn → Option Dn) (vs : List Nat) (cond : M Bool) (kx : M Rv) (elt : M PD) : List PD → List (PD × PD) → M (List (PD × PD))
  | [], acc => fun ρ => .ok acc ρ
  | d :: ds, acc => fun ρ =>
    match g d ρ with
    | none => .no
    | some ρ1 => match cond ρ1 with
      | .ok true ρ2 => match kx ρ2 with
        | .ok kr ρ2k => match elt ρ2k with
          | .ok y ρ3 => match rd kr ρ3 with
            | some kd => match keyD kd with
              | some q => if smallL acc.length = true then dcompL g vs cond kx elt ds (putD q y acc) (wipeD ρ3 vs) else .no
              | none => .no
            | none => .no
          | _ => .no
        | _ => .no
      | .ok false ρ2 => dcompL g vs cond kx elt ds acc (wipeD ρ2 vs)
      | _ => .no
def eDComp (it : M (List PD)) (g : PD → Dn → Option Dn) (vs : List Nat) (cond : M Bool) (kx elt : M Rv) : M Rv := bnd it fun ds ρ =>
  if okW ρ vs = true then
    match dcompL g vs cond kx (bnd elt frz) ds [] (wipeD ρ vs) with
    | .ok acc ρ' => .ok (.fresh (.dict acc)) (backD ρ ρ' vs)
    | _ => .no
  else .no
section
variable {K : PySem.W.Frag} {mg : Str → Option Value} {W : WX} {vs : List Nat} {it : M (List PD)} {g : PD → Dn → Option Dn} {is : List Nat} {cond : M Bool} {kx elt : M Rv} {wi : TI} {tg : TG} {tt : TT} {tk te : TE}
theorem dc_run (hi : ∀ F A H σ ρ, ER K F A H σ ρ → ∀ R : It → Hp → Prop, Pst K mg W F A H σ ρ (fun A' H' _ J ds => ItR A' H' J ds) R (it ρ) → wi σ H R)
    (hg : ∀ F A H σ ρ v d ρ' (Q : L2.St → Hp → Prop), ER K F A H σ ρ → Rp A H v d → g d ρ = some ρ' → (∀ σ', ER K F A H σ' ρ' → (∀ j, j ∉ is → σ'[j]? = σ[j]? ∧ ρ'[j]? = ρ[j]?) → (∀ j, j ∈ is → ∃ d, ρ'[j]? = some (some (.imm d))) → σ'.length = σ.length → Q σ' H) → tg v σ H Q)
    (his : ∀ i ∈ is, i ∈ vs)
    (ht : ∀ F A H σ ρ, ER K F A H σ ρ → ∀ Q : Bool → Hp → Prop, Pst K mg noW F A H σ ρ RT Q (cond ρ) → tt σ H Q)
    (hkx : ∀ F A H σ ρ, ER K F A H σ ρ → ∀ Q : VK, Pst K mg noW F A H σ ρ (RE F H σ) Q (kx ρ) → tk σ H Q)
    (he : ∀ F A H σ ρ, ER K F A H σ ρ → ∀ Q : VK, Pst K mg noW F A H σ ρ (RE F H σ) Q (elt ρ) → te σ H Q) :
    ∀ F A H σ ρ, ER K F A H σ ρ → ∀ Q : VK, Pst K mg W F A H σ ρ (RE F H σ) Q (eDComp it g vs cond kx elt ρ) → tDc wi tg tt tk te vs σ H Q := by
  intro F A H σ ρ E Q h
  refine hi F A H σ ρ E _ (h.split (RR1 := fun A' H' _ J ds => ItR A' H' J ds) fun ds ρ1 A1 H1 J E1 S1 I1 h1 => ?_)
  intro D hD
  by_cases hk : okW ρ1 vs = true
  case neg => rw [if_neg hk] at h1; exact h1.elim
  rw [if_pos hk] at h1
  have hq : ∀ q ∈ F.ins, q.1 ∉ vs := fun q hq hv => by
    obtain ⟨_, d, e⟩ := E1.ins q hq
    obtain ⟨d', z⟩ := okW_get hk hv e
    cases z
  cases ec : dcompL g vs cond kx (bnd elt frz) ds [] (wipeD ρ1 vs) with
  | no => rw [ec] at h1; exact h1.elim
  | ex x ρ' => rw [ec] at h1; exact h1.elim
  | ok accF ρF =>
    rw [ec] at h1
    have extD : ∀ b o, H1 b = some o → upd H1 D (.dK []) b = some o := fun b o e => by rw [upd_ne (ne_of_none e hD)]; exact e
    have dA : ¬ A1 D := E1.free hD
    have dO : ¬ Ow σ ρ1 D := E1.owne hD
    have dF : F.H D = none := E1.fnone hD
    refine ⟨fun i m H' => m = ds.length - i ∧ i ≤ ds.length ∧ ∃ A' ρ' acc us, ER K F A' H' (wipe σ vs) ρ' ∧ StepV vs A1 H1 σ ρ1 A' H' (wipe σ vs) ρ' ∧ H' D = some (.dK us) ∧ ¬ A' D ∧ RpKV A' H' us acc ∧ (∀ i s, i ∈ vs → ρ'[i]? ≠ some (some s)) ∧
      dcompL g vs cond kx (bnd elt frz) (ds.drop i) acc ρ' = .ok accF ρF, ⟨ds.length, by simp, Nat.zero_le _, A1, wipeD ρ1 vs, [], [], (E1.wipe hq).ext extD, ⟨fun b o e _ => extD b o e, fun _ h => h, fun _ h => .inl h, fun p h => wipe_ow h, fun i s hi e => ⟨s, by rw [wipeD_out hi]; exact e⟩, fun b e => keep_none extD e, wipeD_len _ _⟩, upd_same, dA, .nil, fun i s hi => wipeD_in hi, by simpa using ec⟩, ?_⟩
    rintro i m H2 ⟨rfl, hi2, A2, ρ2, acc, us, E2, S2, hD2, dA2, r2, hw2, ec2⟩
    have k2 : Kp A1 A2 H1 H2 := S2.kpr E1
    obtain ⟨hstop, hgo⟩ := (I1.kp k2) A2 H2 Kp.refl E2.dom
    by_cases hlt : i < ds.length
    · have hd : ds[i]? = some ds[i] := by simp [hlt]
      obtain ⟨go, yld⟩ := hgo i _ hd
      rw [List.drop_eq_getElem_cons hlt] at ec2
      simp only [dcompL] at ec2
      cases eg : g ds[i] ρ2 with
      | none => rw [eg] at ec2; cases ec2
      | some ρ3 =>
        rw [eg] at ec2
        dsimp only at ec2
        refine .inr ⟨go, fun H' => ∃ A' ρ' acc us, ER K F A' H' (wipe σ vs) ρ' ∧ StepV vs A1 H1 σ ρ1 A' H' (wipe σ vs) ρ' ∧ H' D = some (.dK us) ∧ ¬ A' D ∧ RpKV A' H' us acc ∧ (∀ i s, i ∈ vs → ρ'[i]? ≠ some (some s)) ∧
          dcompL g vs cond kx (bnd elt frz) (ds.drop (i + 1)) acc ρ' = .ok accF ρF, fun H' z => ⟨ds.length - (i + 1), by omega, rfl, hlt, z⟩, fun x H3 y3 => ?_⟩
        obtain ⟨k3, r3⟩ := yld x H3 y3
        have E3 := E2.ext k3
        refine hg F A2 H3 (wipe σ vs) ρ2 x ds[i] ρ3 _ E3 r3 eg fun σ3 E4 n4 m4 l4 => ?_
        have ww : wipe σ3 vs = wipe σ vs := by
          rw [← wipe_wipe (σ := σ)]
          exact wipe_eq (fun j hj => (n4 j fun z => hj (his j z)).1) l4
        refine ⟨ww, ?_⟩
        -- what the target has done
        have l3 : ρ3.length = ρ2.length := by rw [← E4.len, l4, E3.len]
        have own3 : ∀ p, Ow σ3 ρ3 p → Ow (wipe σ vs) ρ2 p := fun p ⟨j, b, d, e1, e2⟩ => by
          by_cases hj : j ∈ is
          · obtain ⟨d', z⟩ := m4 j hj
            rw [z] at e1
            cases e1
          · exact ⟨j, b, d, by rw [← (n4 j hj).2]; exact e1, by rw [← (n4 j hj).1]; exact e2⟩
        have S3 : StepV vs A2 H2 (wipe σ vs) ρ2 A2 H3 σ3 ρ3 := ⟨fun b o e _ => k3 b o e, fun _ h => h, fun _ h => .inl h, own3, fun j s hj e => ⟨s, by rw [(n4 j fun z => hj (his j z)).2]; exact e⟩, fun b e => keep_none k3 e, l3⟩
        have r3' := r2.kp (Kp.ext (A := A2) k3)
        have hD3 := k3 D _ hD2
        have dO3 : ¬ Ow σ3 ρ3 D := fun z => dO (S2.sub D (own3 D z))
        have fin : ∀ {A5 : AS} {H5 : Hp} {ρ5 : Dn} {us5 : List (Key × V)} {acc5 : List (PD × PD)}, ER K F A5 H5 σ3 ρ5 → StepV vs A1 H1 σ ρ1 A5 H5 σ3 ρ5 → H5 D = some (.dK us5) → ¬ A5 D → RpKV A5 H5 us5 acc5 → dcompL g vs cond kx (bnd elt frz) (ds.drop (i + 1)) acc5 (wipeD ρ5 vs) = .ok accF ρF →
            ∃ A' ρ' acc us, ER K F A' H5 (wipe σ vs) ρ' ∧ StepV vs A1 H1 σ ρ1 A' H5 (wipe σ vs) ρ' ∧ H5 D = some (.dK us) ∧ ¬ A' D ∧ RpKV A' H5 us acc ∧ (∀ i s, i ∈ vs → ρ'[i]? ≠ some (some s)) ∧ dcompL g vs cond kx (bnd elt frz) (ds.drop (i + 1)) acc ρ' = .ok accF ρF :=
          fun {A5 H5 ρ5 us5 acc5} E5 S5 hD5 dA5 r5 e5 => ⟨A5, wipeD ρ5 vs, acc5, us5, by rw [← ww]; exact E5.wipe hq, by rw [← ww]; exact S5.trans StepV.wipe, hD5, dA5, r5, fun i s hi => wipeD_in hi, e5⟩
        refine ht F A2 H3 σ3 ρ3 E4 _ ?_
        cases et : cond ρ3 with
        | no => rw [et] at ec2; cases ec2
        | ex x ρ4 => rw [et] at ec2; cases ec2
        | ok b ρ4 =>
          rw [et] at ec2
          intro A4 H4 b' E5 S4 R4
          cases R4
          have hD4 : H4 D = some (.dK us) := S4.kp D _ hD3 dO3
          have grow4 : ∀ {A' : AS}, (∀ a, A' a → A2 a ∨ H3 a = none ∨ Ow σ3 ρ3 a) → ¬ A' D := fun gr z => by
            rcases gr D z with q | q | q
            · exact dA2 q
            · rw [hD3] at q; cases q
            · exact dO3 q
          cases b with
          | false =>
            rw [if_neg (by simp)]
            exact fin E5 ((S2.trans S3).trans S4.v) hD4 (grow4 S4.grow) (r3'.kp (S4.kpr E4)) ec2
          | true =>
            rw [if_pos rfl]
            dsimp only at ec2
            refine hkx F A4 H4 σ3 ρ4 E5 _ ?_
            cases ek : kx ρ4 with
            | no => rw [ek] at ec2; cases ec2
            | ex x ρ5 => rw [ek] at ec2; cases ec2
            | ok kr ρ4k =>
            rw [ek] at ec2
            dsimp only at ec2
            intro A4k H4k yk E5k S5k R5k
            refine he F A4k H4k σ3 ρ4k E5k _ ?_
            unfold bnd at ec2
            cases ee : elt ρ4k with
            | no => rw [ee] at ec2; cases ec2
            | ex x ρ5 => rw [ee] at ec2; cases ec2
            | ok rv ρ5 =>
              rw [ee] at ec2
              intro A5 H5 y E6 S5 R5
              dsimp only at ec2
              rcases frz_ok (r := rv) (ρ := ρ5) rfl with ez | ⟨d5, ρ6, ez⟩
              · rw [ez] at ec2; cases ec2
              · rw [ez] at ec2
                dsimp only at ec2
                obtain ⟨A6, E7, S6, R6, _⟩ := frz_run E6 S5 R5.q ez
                have Rk6 : RvR F H4 A6 H5 σ3 ρ6 yk kr := RvR.step E5k S6 R5k
                cases erk : rd kr ρ6 with
                | none => rw [erk] at ec2; cases ec2
                | some kd =>
                rw [erk] at ec2
                dsimp only at ec2
                cases eqk : keyD kd with
                | none => rw [eqk] at ec2; cases ec2
                | some q =>
                rw [eqk] at ec2
                dsimp only at ec2
                by_cases hz : smallL acc.length = true
                case neg => rw [if_neg hz] at ec2; cases ec2
                rw [if_pos hz] at ec2
                have S46 := S4.trans (S5k.trans S6)
                have hD5 : H5 D = some (.dK us) := S46.kp D _ hD3 dO3
                have dA6 := grow4 S46.grow
                have dO6 : ¬ Ow σ3 ρ6 D := fun z => dO3 (S46.sub D z)
                have r6 := r3'.kp (S46.kpr E4)
                obtain ⟨hsk, ekk⟩ := keyD_eq eqk
                obtain ⟨exk, _⟩ := sc_flat (RvR.rt E7 Rk6 erk) hsk
                have kD : Kp A6 A6 H5 (upd H5 D (.dK (putK us q y))) := Kp.other dA6 hD5 fun xs z => by cases z
                refine ⟨us, q, by rw [exk, ekk], hD5, by rw [r2.length]; exact smallL_lt hz, ?_⟩
                have E8 : ER K F A6 (upd H5 D (.dK (putK us q y))) σ3 ρ6 := E7.other dA6 dO6 dF hD5 (fun xs z => by cases z) fun q v z => by cases z
                have SB : StepV vs A1 H1 σ ρ1 A6 H5 σ3 ρ6 := (S2.trans S3).trans S46.v
                have S7 : StepV vs A1 H1 σ ρ1 A6 (upd H5 D (.dK (putK us q y))) σ3 ρ6 := by
                  refine ⟨fun b o e n => ?_, SB.mono, SB.grow, SB.sub, SB.def_, fun b e => ?_, SB.len⟩
                  · rw [upd_ne (ne_of_none e hD)]
                    exact SB.kp b o e n
                  · by_cases hb : b = D
                    · subst hb; rw [upd_same] at e; cases e
                    · rw [upd_ne hb] at e; exact SB.live b e
                exact fin E8 S7 upd_same dA6 (putK_rp (k := q) (Rp.kp kD R6) (r6.kp kD)) ec2
    · have e : i = ds.length := by omega
      subst e
      refine .inl ⟨hstop, ?_⟩
      rw [List.drop_length] at ec2
      cases ec2
      have EB := E1.back hk E2 k2 hw2 S2.len
      have ow : ∀ p, Ow σ (backD ρ1 ρF vs) p → Ow σ ρ1 p := fun p ⟨j, b, d, e1, e2⟩ => by
        by_cases hj : j ∈ vs
        · have hlt : j < ρF.length := by
            have := (List.getElem?_eq_some_iff.mp e1).1
            rw [backD_len] at this
            exact this
          rw [backD_in hlt hj] at e1
          have e3 := join_get (Option.some.inj e1)
          exact ⟨j, b, d, e3, e2⟩
        · rw [backD_out hj] at e1
          exact S2.sub p ⟨j, b, d, e1, by rw [wipe_out hj]; exact e2⟩
      have SE : Step A1 H1 σ ρ1 A2 H2 (backD ρ1 ρF vs) := ⟨S2.kp, S2.mono, S2.grow, ow, fun j s e => by
        by_cases hj : j ∈ vs
        · have hlt : j < ρF.length := by rw [S2.len]; exact (List.getElem?_eq_some_iff.mp e).1
          exact ⟨s, by rw [backD_in hlt hj, e]; rfl⟩
        · rw [backD_out hj]; exact S2.def_ j s hj e, S2.live, by rw [backD_len, S2.len]⟩
      exact h1 A2 H2 (.ref D) EB (S1.trans SE) ⟨D, rfl, ⟨dA2, fun z => dO (ow D z), dF, S1.live D hD⟩, us, hD2, r2⟩
end
section
variable {X : Cx} {W : WX} {kx elt tg iter : Expr} {ifs : List Expr} {scope : Scope} {own : List (Str × Nat)} {pos : Pos} {it : M (List PD)} {g : PD → Dn → Option Dn} {is : List Nat} {cond : M Bool} {fk f : M Rv}
theorem sim_dc (own : List (Str × Nat)) (hc : X.calm = true) (hN : X.N.Nodup) (hi : SimI X W tg iter it) (ok : BlkOk X.N X.env.scope scope own)
    (hg : ∀ (s : Shared) (H : Hp) (C : Addr) (cl : List (Str × Addr)) (fp : List Addr), SimG (X.blk s H scope (compEnvC scope cl C X.env) fp) tg g is)
    (ht : ∀ (s : Shared) (H : Hp) (C : Addr) (cl : List (Str × Addr)) (fp : List Addr), SimTs (X.blk s H scope (compEnvC scope cl C X.env) fp) ifs cond)
    (hk : ∀ (s : Shared) (H : Hp) (C : Addr) (cl : List (Str × Addr)) (fp : List Addr), SimE (X.blk s H scope (compEnvC scope cl C X.env) fp) noW kx fk)
    (he : ∀ (s : Shared) (H : Hp) (C : Addr) (cl : List (Str × Addr)) (fp : List Addr), SimE (X.blk s H scope (compEnvC scope cl C X.env) fp) noW elt f)
    (his : ∀ i ∈ is, i ∈ own.map (·.2)) (hs : ∀ x, foldedSetIterable iter X.env x = pure x := by intro _; rfl) : SimE X W (.DictComp kx elt [⟨tg, iter, ifs, 0⟩] scope pos) (eDComp it g (own.map (·.2)) cond fk f) := by
  obtain ⟨w, pi, hi⟩ := hi
  refine ⟨_, pe_dc (g := starG X.K g is) (tt := starTs X.K X.mg cond) (tk := starE X.K X.mg noW fk) (tv := starE X.K X.mg noW f) hc hN pi ok (fun s H C cl fp => (hg s H C cl fp).star) (fun s H C cl fp => (ht s H C cl fp).star) (fun s H C cl fp => (hk s H C cl fp).star) (fun s H C cl fp => (he s H C cl fp).star) hs, ?_⟩
  exact dc_run (K := X.K) (mg := X.mg) hi (fun F A H σ ρ v d ρ' Q E R eg q => ⟨F, A, d, ρ, ρ', E, R, eg, q⟩) his (fun F A H σ ρ E Q q => ⟨F, A, ρ, E, q⟩) (fun F A H σ ρ E Q q => ⟨F, A, ρ, E, q⟩) (fun F A H σ ρ E Q q => ⟨F, A, ρ, E, q⟩)
theorem sw_trueD {kx elt : Expr} {gs : List Comprehension} {scope : Scope} {pos py : Pos} {y : Str} {l : Nat} {env : PySem.Env} (hk : env.scope.kind = .function) (hy : env.scope.names.lookup y = some .local) (hl : (py.line == pos.line) = true)
    (ha : (scope.names.any fun (n, k) => n == y && (k == .local || k == .cell)) = false) : swapsWith (.DictComp kx elt gs scope pos) (some (.Name y py)) l env = pure true := by
  have ky : env.kindOf y = some .local := hy
  have hb : env.blockKind = .function := by unfold PySem.Env.blockKind; rw [hk]; rfl
  unfold swapsWith
  simp only [hb, ky, ha, Expr.pos, hl]
  rfl
theorem ps_setDc {i : Nat} {y : Str} {py spos : Pos} {wi : TI} {g : TG} {tt : TT} {tk tv : TE} (hc : X.calm = true) (hN : X.N.Nodup) (hy : X.N[i]? = some y) (hyl : X.env.scope.names.lookup y = some .local)
    (hsw : swapsWith (.DictComp kx elt [⟨tg, iter, ifs, 0⟩] scope pos) (some (.Name y py)) spos.line X.env = pure true) (hi : PI X tg iter wi) (ok : BlkOk X.N X.env.scope scope own)
    (hg : ∀ (s : Shared) (H : Hp) (C : Addr) (cl : List (Str × Addr)) (fp : List Addr), PG (X.blk s H scope (compEnvC scope cl C X.env) fp) tg g) (ht : ∀ (s : Shared) (H : Hp) (C : Addr) (cl : List (Str × Addr)) (fp : List Addr), PTs (X.blk s H scope (compEnvC scope cl C X.env) fp) ifs tt)
    (hk : ∀ (s : Shared) (H : Hp) (C : Addr) (cl : List (Str × Addr)) (fp : List Addr), PE (X.blk s H scope (compEnvC scope cl C X.env) fp) kx tk)
    (he : ∀ (s : Shared) (H : Hp) (C : Addr) (cl : List (Str × Addr)) (fp : List Addr), PE (X.blk s H scope (compEnvC scope cl C X.env) fp) elt tv) (hs : ∀ x, foldedSetIterable iter X.env x = pure x := by intro _; rfl) :
    PS X (.Assign [.Name y py] (.DictComp kx elt [⟨tg, iter, ifs, 0⟩] scope pos) spos) (tAsg (tDc wi g tt tk tv (own.map (·.2))) (gName i)) := by
  refine ⟨fun pins s σ H D I h => ?_⟩
  rw [exec_Assign_Name_used _ _ _ _ hsw]
  refine wpAny_bind (wpAny_standAt (wpAny_bind ?_))
  show wpAny _ X.A (do let _ ← comprehension (.DictComp kx elt [⟨tg, iter, ifs, 0⟩] scope pos) scope X.env (firstIterPos [⟨tg, iter, ifs, 0⟩] pos) newDict false (eval iter X.env) (some (assign (.Name y py) X.env))) _ _ s
  have h : tDc wi g tt tk tv (own.map (·.2)) σ H (fun x H1 => gName i x σ H1 D.nx) := h
  refine wpAny_bind (thn (dc_core (Qf := fun _ s' => SP X pins D .next s') hc hN I hi ok hg ht hk he hs h fun L C s' m H' I' q hn f => ?_) fun _ s' hq => wpAny_pure (wpAny_pure hq))
  show wpAny _ _ (assign (.Name y py) X.env (.ref L)) _ _ _
  refine wpAny_assign_Name (store_ok2 (v := V.ref L) I' hN hy (.inl hyl) rfl (fun s2 I2 ⟨a, sb, ha⟩ => ?_) (.inr hyl))
  obtain ⟨f0, f1, f2, f3, f4, f5⟩ := f
  have haC : C ≠ a := by
    rcases ha with z | z
    · rw [z]; exact f1
    · exact fun e => f4 y a z e.symm
  refine ⟨m, hn.sameBut sb haC, fun h3 sb3 => ?_⟩
  exact ⟨_, H', I2.turned (t' := s2.toks) (fun b o hb e => (sb3.2 b hb).trans e) f0 f1 f3 f4 f5, q⟩
theorem sim_setdc (own : List (Str × Nat)) {i : Nat} {y : Str} {py spos : Pos} (hc : X.calm = true) (hN : X.N.Nodup) (hy : X.N[i]? = some y) (hyl : X.env.scope.names.lookup y = some .local)
    (hw : swapsWith (.DictComp kx elt [⟨tg, iter, ifs, 0⟩] scope pos) (some (.Name y py)) spos.line X.env = pure true) (hi : SimI X W tg iter it) (ok : BlkOk X.N X.env.scope scope own)
    (hg : ∀ (s : Shared) (H : Hp) (C : Addr) (cl : List (Str × Addr)) (fp : List Addr), SimG (X.blk s H scope (compEnvC scope cl C X.env) fp) tg g is)
    (ht : ∀ (s : Shared) (H : Hp) (C : Addr) (cl : List (Str × Addr)) (fp : List Addr), SimTs (X.blk s H scope (compEnvC scope cl C X.env) fp) ifs cond)
    (hk : ∀ (s : Shared) (H : Hp) (C : Addr) (cl : List (Str × Addr)) (fp : List Addr), SimE (X.blk s H scope (compEnvC scope cl C X.env) fp) noW kx fk)
    (he : ∀ (s : Shared) (H : Hp) (C : Addr) (cl : List (Str × Addr)) (fp : List Addr), SimE (X.blk s H scope (compEnvC scope cl C X.env) fp) noW elt f)
    (his : ∀ i ∈ is, i ∈ own.map (·.2)) (hs : ∀ x, foldedSetIterable iter X.env x = pure x := by intro _; rfl) : SimS X W (.Assign [.Name y py] (.DictComp kx elt [⟨tg, iter, ifs, 0⟩] scope pos) spos) (sSet i (eDComp it g (own.map (·.2)) cond fk f)) := by
  obtain ⟨w, pi, hi⟩ := hi
  refine ⟨_, ps_setDc (g := starG X.K g is) (tt := starTs X.K X.mg cond) (tk := starE X.K X.mg noW fk) (tv := starE X.K X.mg noW f) hc hN hy hyl hw pi ok (fun s H C cl fp => (hg s H C cl fp).star) (fun s H C cl fp => (ht s H C cl fp).star) (fun s H C cl fp => (hk s H C cl fp).star) (fun s H C cl fp => (he s H C cl fp).star) hs, fun F A H σ ρ D E h => ?_⟩
  exact dc_run (K := X.K) (mg := X.mg) hi (fun F A H σ ρ v d ρ' Q E R eg q => ⟨F, A, d, ρ, ρ', E, R, eg, q⟩) his (fun F A H σ ρ E Q q => ⟨F, A, ρ, E, q⟩) (fun F A H σ ρ E Q q => ⟨F, A, ρ, E, q⟩) (fun F A H σ ρ E Q q => ⟨F, A, ρ, E, q⟩) F A H σ ρ E _
    (PstS.split E h fun r ρ1 A1 H1 v E1 S1 R1 h2 => putR_run (S1.kpr E) E1 R1 h2)
end
end DP
/-! DPL: what all the laws have: the script, the pool; several names set at once; the end. -/
namespace DP
open PySem L2
section
variable {X : Cx} {W : WX} {e : Expr} {fe : M Rv} {es : List Expr} {fs : M (List Rv)} {pos p : Pos}
/-! the script -/
def eLenScr (i : Nat) : M Rv := fun ρ =>
  match ρ[i]? with
  | some (some (.scr ns)) => .ok (.val (.int ns.length)) ρ
  | _ => .no
theorem Scr.sq {K : PySem.W.Frag} {H : Hp} {a : Addr} {xs : List V} (h : Scr K H a xs) : SqL K H a xs := h H fun _ _ e => e
theorem sim_lenscr {n : Expr} {i : Nat} (hv : PE X n (tVar i)) (hgl : Gl X "len") (hm : X.mg "len" = none) (hb : bootBuiltins "len" = some (.builtin "len")) (hs : starEach [n] X.env = (false, eval n X.env) :: starEach [] X.env := by rfl) (hpl : (backTo pos (starEach [] X.env)).any (·.1) = false := by rfl) : SimE X W (.Call (.Name "len" p) [n] [] pos) (eLenScr i) := by
  refine ⟨_, pe_callB call_len hgl hm hb (pa_cons hv pa_nil hs) (by decide) (by decide) hs hpl, fun F A H σ ρ E Q h => ?_⟩
  unfold eLenScr at h
  split at h
  · rename_i ns e1
    obtain ⟨v, e2, a, rfl, sc⟩ := E.slot i _ e1
    refine ⟨.ref a, e2, .ref a, _, rfl, .inl ⟨_, sc.sq, rfl⟩, ?_⟩
    rw [List.length_map]
    exact h A H _ E Step.refl (.int _)
  · exact h.elim
def eSlScr (i : Nat) (hi : Int) : M Rv := fun ρ =>
  match ρ[i]? with
  | some (some (.scr ns)) => .ok (.fresh (.list (cutD (ns.map .int) none (some hi)))) ρ
  | _ => .no
theorem sim_slscr {n : Expr} {i : Nat} {k : Int} {j : Nat} {p1 p2 : Pos} (hv : PE X n (tVar i)) : SimE X W (.Subscript n (.Slice none (some (.Constant (.int k) j p1)) none p2) pos) (eSlScr i k) := by
  refine ⟨_, pe_slice sl_list hv po_none (po_some pe_int), fun F A H σ ρ E Q h => ?_⟩
  unfold eSlScr at h
  split at h
  · rename_i ns e1
    obtain ⟨v, e2, a, rfl, sc⟩ := E.slot i _ e1
    refine ⟨.ref a, e2, k, rfl, a, _, rfl, sc.sq, fun p hp => ?_⟩
    have r := (rp_ints (A := A) (H := H) ns).cut none (some k)
    obtain ⟨E', S', R'⟩ := (nr_lst hp r).rv (Z := H) (fun _ h => h) E
    exact h A _ _ E' S' R'
  · exact h.elim
def eIxScr (i : Nat) (f : M Rv) : M Rv := bnd f fun r => bnd (rdM r) fun d ρ =>
  match ρ[i]?, d with
  | some (some (.scr ns)), .int k => match atI ns k with
    | some x => .ok (.val (.int x)) ρ
    | none => .no
  | _, _ => .no
def isScr (ρ : Dn) (i : Nat) : Bool :=
  match ρ[i]? with
  | some (some (.scr _)) => true
  | _ => false
def eIxScr' (i : Nat) (f : M Rv) : M Rv := fun ρ => if isScr ρ i = true then eIxScr i f ρ else .no
theorem atI_map {α β : Type} (f : α → β) {xs : List α} {k : Int} {x : α} (h : atI xs k = some x) : atI (xs.map f) k = some (f x) := by
  unfold atI at h ⊢
  rw [List.length_map]
  cases e : ixN xs.length k with
  | none => rw [e] at h; cases h
  | some j =>
    rw [e] at h
    simp only [Option.bind_some] at h ⊢
    rw [List.getElem?_map, h]
    rfl
theorem sim_ixscr {n ix : Expr} {i : Nat} {f : M Rv} (hv : PE X n (tVar i)) (hi : SimE X W ix f) (hs : PlainIx ix) : SimE X W (.Subscript n ix pos) (eIxScr' i f) := by
  obtain ⟨t, pi, hi⟩ := hi
  refine ⟨_, pe_ix ix_list hv pi hs, fun F A H σ ρ E Q h => ?_⟩
  unfold eIxScr' at h
  by_cases hsc : isScr ρ i = true
  case neg => rw [if_neg hsc] at h; exact h.elim
  rw [if_pos hsc] at h
  obtain ⟨ns0, e0⟩ : ∃ ns, ρ[i]? = some (some (.scr ns)) := by
    unfold isScr at hsc
    split at hsc
    · exact ⟨_, by assumption⟩
    · cases hsc
  obtain ⟨v, e2, a, rfl, sc⟩ := E.slot i _ e0
  refine ⟨.ref a, e2, ?_⟩
  refine hi F A H σ ρ E _ (Pst.split (m := f) h fun r ρ1 A1 H1 w E1 S1 R1 h1 => ?_)
  obtain ⟨d, e3, h2⟩ := h1.rd
  have hz := RvR.rt E1 R1 e3
  split at h2
  · rename_i ns k e4
    obtain ⟨v', e5, a', rfl, sc'⟩ := E1.slot i _ e4
    rw [e2] at e5
    cases e5
    cases ea : atI ns k with
    | none => rw [ea] at h2; exact h2.elim
    | some x =>
      rw [ea] at h2
      exact ⟨a, _, k, .int x, rfl, hz.int, sc'.sq, atI_map V.int ea, h2 A1 H1 _ E1 S1 (.int x)⟩
  · exact h2.elim
/-! a, b = x, y -/
def setAll : List Nat → List PD → Dn → Option Dn
  | [], [], ρ => some ρ
  | i :: is, d :: ds, ρ => if freeSl ρ i = true then setAll is ds (ρ.set i (some (.imm d))) else none
  | _, _, _ => none
def sPar (is : List Nat) (fs : M (List Rv)) : SM := bndS fs fun rs => bndS (frzs rs) fun ds ρ =>
  match setAll is ds ρ with
  | some ρ' => .nx ρ'
  | none => .no
theorem setAll_two {K : PySem.W.Frag} {F : Ent} {A : AS} {H : Hp} {σ : L2.St} {ρ ρ' : Dn} {i j : Nat} {v w : V} {c d : PD} (E : ER K F A H σ ρ) (r : Rp A H v c) (q : Rp A H w d) (h : setAll [i, j] [c, d] ρ = some ρ') : ER K F A H ((σ.set i (some v)).set j (some w)) ρ' := by
  simp only [setAll] at h
  split at h
  · rename_i h1
    split at h
    · rename_i h2
      cases h
      exact (E.setImm h1 r).setImm h2 q
    · cases h
  · cases h
theorem sim_par {i j : Nat} {x y : Str} {a b : Expr} {px py pt : Pos} {kt k2 pt2} (hc : X.calm = true) (hN : X.N.Nodup) (hi : X.N[i]? = some x) (hj : X.N[j]? = some y) (hij : i ≠ j)
    (hx : X.env.scope.names.lookup x = some .local) (hy : X.env.scope.names.lookup y = some .local) (ha : SimA X W [a, b] fs)
    (hw : swappedStores [.Tuple [.Name x px, .Name y py] kt pt] (.Tuple [a, b] k2 pt2) X.env = pure (some [x, y])) (hs : swapsWithSole [.Tuple [.Name x px, .Name y py] kt pt] (.Tuple [a, b] k2 pt2) pos.line X.env = pure false := by rfl) :
    SimS X W (.Assign [.Tuple [.Name x px, .Name y py] kt pt] (.Tuple [a, b] k2 pt2) pos) (sPar [i, j] fs) := by
  obtain ⟨t, pa, ha⟩ := ha
  refine ⟨_, ps_par hc hN hi hj hij hx hy pa hw hs, fun F A H σ ρ D E h => ?_⟩
  refine ha F A H σ ρ E _ (PstS.split E h fun rs ρ1 A1 H1 vs E1 S1 R1 h1 => ?_)
  unfold bndS at h1
  rcases frzs_ok (rs := rs) (ρ := ρ1) with e | ⟨ds, ρ2, e⟩
  · rw [e] at h1; exact h1.elim
  · rw [e] at h1
    dsimp only at h1
    obtain ⟨A2, E2, S2, R2, _⟩ := frzs_run E1 S1 R1.q e
    match ds, R2, h1 with
    | [c, d], .cons r (.cons q .nil), h1 =>
      cases es : setAll [i, j] [c, d] ρ2 with
      | none => rw [es] at h1; exact h1.elim
      | some ρ3 =>
        rw [es] at h1
        exact ⟨_, _, rfl, h1 A2 H1 _ (setAll_two E2 r q es) (S2.kpr E)⟩
    | [], _, h1 => exact h1.elim
    | [c], _, h1 =>
      have hn : setAll [i, j] [c] ρ2 = none := by simp only [setAll]; split <;> rfl
      rw [hn] at h1
      exact h1.elim
    | c :: d :: g :: ds, _, h1 =>
      have hn : setAll [i, j] (c :: d :: g :: ds) ρ2 = none := by simp only [setAll]; split <;> (try split) <;> rfl
      rw [hn] at h1
      exact h1.elim
/-! x += e, ints -/
def gAug (i : Nat) (g : PD → PD → Option Rc) (f : M Rv) : SM := fun ρ =>
  match eVar i ρ with
  | .ok x _ => bndS f (fun r => bndS (rdM x) fun d1 => bndS (rdM r) fun d2 => bndS (fin (g d1 d2)) (putR i)) ρ
  | _ => .no
end
/-! calls of defs that stand -/
structure Cal (P : Program) (w : World) (K : PySem.W.Frag) (mg : Str → Option Value) (base : Heap) (k : Nat) (x : Str) (ps : List Str) (ms : List Bool) (m : List PD → FR) : Prop where
  ex : ∃ (f : Addr) (fd : FuncData), FnOk P w K mg base CX0 k f fd ps (spD mg ms m) ∧ mg x = some (.ref f) ∧ PySem.W.keepIn K (.ref f) = true ∧ Binds K fd ps []
section
variable {X : Cx} {W : WX} {k : Nat} {ps : List Str} {x : Str} {p pos : Pos} {e : Expr} {es : List Expr} {fs : M (List Rv)} {ms : List Bool} {m : List PD → FR}
theorem sim_callC (C : Cal X.prog X.w X.K X.mg X.base k x ps ms m) (hr : Room k X.A) (hg : Gl X x) (ha : SimA X W (e :: es) fs)
    (hdb : (x == ("__debug__" : Str)) = false := by decide) (he : starEach (e :: es) X.env = (false, eval e X.env) :: starEach es X.env := by rfl) (hpl : (backTo pos (starEach es X.env)).any (·.1) = false := by rfl) : SimE X W (.Call (.Name x p) (e :: es) [] pos) (eCall ms m fs) := by
  obtain ⟨f, fd, F, h1, h2, h3⟩ := C.ex
  exact sim_call F hr hg h1 h2 h3 (fun σ => pass0S σ _) ha hdb he hpl
end
theorem u65 {A : Around} {k : Nat} (hr : Room k A) : A.units + 65 < cLine := by have := hr.un; omega
theorem gs_len0 : ∀ ds ρ ρ', gsNil ds ρ = some ρ' → ds.length = 0 := fun ds ρ ρ' h => by
  cases ds with
  | nil => rfl
  | cons _ _ => cases h
theorem gs_lenc {g : PD → Dn → Option Dn} {gs : List PD → Dn → Option Dn} {n : Nat} (h : ∀ ds ρ ρ', gs ds ρ = some ρ' → ds.length = n) : ∀ ds ρ ρ', gsCons g gs ds ρ = some ρ' → ds.length = n + 1 := fun ds ρ ρ' e => by
  cases ds with
  | nil => cases e
  | cons d ds =>
    simp only [gsCons] at e
    cases e1 : g d ρ with
    | none => rw [e1] at e; cases e
    | some ρ1 => rw [e1] at e; simp [h ds ρ1 ρ' e]
/-! the pool -/
def poolOf (ns : List Int) (k : Int) : Int × Int :=
  let cell := if k < (ns.length : Int) then (atI ns k).getD 0 else 11 * (ns.take 63).sum + k
  let great := if cell < 0 then -cell else cell
  let mixed := (great % 2147483629 + 7919 * k * k + 31 * k + 17) * 48271 % 2147483647
  (great * (if (10 : Int) ^ 18 ≤ great then 1 else 0), mixed * mixed % 2147483629)
def poolD (ns : List Int) (k : Int) : PD := .list [.int (poolOf ns k).1, .int (poolOf ns k).2]
def spPool (K : PySem.W.Frag) : Sp := fun vs H Q _ => ∃ (a : Addr) (ns : List Int) (k : Int), vs = [.ref a, .int k] ∧ Scr K H a (ns.map V.int) ∧ ns.length ≤ 63 ∧ 0 ≤ k ∧ k < 64 ∧
  ∀ p H', (∀ b o, H b = some o → H' b = some o) → H p = none → H' p = some (.lst [.int (poolOf ns k).1, .int (poolOf ns k).2]) → Q (.ref p) H'
def spLaw (K : PySem.W.Frag) : Sp := fun vs H Q _ => ∃ (a : Addr) (ns : List Int), vs = [.ref a] ∧ Scr K H a (ns.map V.int) ∧ ns.length ≤ 63 ∧ ∀ H', Q (.bl true) H'
/-- the start of a def that is handed the script -/
theorem ER.scr {K : PySem.W.Frag} {H : Hp} {a : Addr} {ns : List Int} {vs : List V} {ds : List PD} {N : List Str} (hs : Scr K H a (ns.map V.int)) (h : RpAll (fun _ => False) H vs ds) (hn : (.ref a :: vs : List V).length ≤ N.length) :
    ER K ⟨fun _ => False, H, []⟩ (fun _ => False) H (L2.start N (.ref a :: vs)) (some (.scr ns) :: (ds.map (fun d => some (.imm d)) ++ List.replicate (N.length - (ds.length + 1)) none)) := by
  have hl := h.length
  have key : ∀ {j : Nat} {s : Sl}, (some (.scr ns) :: (ds.map (fun d => some (Sl.imm d)) ++ List.replicate (N.length - (ds.length + 1)) none))[j]? = some (some s) → (j = 0 ∧ s = .scr ns) ∨ ∃ i d v, j = i + 1 ∧ s = .imm d ∧ vs[i]? = some v ∧ Rp (fun _ => False) H v d := fun {j s} e => by
    cases j with
    | zero => simp at e; exact .inl ⟨rfl, e.symm⟩
    | succ i =>
      right
      simp only [List.getElem?_cons_succ] at e
      by_cases hi : i < ds.length
      · rw [List.getElem?_append_left (by simpa using hi), List.getElem?_map] at e
        cases ed : ds[i]? with
        | none => rw [ed] at e; cases e
        | some d =>
          rw [ed] at e
          cases e
          obtain ⟨v, e1, r⟩ := h.get ed
          exact ⟨i, d, v, rfl, rfl, e1, r⟩
      · rw [List.getElem?_append_right (by simpa using hi)] at e
        exact absurd e rep_none
  have noOwn : ∀ {j : Nat} {b : Bool} {d : PD}, (some (.scr ns) :: (ds.map (fun d => some (Sl.imm d)) ++ List.replicate (N.length - (ds.length + 1)) none))[j]? ≠ some (some (.own b d)) := fun {j b d} e => by
    rcases key e with ⟨_, z⟩ | ⟨_, _, _, _, z, _⟩ <;> cases z
  refine ⟨by unfold L2.start; simp at hn ⊢; omega, fun j s e => ?_, fun i j b b' d d' p e1 _ _ _ => absurd e1 noOwn, fun _ h => h.elim, fun _ _ e _ => e, fun _ h => h, fun _ h => h.elim, fun j b d p e1 _ => absurd e1 noOwn, fun p hp => ?_, fun q hq => by cases hq⟩
  · rcases key e with ⟨rfl, rfl⟩ | ⟨i, d, v, rfl, rfl, e1, r⟩
    · exact ⟨.ref a, by unfold L2.start; simp, a, rfl, hs⟩
    · refine ⟨v, ?_, r⟩
      unfold L2.start
      have hi : i < vs.length := (List.getElem?_eq_some_iff.mp e1).1
      rw [List.getElem?_append_left (by simp; omega), List.getElem?_map]
      simp [e1]
  · exact fun h => h
section
variable {P : Program} {w : World} {K : PySem.W.Frag} {mg : Str → Option Value} {base : Heap} {x qual : Str} {st : Stmt} {f : Addr} {fd : FuncData} {N ps : List Str} {k : Nat} {b : SM}
theorem law_fn {y : Str} (F : Fun K x qual st f fd) (S : FnScope N [y] (defScope st)) (hN : 1 ≤ N.length)
    (hb : ∀ (cdv : Value) (A : Around) (outer : List PySem.Env) (s : Shared) (H : Hp) (E : XK), Room k (A.deeper (PyProof.Rows.envOfC qual (defScope st) s.heap.objs.size f cdv)) → SimB (cxOf CX0 P w K mg base N qual (defScope st) f cdv A outer s H E).nox noW (defBody st) b)
    (hl : ∀ ns : List Int, ns.length ≤ 63 → ∃ ρ', b (some (.scr ns) :: List.replicate (N.length - 1) none) = .rt (.val (.bool true)) ρ') : FnOk P w K mg base CX0 (k + 1) f fd [y] (spLaw K) := by
  refine F.ok S (fun vs H Q E ⟨a, ns, h, _⟩ => by rw [h]; rfl) fun cdv A outer s H vs Q E hr ⟨a, ns, hv, hs, hn, q⟩ => ?_
  subst hv
  obtain ⟨t, p, h⟩ := hb cdv A outer s H E hr
  obtain ⟨ρ', e⟩ := hl ns hn
  refine ⟨t, p, h ⟨fun _ => False, H, []⟩ (fun _ => False) H _ _ _ (ER.scr (N := N) (vs := []) (ds := []) hs .nil (by simpa using hN)) ?_⟩
  have e' : (some (Sl.scr ns) :: (List.map (fun d => some (Sl.imm d)) ([] : List PD) ++ List.replicate (N.length - (([] : List PD).length + 1)) none)) = (some (.scr ns) :: List.replicate (N.length - 1) none) := by simp
  rw [e', e]
  intro A' H' σ' v _ _ R
  cases R
  exact q H'
theorem pool_fn {y z : Str} (F : Fun K x qual st f fd) (S : FnScope N [y, z] (defScope st)) (hN : 2 ≤ N.length)
    (hb : ∀ (cdv : Value) (A : Around) (outer : List PySem.Env) (s : Shared) (H : Hp) (E : XK), Room k (A.deeper (PyProof.Rows.envOfC qual (defScope st) s.heap.objs.size f cdv)) → SimB (cxOf CX0 P w K mg base N qual (defScope st) f cdv A outer s H E).nox noW (defBody st) b)
    (hl : ∀ (ns : List Int) (k : Int), ns.length ≤ 63 → 0 ≤ k → k < 64 → ∃ ρ', b (some (.scr ns) :: some (.imm (.int k)) :: List.replicate (N.length - 2) none) = .rt (.fresh (poolD ns k)) ρ') : FnOk P w K mg base CX0 (k + 1) f fd [y, z] (spPool K) := by
  refine F.ok S (fun vs H Q E ⟨a, ns, i, h, _⟩ => by rw [h]; rfl) fun cdv A outer s H vs Q E hr ⟨a, ns, i, hv, hs, hn, h0, h1, q⟩ => ?_
  subst hv
  obtain ⟨t, p, h⟩ := hb cdv A outer s H E hr
  obtain ⟨ρ', e⟩ := hl ns i hn h0 h1
  refine ⟨t, p, h ⟨fun _ => False, H, []⟩ (fun _ => False) H _ _ _ (ER.scr (N := N) (vs := [.int i]) (ds := [.int i]) hs (.cons (.int i) .nil) (by simpa using hN)) ?_⟩
  have e' : (some (Sl.scr ns) :: (List.map (fun d => some (Sl.imm d)) ([.int i] : List PD) ++ List.replicate (N.length - (([.int i] : List PD).length + 1)) none)) = (some (.scr ns) :: some (.imm (.int i)) :: List.replicate (N.length - 2) none) := by simp
  rw [e', e]
  intro A' H' σ' v E' _ R
  obtain ⟨pp, rfl, ⟨_, _, _, hz⟩, xs, hx, rx⟩ := R
  cases rx with
  | cons r1 rx =>
    cases rx with
    | cons r2 rx =>
      cases rx
      cases r1
      cases r2
      exact q pp H' (fun b o e => E'.kp b o e fun ⟨q, hq, _⟩ => by cases hq) hz hx
end
section
variable {X : Cx} {W : WX} {k : Nat} {ps : List Str} {x : Str} {p pos : Pos} {n e : Expr} {fe : M Rv}
def ePool (i : Nat) (f : M Rv) : M Rv := fun ρ => if isScr ρ i = true then (bnd f fun r => bnd (rdM r) fun d ρ =>
  match ρ[i]?, d with
  | some (some (.scr ns)), .int k => if ns.length ≤ 63 ∧ 0 ≤ k ∧ k < 64 then .ok (.fresh (poolD ns k)) ρ else .no
  | _, _ => .no) ρ else .no
theorem sim_pool {i : Nat} {f : Addr} {fd : FuncData} (F : FnOk X.prog X.w X.K X.mg X.base CX0 k f fd ps (spPool X.K)) (hr : Room k X.A) (hg : Gl X x) (hm : X.mg x = some (.ref f)) (hk : PySem.W.keepIn X.K (.ref f) = true) (hb : Binds X.K fd ps []) (hv : PE X n (tVar i)) (he' : SimE X W e fe)
    (hdb : (x == ("__debug__" : Str)) = false := by decide) (he : starEach (n :: [e]) X.env = (false, eval n X.env) :: starEach [e] X.env := by rfl) (he2 : starEach (e :: []) X.env = (false, eval e X.env) :: starEach [] X.env := by rfl) (hpl : (backTo pos (starEach [e] X.env)).any (·.1) = false := by rfl) : SimE X W (.Call (.Name x p) (n :: [e]) [] pos) (ePool i fe) := by
  obtain ⟨t, pe, h0⟩ := he'
  refine ⟨_, pe_call F hr hg hm hk hb .nil pass0 (pa_cons hv (pa_cons pe pa_nil he2) he) hdb he hpl, fun F A H σ ρ E Q h => ?_⟩
  unfold ePool at h
  by_cases hsc : isScr ρ i = true
  case neg => rw [if_neg hsc] at h; exact h.elim
  rw [if_pos hsc] at h
  obtain ⟨ns0, e0⟩ : ∃ ns, ρ[i]? = some (some (.scr ns)) := by
    unfold isScr at hsc
    split at hsc
    · exact ⟨_, by assumption⟩
    · cases hsc
  obtain ⟨v, e2, a, rfl, sc⟩ := E.slot i _ e0
  refine ⟨.ref a, e2, ?_⟩
  refine h0 F A H σ ρ E _ (Pst.split (m := fe) h fun r ρ1 A1 H1 w E1 S1 R1 h1 => ?_)
  obtain ⟨d, e3, h2⟩ := h1.rd
  have hz := RvR.rt E1 R1 e3
  split at h2
  · rename_i ns k e4
    obtain ⟨v', e5, a', rfl, sc'⟩ := E1.slot i _ e4
    rw [e2] at e5
    cases e5
    split at h2
    · rename_i hc
      refine ⟨a, ns, k, by rw [hz.int]; rfl, sc', hc.1, hc.2.1, hc.2.2, fun p H' kp hp hl => ?_⟩
      have nr : NewR A1 H1 H' (.ref p) (.fresh (poolD ns k)) := ⟨kp, p, rfl, hp, _, hl, .cons (.int _) (.cons (.int _) .nil)⟩
      obtain ⟨E', S', R'⟩ := nr.rv S1.live E1
      exact h2 A1 H' _ E' (S1.trans S') R'
    · exact h2.elim
  · exact h2.elim
end
end DP
/-! DPF: defs as the head tells them (FunD). -/
namespace DP
open PySem L2
section
variable {P : Program} {w : World} {K : PySem.W.Frag} {mg : Str → Option Value} {base : Heap} {x qual : Str} {st : Stmt} {f : Addr} {fd : FuncData} {N ps : List Str} {k : Nat} {b : SM} {dvs : List V} {kws : List (Str × V)}
abbrev FnP (K : PySem.W.Frag) (x : Str) (st : Stmt) (dvs : List V) (f : Addr) (fd : FuncData) : Prop := FunD K x x (defArgs st) (defBody st) (defScope st) dvs [] f fd
theorem fn_simD {ms : List Bool} (F : FunD K x qual (defArgs st) (defBody st) (defScope st) dvs kws f fd) (S : FnScope N ps (defScope st)) (hm : ms.length = ps.length)
    (hb : ∀ (cdv : Value) (A : Around) (outer : List PySem.Env) (s : Shared) (H : Hp) (E : XK), Room k (A.deeper (PyProof.Rows.envOfC qual (defScope st) s.heap.objs.size f cdv)) → SimB (cxOf CX0 P w K mg base N qual (defScope st) f cdv A outer s H E).nox noW (defBody st) b) :
    FnOk P w K mg base CX0 (k + 1) f fd ps (spD mg ms fun ds => (runF N.length ms b ds).calm) := by
  refine F.ok S (fun vs H Q E ⟨A, ds, qs, _, h, _⟩ => by rw [h.length, hm]) fun cdv A outer s H vs Q E hr ⟨Z, ds, qs, hd, ha, hq⟩ => ?_
  obtain ⟨t, p, h⟩ := hb cdv A outer s H E hr
  exact ⟨t, PSs.nox p, h _ Z H _ _ _ (ER.begins hd ha) (run_end (E := fun _ _ _ => False) ha (by
    dsimp only at hq
    cases er : runF N.length ms b ds with
    | ok c o => rw [er] at hq; exact hq
    | ex e o => rw [er] at hq; exact hq.elim
    | no => rw [er] at hq; exact hq) fun _ _ _ _ z => z)⟩
theorem law_fnD {y : Str} (F : FunD K x qual (defArgs st) (defBody st) (defScope st) dvs kws f fd) (S : FnScope N [y] (defScope st)) (hN : 1 ≤ N.length)
    (hb : ∀ (cdv : Value) (A : Around) (outer : List PySem.Env) (s : Shared) (H : Hp) (E : XK), Room k (A.deeper (PyProof.Rows.envOfC qual (defScope st) s.heap.objs.size f cdv)) → SimB (cxOf CX0 P w K mg base N qual (defScope st) f cdv A outer s H E).nox noW (defBody st) b)
    (hl : ∀ ns : List Int, ns.length ≤ 63 → ∃ ρ', b (some (.scr ns) :: List.replicate (N.length - 1) none) = .rt (.val (.bool true)) ρ') : FnOk P w K mg base CX0 (k + 1) f fd [y] (spLaw K) := by
  refine F.ok S (fun vs H Q E ⟨a, ns, h, _⟩ => by rw [h]; rfl) fun cdv A outer s H vs Q E hr ⟨a, ns, hv, hs, hn, q⟩ => ?_
  subst hv
  obtain ⟨t, p, h⟩ := hb cdv A outer s H E hr
  obtain ⟨ρ', e⟩ := hl ns hn
  refine ⟨t, PSs.nox p, h ⟨fun _ => False, H, []⟩ (fun _ => False) H _ _ _ (ER.scr (N := N) (vs := []) (ds := []) hs .nil (by simpa using hN)) ?_⟩
  have e' : (some (Sl.scr ns) :: (List.map (fun d => some (Sl.imm d)) ([] : List PD) ++ List.replicate (N.length - (([] : List PD).length + 1)) none)) = (some (.scr ns) :: List.replicate (N.length - 1) none) := by simp
  rw [e', e]
  intro A' H' σ' v _ _ R
  cases R
  exact q H'
theorem pool_fnD {y z : Str} (F : FunD K x qual (defArgs st) (defBody st) (defScope st) dvs kws f fd) (S : FnScope N [y, z] (defScope st)) (hN : 2 ≤ N.length)
    (hb : ∀ (cdv : Value) (A : Around) (outer : List PySem.Env) (s : Shared) (H : Hp) (E : XK), Room k (A.deeper (PyProof.Rows.envOfC qual (defScope st) s.heap.objs.size f cdv)) → SimB (cxOf CX0 P w K mg base N qual (defScope st) f cdv A outer s H E).nox noW (defBody st) b)
    (hl : ∀ (ns : List Int) (k : Int), ns.length ≤ 63 → 0 ≤ k → k < 64 → ∃ ρ', b (some (.scr ns) :: some (.imm (.int k)) :: List.replicate (N.length - 2) none) = .rt (.fresh (poolD ns k)) ρ') : FnOk P w K mg base CX0 (k + 1) f fd [y, z] (spPool K) := by
  refine F.ok S (fun vs H Q E ⟨a, ns, i, h, _⟩ => by rw [h]; rfl) fun cdv A outer s H vs Q E hr ⟨a, ns, i, hv, hs, hn, h0, h1, q⟩ => ?_
  subst hv
  obtain ⟨t, p, h⟩ := hb cdv A outer s H E hr
  obtain ⟨ρ', e⟩ := hl ns i hn h0 h1
  refine ⟨t, PSs.nox p, h ⟨fun _ => False, H, []⟩ (fun _ => False) H _ _ _ (ER.scr (N := N) (vs := [.int i]) (ds := [.int i]) hs (.cons (.int i) .nil) (by simpa using hN)) ?_⟩
  have e' : (some (Sl.scr ns) :: (List.map (fun d => some (Sl.imm d)) ([.int i] : List PD) ++ List.replicate (N.length - (([.int i] : List PD).length + 1)) none)) = (some (.scr ns) :: some (.imm (.int i)) :: List.replicate (N.length - 2) none) := by simp
  rw [e', e]
  intro A' H' σ' v E' _ R
  obtain ⟨pp, rfl, ⟨_, _, _, hz⟩, xs, hx, rx⟩ := R
  cases rx with
  | cons r1 rx =>
    cases rx with
    | cons r2 rx =>
      cases rx
      cases r1
      cases r2
      exact q pp H' (fun b o e => E'.kp b o e fun ⟨q, hq, _⟩ => by cases hq) hz hx
theorem binds_allD {bd : List Stmt} {sc : Scope} {ar : Arguments} (F : FunD K x qual ar bd sc dvs kws f fd) (n : Nat) (hd : dvs ≠ []) (hn : n = ps.length)
    (h : ∀ (T : Addr) (kV doc pm : Value) (an : Option Addr) (cdv ct : Value) (us its : List Value), us.length = n → its.length = dvs.length →
      ∃ k, bindArgs (PySem.W.fnOf x qual ar bd sc (.ref T) kV doc pm an cdv ct) ⟨us, []⟩ = seqItems? (.ref T) >>= k ∧ k (some its.toArray) = pure (ps.zip us)) : Binds K fd ps [] := by
  obtain ⟨ds, r, b⟩ := FunD.binds1 (ps := ps) F n dvs.length hd (by omega) fun T kV doc pm an cdv ct us its l1 l2 => by
    obtain ⟨k, e1, e2⟩ := h T kV doc pm an cdv ct us its l1 l2
    refine ⟨k, e1, ?_⟩
    rw [e2]
    have : its.drop dvs.length = [] := by simp [← l2]
    rw [this, List.append_nil]
  rw [List.drop_length] at r
  cases r
  exact b
theorem Scr.of {H : Hp} {a : Addr} {xs : List V} (hO : Only H) (hS : SqL K H a xs) : Scr K H a xs := fun H' h => by
  rcases hS with hr | hr
  · rcases hO a with e | ⟨o, ys, e⟩
    · rcases hr with q | ⟨o, q⟩ <;> rw [e] at q <;> cases q
    · rcases hr with q | ⟨o', q⟩
      · rw [e] at q; cases q
      · exact .inl (.inr ⟨o', h o' _ q⟩)
  · exact .inr hr
end
/-- an argument that is read and kept: its slot becomes data that stays -/
def eFz (f : M Rv) : M Rv := bnd f fun r => bnd (frz r) fun d => retM (.val d)
theorem sim_fz {X : Cx} {W : WX} {e : Expr} {fe : M Rv} (h : SimE X W e fe) : SimE X W e (eFz fe) := by
  obtain ⟨t, p, h⟩ := h
  refine ⟨t, p, fun F A H σ ρ E Q hp => h F A H σ ρ E Q (hp.split fun r ρ1 A1 H1 v E1 S1 R1 h1 => ?_)⟩
  obtain ⟨d, A2, ρ2, E2, S2, R2, h2⟩ := h1.frz E1 S1 R1
  exact h2 A2 H1 v E2 S2 R2
end DP
/-! DPG: defs that are called where nothing is being shown (no repr under way): the same calls, with that known. -/
namespace DP
open PySem PySem.Spec PyProof.Rows L2
def Quiet (A : Around) : Prop := A.guards = some []
theorem Quiet.deeper {A : Around} (h : Quiet A) (env : PySem.Env) : Quiet (A.deeper env) := h
/-- a def's promise, called where nothing is being shown -/
structure GFn (P : Program) (w : World) (K : PySem.W.Frag) (mg : Str → Option Value) (base : Heap) (CX : CXT) (k : Nat) (f : Addr) (fd : FuncData) (ps : List Str) (sp : Sp) : Prop where
  len : ∀ vals H Q E, sp vals H Q E → vals.length = ps.length
  run : ∀ (A : Around) (outer : List PySem.Env) (st : Shared) (H : Hp) (ag : Args) (us : List Value) (vals : List V) (Q : VK) (E : XK), Quiet A → Room k A → Env0 P w K mg base A outer st H → BindsTo st fd ag (ps.zip us) → Vals vals us → sp vals H Q E →
    codeAny (model P w) A (.call (.ref f) ag) (CR CX outer P w H st Q E) st
section
variable {X : Cx} {CX : CXT} {k : Nat} {f : Addr} {fd : FuncData} {ps : List Str} {sp : Sp} {E : L2.St → XK} {x : Str} {p pos : Pos} {e : Expr} {es : List Expr} {t : TA}
theorem pe_callG (F : GFn X.prog X.w X.K X.mg X.base CX k f fd ps sp) (hq : Quiet X.A) (hr : Room k X.A) (hg : Gl X x) (hm : X.mg x = some (.ref f)) (hk : PySem.W.keepIn X.K (.ref f) = true) (hb : Binds X.K fd ps []) (hx : ∀ σ, PassesAt CX X σ (E σ))
    (ha : PA X (e :: es) t) (hdb : (x == ("__debug__" : Str)) = false := by decide) (he : starEach (e :: es) X.env = (false, eval e X.env) :: starEach es X.env := by rfl) (hpl : (backTo pos (starEach es X.env)).any (·.1) = false := by rfl) : PE X (.Call (.Name x p) (e :: es) [] pos) (tCallS sp E t) := by
  constructor
  intro pins st σ H Q I h
  refine wpAny_Call_Name_kw (ld_glob I hg hm ?_ hdb)
  refine PySem.W.callWith_K (h₀ := X.base) I.ok.mod.kin hk (thn (ha.run pos pins st σ H _ I h) fun us st1 ⟨vals, H1, J, r, q⟩ => ⟨J.kIn, ?_⟩) he hpl
  have n1 : us.length = ps.length := r.length.symm.trans (F.len _ _ _ _ q)
  have b1 := hb st1 us J.kIn (by simpa using n1)
  rw [List.append_nil] at b1
  refine wpAny_call (codeAny_mono (F.run X.A X.stack st1 H1 ⟨us, []⟩ us vals Q (E σ) hq hr J.env0 b1 r q) fun res st2 z => ?_)
  match res, z with
  | .error ex, z => exact hx σ pins H1 st1 ex st2 J z
  | .ok (.ret u), z => exact J.after z
  | .ok .next, z => exact z.elim
  | .ok .brk, z => exact z.elim
  | .ok .cont, z => exact z.elim
end
section
variable {P : Program} {w : World} {K : PySem.W.Frag} {mg : Str → Option Value} {base : Heap} {x qual : Str} {f : Addr} {fd : FuncData} {N ps : List Str} {k : Nat} {dvs : List V} {kws : List (Str × V)} {params : Arguments} {body : List Stmt} {scope : Scope}
theorem gfn_of {CX : CXT} {sp : Sp} (F : FunD K x qual params body scope dvs kws f fd) (S : FnScope N ps scope) (len : ∀ vals H Q E, sp vals H Q E → vals.length = ps.length)
    (hbody : ∀ (cdv : Value) (A : Around) (outer : List PySem.Env) (st : Shared) (H : Hp) (vals : List V) (Q : VK) (E : XK), Quiet A → Room k (A.deeper (envOfC qual scope st.heap.objs.size f cdv)) → sp vals H Q E →
      ∃ t, PSs (cxOf CX P w K mg base N qual scope f cdv A outer st H E) body t ∧ t { nx := fun _ H' => Q .non H', rt := Q } (L2.start N vals) H) : GFn P w K mg base CX (k + 1) f fd ps sp := by
  obtain ⟨oc, od, dV, kV, doc, pm, an, cdv, ct, osl, rfl, lk, hcd, _, _⟩ := F.ex
  refine ⟨len, fun A outer st H ag us vals Q E hquiet hr e0 hb r hsp => ?_⟩
  have nl := len _ _ _ _ hsp
  have KX : K.In st.heap := e0.mod.kin.keeps fun b o z => (e0.bs b o z).1
  have lim : st.heap.NoLimit := e0.mod.nolimit.keeps fun b o z => (e0.bs b o z).1
  have kinds : ∀ y ∈ ps.zip us, scope.names.lookup y.1 = some .local ∨ (scope.names.lookup y.1 = some .cell ∧ ((cellsFrom (st.heap.objs.size + 1) scope.names []).lookup y.1).isSome = true) := by
    rintro ⟨nm, v⟩ hy
    exact (S.par nm (List.of_mem_zip hy).1).imp id fun q => ⟨q, PySem.W.cellsFrom_some _ _ _ (.inl q)⟩
  refine codeAny_call_function hr.depth (KX _ _ lk) rfl S.co S.gen rfl (PySem.W.codeRec_of KX hcd) (hb _ _ _ _ (wpAny_newFunctionEnv_cells S.kind kinds fun env he st1 inc => ?_))
  subst he
  refine ⟨lim.keeps inc.toInCall.keep, codeAny_func ?_⟩
  obtain ⟨t, ht, hq⟩ := hbody cdv A outer st H vals Q E hquiet (hr.deeper _) hsp
  have I0 : Inv (cxOf CX P w K mg base N qual scope f cdv A outer st H E) [] (L2.start N vals) H st1 := inv_start S hr.hd e0 nl r inc
  refine wpAny_mono (ht.run [] st1 (L2.start N vals) H _ I0 hq) (fun fl st2 z => ?_) fun _ _ z => z
  match fl, z with
  | .ret u, ⟨v, σ', H', J, rv, q⟩ => exact ⟨v, H', J.os, J.bare, J.base, J.hok, rv, q⟩
  | .next, ⟨σ', H', J, q⟩ => exact ⟨V.non, H', J.os, J.bare, J.base, J.hok, rfl, q⟩
  | .brk, ⟨_, _, _, q⟩ => exact q.elim
  | .cont, ⟨_, _, _, q⟩ => exact q.elim
end
/-! the law's end -/
section
variable {P : Program} {w : World} {K : PySem.W.Frag} {mg mb : Str → Option Value} {CX : CXT} {k : Nat} {fa a : Addr} {fd : FuncData} {x : Str} {sp : Sp} {t1 : Shared} {vs : List Value} {ns : List Int}
theorem law_atG (KX : K.In t1.heap) (hns : t1.heap.Ns mainGlobals mg) (hb : t1.heap.Ns builtinsNs mb) (hbb : ∀ y : Str, y ≠ "__name__" → mb y = bootBuiltins y) (hlim : t1.heap.NoLimit) (hg : t1.gens = #[])
    (ha : t1.heap.get? a = some { cls := .type "list", data := .seq vs.toArray }) (hr : Room k callerA)
    (F : ∀ base : Heap, K.In base → base.Ns mainGlobals mg → GFn P w K mg base CX k fa fd [x] sp) (hbind : ∀ (st : Shared) (u : Value), BindsTo st fd ⟨[u], []⟩ [(x, u)])
    (hCX : ∀ H e st, CX [] H t1 (fun _ _ _ => False) e st → False) (H : Hp) (hO : Only H) (hsp : sp [.ref a] H (fun v _ => v = .bl true) fun _ _ _ => False) (hok : HOk P w H t1.heap) (hA : ∀ b, H b ≠ none → b = a) (hK : H a ≠ none → K.lookup a = none) :
    codeAny (model P w) callerA (.call (.ref fa) ⟨[.ref a], []⟩) (fun r st => r = .ok (.ret (.bool true)) ∧ OldK t1.heap st.heap ∧ st.os = t1.os ∧ AllBare st.gens) t1 := by
  have atA : ∀ {b : Addr} {ho : HO}, H b = some ho → b = a := fun {b ho} z => hA b (by rw [z]; exact Option.some_ne_none _)
  have hid : ∀ {b : Addr} {o : Obj}, t1.heap.get? b = some o → H b = none → (hidT t1.heap H).get? b = some o := fun z n => hidT_get z n
  have dictFree : ∀ {b : Addr} {o : Obj} {es : Array DictEntry} {ep : Nat}, t1.heap.get? b = some o → o.data = .dict es ep → H b = none := by
    intro b o es ep z d
    cases q : H b with
    | none => rfl
    | some ho =>
      obtain rfl := atA q
      rw [ha] at z
      cases z
      have d' : Data.seq vs.toArray _ = Data.dict es ep := d
      cases d'
  have nsOf : ∀ {b : Addr} {m : Str → Option Value}, t1.heap.Ns b m → (hidT t1.heap H).Ns b m := fun ⟨o, es, ep, z, d, r⟩ => ⟨o, es, ep, hid z (dictFree z d), d, r⟩
  have KB : K.In (hidT t1.heap H) := by
    intro b o z
    refine hid (KX b o z) ?_
    cases q : H b with
    | none => rfl
    | some ho =>
      obtain rfl := atA q
      rw [hK (by rw [q]; exact Option.some_ne_none _)] at z
      cases z
  have lim' : (hidT t1.heap H).NoLimit := by
    obtain ⟨mc, h1, h2⟩ := hlim
    exact ⟨mc, nsOf h1, h2⟩
  have env0 : Env0 P w K mg (hidT t1.heap H) callerA [] t1 H := ⟨rfl, ⟨KB, nsOf hns, ⟨mb, nsOf hb, hbb⟩, lim'⟩, fun b o z => of_hidT z, Nat.le_of_eq (hidT_size _ _), trivial, fun b z => absurd (show b ∈ ([] : List Addr) from z) List.not_mem_nil, hok, .of_eq hg⟩
  refine codeAny_mono ((F _ KB (nsOf hns)).run callerA [] t1 H ⟨[.ref a], []⟩ [.ref a] [.ref a] _ _ rfl hr env0 (hbind t1 (.ref a)) (.cons rfl .nil) hsp) fun r st z => ?_
  match r, z with
  | .error e, z => exact (hCX H e st z).elim
  | .ok .next, z => exact z.elim
  | .ok .brk, z => exact z.elim
  | .ok .cont, z => exact z.elim
  | .ok (.ret u), ⟨v, H', os, bare, un, hok', r', q⟩ =>
    have q' : v = .bl true := q
    subst q'
    obtain rfl : u = Value.bool true := r'
    refine ⟨rfl, OldK.of_keep fun b o z => ?_, os, bare⟩
    rcases hO b with n | ⟨ob, xs, n⟩
    · exact un.keep b o z n (fun m => absurd (show b ∈ ([] : List Addr) from m) List.not_mem_nil) (by simp)
    · obtain ⟨e1, _⟩ := hok b _ n
      obtain ⟨e2, _⟩ := hok' b _ (un.frzs b ob _ n)
      rw [z] at e1
      cases e1
      exact e2
theorem law_callG (KX : K.In t1.heap) (hns : t1.heap.Ns mainGlobals mg) (hb : t1.heap.Ns builtinsNs mb) (hbb : ∀ y : Str, y ≠ "__name__" → mb y = bootBuiltins y) (hlim : t1.heap.NoLimit) (hg : t1.gens = #[])
    (ha : t1.heap.get? a = some { cls := .type "list", data := .seq vs.toArray }) (hi : IntsAre vs ns) (hl : ns.length ≤ sizeLine) (hr : Room k callerA)
    (F : ∀ base : Heap, K.In base → base.Ns mainGlobals mg → GFn P w K mg base CX k fa fd [x] sp) (hbind : ∀ (st : Shared) (u : Value), BindsTo st fd ⟨[u], []⟩ [(x, u)])
    (hsp : ∀ H : Hp, Only H → SqL K H a (ns.map V.int) → sp [.ref a] H (fun v _ => v = .bl true) fun _ _ _ => False) (hCX : ∀ H e st, CX [] H t1 (fun _ _ _ => False) e st → False) :
    codeAny (model P w) callerA (.call (.ref fa) ⟨[.ref a], []⟩) (fun r st => r = .ok (.ret (.bool true)) ∧ OldK t1.heap st.heap ∧ st.os = t1.os ∧ AllBare st.gens) t1 := by
  have rv := vals_ints hi
  have lenV := hi.length
  have go := law_atG KX hns hb hbb hlim hg ha hr F hbind hCX
  cases hk : K.lookup a with
  | some o =>
    have z := KX a o hk
    rw [ha] at z
    cases z
    have O : Only (fun _ => none) := fun _ => .inl rfl
    exact go (fun _ => none) O (hsp _ O (.inr ⟨_, vs.toArray, _, hk, rfl, rfl, rfl, by rw [List.size_toArray, lenV]; exact hl, by simpa using rv⟩)) (fun b u n => by cases n) (fun b n => absurd rfl n) fun n => absurd rfl n
  | none =>
    let G : Hp := fun b => if b = a then some (.frz { cls := .type "list", data := .seq vs.toArray } (.lst (ns.map V.int))) else none
    have gA : G a = some (.frz { cls := .type "list", data := .seq vs.toArray } (.lst (ns.map V.int))) := if_pos rfl
    have gN : ∀ {b : Addr}, b ≠ a → G b = none := fun n => if_neg n
    have O : Only G := fun b => by
      by_cases n : b = a
      · subst n; exact .inr ⟨_, _, gA⟩
      · exact .inl (gN n)
    refine go G O (hsp _ O (.inl (.inr ⟨_, gA⟩))) (fun b u n => ?_) (fun b n => ?_) fun _ => hk
    · by_cases m : b = a
      · subst m
        rw [gA] at n
        cases n
        exact ⟨ha, by rw [List.length_map]; exact hl, vs, _, rv, ha⟩
      · rw [gN m] at n; cases n
    · exact Classical.byContradiction fun m => n (gN m)
end
theorem walk_ofG {l : PySem.W.OpenLaw} {n k : Nat} {q : Program} {loose : List Str} {XP : (Str → Option Value) → Heap → Prop} {YP : World → Heap → Prop} {d : DefRec} {x : Str}
    (hn : l.most = some n) (hn2 : n ≤ sizeLine) (hdf : d.params.defaults = []) (hr : Room k callerA)
    (F : ∀ (w : World) (mg : Str → Option Value) (fa : Addr) (h : Heap), YP w h → h.Ns mainGlobals mg → mg d.name = some (.ref fa) →
      ∃ (K : PySem.W.Frag) (fd : FuncData) (sp : Sp), K.In h ∧ (∀ (st : Shared) (u : Value), BindsTo st fd ⟨[u], []⟩ [(x, u)]) ∧
        (∀ (H : Hp) (a : Addr) (ns : List Int), ns.length ≤ n → Only H → SqL K H a (ns.map V.int) → sp [.ref a] H (fun v _ => v = .bl true) fun _ _ _ => False) ∧ ∀ base : Heap, K.In base → base.Ns mainGlobals mg → GFn l.prog w K mg base CX0 k fa fd [x] sp) : PySem.W.WalkO q loose XP YP l.row.toRowW d [] (fun f vs => PySem.call f vs) := by
  refine Att.attach_call hn hdf fun w t0 t1 mg mb fa o pm cd doc a vs ns G Y ho hd hcd hmg hobj hints hlen hg => ?_
  obtain ⟨K, fd, sp, KX, hb, hsp, hF⟩ := F w mg fa _ Y G.T.g hmg
  exact law_callG KX G.T.g G.T.b G.T.builtins G.T.nolimit hg hobj hints (Nat.le_trans hlen hn2) hr hF hb (fun H hO hS => hsp H a ns hlen hO hS) fun H e st z => z
end DP
/-! DPH: defs, calls, the pool, the law over GFn; repr; isinstance. -/
namespace DP
open PySem L2
section
variable {P : Program} {w : World} {K : PySem.W.Frag} {mg : Str → Option Value} {base : Heap} {x qual : Str} {st : Stmt} {f : Addr} {fd : FuncData} {N ps : List Str} {k : Nat} {b : SM} {dvs : List V} {kws : List (Str × V)}
theorem fn_simG {ms : List Bool} (F : FunD K x qual (defArgs st) (defBody st) (defScope st) dvs kws f fd) (S : FnScope N ps (defScope st)) (hm : ms.length = ps.length)
    (hb : ∀ (cdv : Value) (A : Around) (outer : List PySem.Env) (s : Shared) (H : Hp) (E : XK), Quiet (A.deeper (PyProof.Rows.envOfC qual (defScope st) s.heap.objs.size f cdv)) → Room k (A.deeper (PyProof.Rows.envOfC qual (defScope st) s.heap.objs.size f cdv)) → SimB (cxOf CX0 P w K mg base N qual (defScope st) f cdv A outer s H E).nox noW (defBody st) b) :
    GFn P w K mg base CX0 (k + 1) f fd ps (spD mg ms fun ds => (runF N.length ms b ds).calm) := by
  refine gfn_of F S (fun vs H Q E ⟨A, ds, qs, _, h, _⟩ => by rw [h.length, hm]) fun cdv A outer s H vs Q E hz hr ⟨Z, ds, qs, hd, ha, hq⟩ => ?_
  obtain ⟨t, p, h⟩ := hb cdv A outer s H E hz hr
  exact ⟨t, PSs.nox p, h _ Z H _ _ _ (ER.begins hd ha) (run_end (E := fun _ _ _ => False) ha (by
    dsimp only at hq
    cases er : runF N.length ms b ds with
    | ok c o => rw [er] at hq; exact hq
    | ex e o => rw [er] at hq; exact hq.elim
    | no => rw [er] at hq; exact hq) fun _ _ _ _ z => z)⟩
theorem law_fnG {y : Str} (F : FunD K x qual (defArgs st) (defBody st) (defScope st) dvs kws f fd) (S : FnScope N [y] (defScope st)) (hN : 1 ≤ N.length)
    (hb : ∀ (cdv : Value) (A : Around) (outer : List PySem.Env) (s : Shared) (H : Hp) (E : XK), Quiet (A.deeper (PyProof.Rows.envOfC qual (defScope st) s.heap.objs.size f cdv)) → Room k (A.deeper (PyProof.Rows.envOfC qual (defScope st) s.heap.objs.size f cdv)) → SimB (cxOf CX0 P w K mg base N qual (defScope st) f cdv A outer s H E).nox noW (defBody st) b)
    (hl : ∀ ns : List Int, ns.length ≤ 63 → ∃ ρ', b (some (.scr ns) :: List.replicate (N.length - 1) none) = .rt (.val (.bool true)) ρ') : GFn P w K mg base CX0 (k + 1) f fd [y] (spLaw K) := by
  refine gfn_of F S (fun vs H Q E ⟨a, ns, h, _⟩ => by rw [h]; rfl) fun cdv A outer s H vs Q E hz hr ⟨a, ns, hv, hs, hn, q⟩ => ?_
  subst hv
  obtain ⟨t, p, h⟩ := hb cdv A outer s H E hz hr
  obtain ⟨ρ', e⟩ := hl ns hn
  refine ⟨t, PSs.nox p, h ⟨fun _ => False, H, []⟩ (fun _ => False) H _ _ _ (ER.scr (N := N) (vs := []) (ds := []) hs .nil (by simpa using hN)) ?_⟩
  have e' : (some (Sl.scr ns) :: (List.map (fun d => some (Sl.imm d)) ([] : List PD) ++ List.replicate (N.length - (([] : List PD).length + 1)) none)) = (some (.scr ns) :: List.replicate (N.length - 1) none) := by simp
  rw [e', e]
  intro A' H' σ' v _ _ R
  cases R
  exact q H'
theorem pool_fnG {y z : Str} (F : FunD K x qual (defArgs st) (defBody st) (defScope st) dvs kws f fd) (S : FnScope N [y, z] (defScope st)) (hN : 2 ≤ N.length)
    (hb : ∀ (cdv : Value) (A : Around) (outer : List PySem.Env) (s : Shared) (H : Hp) (E : XK), Quiet (A.deeper (PyProof.Rows.envOfC qual (defScope st) s.heap.objs.size f cdv)) → Room k (A.deeper (PyProof.Rows.envOfC qual (defScope st) s.heap.objs.size f cdv)) → SimB (cxOf CX0 P w K mg base N qual (defScope st) f cdv A outer s H E).nox noW (defBody st) b)
    (hl : ∀ (ns : List Int) (k : Int), ns.length ≤ 63 → 0 ≤ k → k < 64 → ∃ ρ', b (some (.scr ns) :: some (.imm (.int k)) :: List.replicate (N.length - 2) none) = .rt (.fresh (poolD ns k)) ρ') : GFn P w K mg base CX0 (k + 1) f fd [y, z] (spPool K) := by
  refine gfn_of F S (fun vs H Q E ⟨a, ns, i, h, _⟩ => by rw [h]; rfl) fun cdv A outer s H vs Q E hz hr ⟨a, ns, i, hv, hs, hn, h0, h1, q⟩ => ?_
  subst hv
  obtain ⟨t, p, h⟩ := hb cdv A outer s H E hz hr
  obtain ⟨ρ', e⟩ := hl ns i hn h0 h1
  refine ⟨t, PSs.nox p, h ⟨fun _ => False, H, []⟩ (fun _ => False) H _ _ _ (ER.scr (N := N) (vs := [.int i]) (ds := [.int i]) hs (.cons (.int i) .nil) (by simpa using hN)) ?_⟩
  have e' : (some (Sl.scr ns) :: (List.map (fun d => some (Sl.imm d)) ([.int i] : List PD) ++ List.replicate (N.length - (([.int i] : List PD).length + 1)) none)) = (some (.scr ns) :: some (.imm (.int i)) :: List.replicate (N.length - 2) none) := by simp
  rw [e', e]
  intro A' H' σ' v E' _ R
  obtain ⟨pp, rfl, ⟨_, _, _, hn'⟩, xs, hx, rx⟩ := R
  cases rx with
  | cons r1 rx =>
    cases rx with
    | cons r2 rx =>
      cases rx
      cases r1
      cases r2
      exact q pp H' (fun b o e => E'.kp b o e fun ⟨q, hq, _⟩ => by cases hq) hn' hx
end
structure CalG (P : Program) (w : World) (K : PySem.W.Frag) (mg : Str → Option Value) (base : Heap) (k : Nat) (x : Str) (ps : List Str) (ms : List Bool) (m : List PD → FR) : Prop where
  ex : ∃ (f : Addr) (fd : FuncData), GFn P w K mg base CX0 k f fd ps (spD mg ms m) ∧ mg x = some (.ref f) ∧ PySem.W.keepIn K (.ref f) = true ∧ Binds K fd ps []
section
variable {X : Cx} {W : WX} {k : Nat} {ps : List Str} {x : Str} {p pos : Pos} {e : Expr} {es : List Expr} {fs : M (List Rv)} {ms : List Bool} {m : List PD → FR}
theorem sim_callG (C : CalG X.prog X.w X.K X.mg X.base k x ps ms m) (hq : Quiet X.A) (hr : Room k X.A) (hg : Gl X x) (ha : SimA X W (e :: es) fs)
    (hdb : (x == ("__debug__" : Str)) = false := by decide) (he : starEach (e :: es) X.env = (false, eval e X.env) :: starEach es X.env := by rfl) (hpl : (backTo pos (starEach es X.env)).any (·.1) = false := by rfl) : SimE X W (.Call (.Name x p) (e :: es) [] pos) (eCall ms m fs) := by
  obtain ⟨f, fd, F, h1, h2, h3⟩ := C.ex
  obtain ⟨t, pa, ha⟩ := ha
  exact ⟨_, pe_callG (E := fun σ cls d H => W cls d σ H) F hq hr hg h1 h2 h3 (fun σ => pass0S σ _) pa hdb he hpl, call_run ha⟩
theorem sim_poolG {n : Expr} {fe : M Rv} {i : Nat} {f : Addr} {fd : FuncData} (F : GFn X.prog X.w X.K X.mg X.base CX0 k f fd ps (spPool X.K)) (hq : Quiet X.A) (hr : Room k X.A) (hg : Gl X x) (hm : X.mg x = some (.ref f)) (hk : PySem.W.keepIn X.K (.ref f) = true) (hb : Binds X.K fd ps []) (hv : PE X n (tVar i)) (he' : SimE X W e fe)
    (hdb : (x == ("__debug__" : Str)) = false := by decide) (he : starEach (n :: [e]) X.env = (false, eval n X.env) :: starEach [e] X.env := by rfl) (he2 : starEach (e :: []) X.env = (false, eval e X.env) :: starEach [] X.env := by rfl) (hpl : (backTo pos (starEach [e] X.env)).any (·.1) = false := by rfl) : SimE X W (.Call (.Name x p) (n :: [e]) [] pos) (ePool i fe) := by
  obtain ⟨t, pe, h0⟩ := he'
  refine ⟨_, pe_callG (E := fun _ _ _ _ => False) F hq hr hg hm hk hb (fun σ => pass0S σ _) (pa_cons hv (pa_cons pe pa_nil he2) he) hdb he hpl, fun F A H σ ρ E Q h => ?_⟩
  unfold ePool at h
  by_cases hsc : isScr ρ i = true
  case neg => rw [if_neg hsc] at h; exact h.elim
  rw [if_pos hsc] at h
  obtain ⟨ns0, e0⟩ : ∃ ns, ρ[i]? = some (some (.scr ns)) := by
    unfold isScr at hsc
    split at hsc
    · exact ⟨_, by assumption⟩
    · cases hsc
  obtain ⟨v, e2, a, rfl, sc⟩ := E.slot i _ e0
  refine ⟨.ref a, e2, ?_⟩
  refine h0 F A H σ ρ E _ (Pst.split (m := fe) h fun r ρ1 A1 H1 w E1 S1 R1 h1 => ?_)
  obtain ⟨d, e3, h2⟩ := h1.rd
  have hz := RvR.rt E1 R1 e3
  split at h2
  · rename_i ns k e4
    obtain ⟨v', e5, a', rfl, sc'⟩ := E1.slot i _ e4
    rw [e2] at e5
    cases e5
    split at h2
    · rename_i hc
      refine ⟨a, ns, k, by rw [hz.int], sc', hc.1, hc.2.1, hc.2.2, fun p H' kp hp hl => ?_⟩
      have nr : NewR A1 H1 H' (.ref p) (.fresh (poolD ns k)) := ⟨kp, p, rfl, hp, _, hl, .cons (.int _) (.cons (.int _) .nil)⟩
      obtain ⟨E', S', R'⟩ := nr.rv S1.live E1
      exact h2 A1 H' _ E' (S1.trans S') R'
    · exact h2.elim
  · exact h2.elim
/-! repr -/
def rReprD (K : PySem.W.Frag) : List V → Hp → VK → Prop := fun xs H Q => ∃ (a : Addr) (d : PyData), xs = [.ref a] ∧ Dp K H (.ref a) d ∧ d.showable = true ∧ d.hasDict = false ∧ d.depth ≤ 60 ∧ d.shown.length ≤ sizeLine ∧ Q (.str d.shown) H
theorem cr_repr (hq : Quiet X.A) (hu : X.A.units + 65 < cLine) : CallR X (.builtin "repr") (rReprD X.K) := by
  intro pins s σ H xs us Q I r h
  obtain ⟨a, d, rfl, hd, hs, hdi, hdp, hz, q⟩ := h
  obtain ⟨u, rfl, rfl⟩ := vals1 r
  obtain ⟨as, rr⟩ := Dp.reads I d (.ref a) (.ref a) hd rfl
  exact repr_of_reads' rr hs (fun z => by rw [hdi] at z; cases z) hq (by omega) (fun _ _ z => z) (fun h' t tk hk => ⟨.str d.shown, H, I.kept hk, ⟨_, rfl⟩, q⟩) hz
end
def isLT : PD → Bool
  | .list _ => true
  | .tuple _ => true
  | _ => false
def reprOk (d : PD) : Bool := d.showable && !d.hasDict && decide (d.depth ≤ 60) && smallL d.shown.length && d.canLay0 && isLT d
def gRepr : List PD → Option Rc
  | [d] => if reprOk d = true then some (.val (.str d.shown)) else none
  | _ => none
theorem on_repr (K : PySem.W.Frag) : OpN (rReprD K) gRepr := ⟨fun A H xs ds c Q _ hx e q => by
  unfold gRepr at e
  split at e
  · rename_i d
    split at e
    · rename_i ho
      cases e
      obtain ⟨v, rfl, r⟩ := hx.one
      unfold reprOk at ho
      simp only [Bool.and_eq_true, decide_eq_true_eq, Bool.not_eq_true'] at ho
      obtain ⟨⟨⟨⟨⟨h1, h2⟩, h3⟩, h4⟩, h5⟩, h6⟩ := ho
      have hd := r.dp (K := K) h5
      have ha : ∃ a, v = .ref a := by
        cases d with
        | list l => cases hd; exact ⟨_, rfl⟩
        | tuple l => cases hd; exact ⟨_, rfl⟩
        | _ => cases h6
      obtain ⟨a, rfl⟩ := ha
      exact ⟨a, d, rfl, hd, h1, h2, h3, smallL_le h4, q _ _ (nr_val (.str _))⟩
    · cases e
  · cases e⟩
/-! isinstance -/
def tyName : PD → String
  | .none => "NoneType"
  | .bool _ => "bool"
  | .int _ => "int"
  | .str _ => "str"
  | .list _ => "list"
  | .tuple _ => "tuple"
  | .dict _ => "dict"
theorem Rt.ty {K : PySem.W.Frag} {A : AS} {H H' : Hp} {v : V} {d : PD} (kp : ∀ b o, H b = some o → H' b = some o) (h : Rt A H v d) : TyX K H' v (.type (tyName d)) := by
  rcases h with h | ⟨p, rfl, o⟩
  · cases h with
    | non => exact .base .non
    | bl b => exact .base (.bl b)
    | int i => exact .base (.int i)
    | str x => exact .base (.str x)
    | lst ha hr r => exact .base (.lst (kp _ _ hr))
    | tup hr r => exact .base (.tup (kp _ _ hr))
    | dic ha hr r => exact .base (.dK (kp _ _ hr))
  · cases d <;> simp only [OwnObj] at o
    · obtain ⟨xs, e, _⟩ := o; exact .base (.lst (kp _ _ e))
    · obtain ⟨xs, e, _⟩ := o; exact .base (.dK (kp _ _ e))
def isiD (T : String) (d : PD) : Option Bool := kitB (tyName d) T
def eIsi (T : String) (f : M Rv) : M Rv := bnd f fun r => bnd (rdM r) fun d => fin ((isiD T d).map fun b => .val (.bool b))
def isiD2 (T U : String) (d : PD) : Option Bool := match isiD T d with
  | some true => some true
  | some false => isiD U d
  | none => none
def eIsi2 (T U : String) (f : M Rv) : M Rv := bnd f fun r => bnd (rdM r) fun d => fin ((isiD2 T U d).map fun b => .val (.bool b))
section
variable {X : Cx} {W : WX} {e : Expr} {fe : M Rv} {x y : Str} {T U : String} {p p2 p3 p4 pos : Pos} {kt : Nat}
theorem sim_isi (hgl : Gl X "isinstance") (hm : X.mg "isinstance" = none) (hv : bootBuiltins "isinstance" = some (.builtin "isinstance")) (hgl2 : Gl X x) (hm2 : X.mg x = none) (hv2 : bootBuiltins x = some (.type T)) (h : SimE X W e fe)
    (hn : x ≠ "__name__" := by decide) (hd : (x == ("__debug__" : Str)) = false := by decide) (he : starEach (e :: [.Name x p2]) X.env = (false, eval e X.env) :: starEach [.Name x p2] X.env := by rfl) (he2 : starEach (.Name x p2 :: []) X.env = (false, eval (.Name x p2) X.env) :: starEach [] X.env := by rfl) (hpl : (backTo pos (starEach [.Name x p2] X.env)).any (·.1) = false := by rfl) :
    SimE X W (.Call (.Name "isinstance" p) [e, .Name x p2] [] pos) (eIsi T fe) := by
  obtain ⟨t, pe, h0⟩ := h
  refine ⟨_, pe_callB call_isi hgl hm hv (pa_cons pe (pa_cons (pe_bltn (v := .ty T) hgl2 hm2 hv2 rfl hn hd) pa_nil he2) he) (by decide) (by decide) he hpl, fun F A H σ ρ E Q h => ?_⟩
  refine h0 F A H σ ρ E _ (Pst.split (m := fe) h fun r ρ1 A1 H1 v E1 S1 R1 h1 => ?_)
  obtain ⟨d, e3, h2⟩ := h1.rd
  obtain ⟨c, e4, h3⟩ := h2.fin S1 E1
  cases hk : isiD T d with
  | none => rw [hk] at e4; cases e4
  | some b =>
    rw [hk] at e4
    cases e4
    exact ⟨v, .ty T, .type (tyName d), .type T, b, rfl, .ty T, (RvR.rt E1 R1 e3).ty (fun _ _ z => z), kit_ty hk, h3 _ _ (nr_val (.bl b))⟩
theorem sim_isi2 (hgl : Gl X "isinstance") (hm : X.mg "isinstance" = none) (hv : bootBuiltins "isinstance" = some (.builtin "isinstance")) (hgl2 : Gl X x) (hm2 : X.mg x = none) (hv2 : bootBuiltins x = some (.type T)) (hgl3 : Gl X y) (hm3 : X.mg y = none) (hv3 : bootBuiltins y = some (.type U)) (h : SimE X W e fe)
    (hn : x ≠ "__name__" := by decide) (hd : (x == ("__debug__" : Str)) = false := by decide) (hn3 : y ≠ "__name__" := by decide) (hd3 : (y == ("__debug__" : Str)) = false := by decide)
    (he : starEach (e :: [.Tuple [.Name x p2, .Name y p3] kt p4]) X.env = (false, eval e X.env) :: starEach [.Tuple [.Name x p2, .Name y p3] kt p4] X.env := by rfl) (he2 : starEach (.Tuple [.Name x p2, .Name y p3] kt p4 :: []) X.env = (false, eval (.Tuple [.Name x p2, .Name y p3] kt p4) X.env) :: starEach [] X.env := by rfl)
    (hpl : (backTo pos (starEach [.Tuple [.Name x p2, .Name y p3] kt p4] X.env)).any (·.1) = false := by rfl)
    (hi : starEach (.Name x p2 :: [.Name y p3]) X.env = (false, eval (.Name x p2) X.env) :: starEach [.Name y p3] X.env := by rfl) (hi2 : starEach (.Name y p3 :: []) X.env = (false, eval (.Name y p3) X.env) :: starEach [] X.env := by rfl) :
    SimE X W (.Call (.Name "isinstance" p) [e, .Tuple [.Name x p2, .Name y p3] kt p4] [] pos) (eIsi2 T U fe) := by
  obtain ⟨t, pe, h0⟩ := h
  refine ⟨_, pe_callB call_isiT hgl hm hv (pa_cons pe (pa_cons (pe_tup (pa_cons (pe_bltn (v := .ty T) hgl2 hm2 hv2 rfl hn hd) (pa_cons (pe_bltn (v := .ty U) hgl3 hm3 hv3 rfl hn3 hd3) pa_nil hi2) hi)) pa_nil he2) he) (by decide) (by decide) he hpl, fun F A H σ ρ E Q h => ?_⟩
  refine h0 F A H σ ρ E _ (Pst.split (m := fe) h fun r ρ1 A1 H1 v E1 S1 R1 h1 => ?_)
  obtain ⟨d, e3, h2⟩ := h1.rd
  obtain ⟨c, e4, h3⟩ := h2.fin S1 E1
  cases hk : isiD2 T U d with
  | none => rw [hk] at e4; cases e4
  | some b =>
    rw [hk] at e4
    cases e4
    refine ⟨(by show 2 ≤ sizeLine; decide), fun q hq => ?_⟩
    have kp : ∀ b o, H1 b = some o → (upd H1 q (.tup [V.ty T, V.ty U])) b = some o := fun b o z => by
      rw [upd_ne (ne_of_none z hq)]
      exact z
    refine ⟨v, q, [.ty T, .ty U], .type (tyName d), [.type T, .type U], b, rfl, upd_same, .cons (.ty T) (.cons (.ty U) .nil), (RvR.rt E1 R1 e3).ty kp, ?_, h3 _ _ ⟨kp, .bl b⟩⟩
    unfold isiD2 at hk
    split at hk
    · rename_i h1
      cases hk
      exact kitAny_cons (kit_ty h1) (fun z => by cases z) fun _ => rfl
    · rename_i h1
      exact kitAny_cons (kit_ty h1) (fun _ => by
        cases b with
        | true => exact kitAny_cons (kit_ty hk) (fun z => by cases z) fun _ => rfl
        | false => exact kitAny_cons (kit_ty hk) (fun _ => kitAny_nil) fun z => by cases z) fun z => by cases z
    · cases hk
end
end DP
/-! DPI: calls by the parameters' names; zip; a list or tuple turned; repr of single values. -/
namespace DP
open PySem L2
def pick {α : Type} (pi : List Nat) (l : List α) : List α := pi.filterMap fun i => l[i]?
theorem vals_at : ∀ {vs : List V} {us : List Value} (i : Nat), Vals vs us → (vs[i]? = none ∧ us[i]? = none) ∨ ∃ v u, vs[i]? = some v ∧ us[i]? = some u ∧ RelV v u
  | _, _, _, .nil => .inl ⟨rfl, rfl⟩
  | _, _, 0, .cons r _ => .inr ⟨_, _, rfl, rfl, r⟩
  | _, _, i + 1, .cons _ h => by simpa using vals_at i h
theorem Vals.pick {vs : List V} {us : List Value} (h : Vals vs us) : ∀ pi : List Nat, Vals (DP.pick pi vs) (DP.pick pi us)
  | [] => .nil
  | i :: pi => by
    unfold DP.pick
    rw [List.filterMap_cons, List.filterMap_cons]
    rcases vals_at i h with ⟨e1, e2⟩ | ⟨v, u, e1, e2, r⟩
    · rw [e1, e2]; exact Vals.pick h pi
    · rw [e1, e2]; exact .cons r (Vals.pick h pi)
section
variable {F : Ent} {Z : Hp} {A : AS} {H : Hp} {σ : L2.St} {ρ : Dn}
theorem rvrs_at : ∀ {vs : List V} {us : List Rv} (i : Nat), RvRs F Z A H σ ρ vs us → (vs[i]? = none ∧ us[i]? = none) ∨ ∃ v u, vs[i]? = some v ∧ us[i]? = some u ∧ RvR F Z A H σ ρ v u
  | _, _, _, .nil => .inl ⟨rfl, rfl⟩
  | _, _, 0, .cons r _ => .inr ⟨_, _, rfl, rfl, r⟩
  | _, _, i + 1, .cons _ h => by simpa using rvrs_at i h
theorem RvRs.pick {vs : List V} {us : List Rv} (h : RvRs F Z A H σ ρ vs us) : ∀ pi : List Nat, RvRs F Z A H σ ρ (DP.pick pi vs) (DP.pick pi us)
  | [] => .nil
  | i :: pi => by
    unfold DP.pick
    rw [List.filterMap_cons, List.filterMap_cons]
    rcases rvrs_at i h with ⟨e1, e2⟩ | ⟨v, u, e1, e2, r⟩
    · rw [e1, e2]; exact RvRs.pick h pi
    · rw [e1, e2]; exact .cons r (RvRs.pick h pi)
end
/-- how a call by names alone binds -/
def KwB (K : PySem.W.Frag) (fd : FuncData) (ps ks : List Str) (pi : List Nat) : Prop := ∀ (st : Shared) (us : List Value), K.In st.heap → us.length = ks.length → BindsTo st fd ⟨[], ks.zip us⟩ (ps.zip (pick pi us))
section
variable {X : Cx} {W : WX} {CX : CXT} {k : Nat} {f : Addr} {fd : FuncData} {ps ks : List Str} {pi : List Nat} {sp : Sp} {E : L2.St → XK} {x : Str} {p pos : Pos} {kws : List Keyword} {tk : TA}
theorem pe_callK (F : GFn X.prog X.w X.K X.mg X.base CX k f fd ps sp) (hq : Quiet X.A) (hr : Room k X.A) (hg : Gl X x) (hm : X.mg x = some (.ref f)) (hk : PySem.W.keepIn X.K (.ref f) = true) (hb : KwB X.K fd ps ks pi) (hx : ∀ σ, PassesAt CX X σ (E σ))
    (hkw : PK X kws tk) (hn : kws.length = ks.length) (hall : (backToKw pos (keywordEach kws X.env)).all (·.1.isSome) = true := by rfl) (hks : (backToKw pos (keywordEach kws X.env)).filterMap (·.1) = ks := by rfl)
    (hdb : (x == ("__debug__" : Str)) = false := by decide) (hpl : ((backTo pos (starEach [] X.env)).any (·.1) || (backToKw pos (keywordEach kws X.env)).any (·.1.isNone)) = false := by rfl) :
    PE X (.Call (.Name x p) [] kws pos) (fun σ H Q => tk σ H fun vals H1 => vals.length = ks.length ∧ sp (pick pi vals) H1 Q (E σ)) := by
  constructor
  intro pins st σ H Q I h
  refine wpAny_Call_Name_kw (ld_glob I hg hm ?_ hdb)
  refine PySem.W.callWith_KW0 (h₀ := X.base) I.ok.mod.kin hk hall (thn (hkw.run pos pins st σ H _ I h) fun us st1 ⟨vals, H1, J, r, n1, q⟩ => ⟨J.kIn, ?_⟩) hpl
  rw [hks]
  refine wpAny_call (codeAny_mono (F.run X.A X.stack st1 H1 ⟨[], ks.zip us⟩ (pick pi us) (pick pi vals) Q (E σ) hq hr J.env0 (hb st1 us J.kIn (r.length.symm.trans n1)) (DP.Vals.pick r pi) q) fun res st2 z => ?_)
  match res, z with
  | .error ex, z => exact hx σ pins H1 st1 ex st2 J z
  | .ok (.ret u), z => exact J.after z
  | .ok .next, z => exact z.elim
  | .ok .brk, z => exact z.elim
  | .ok .cont, z => exact z.elim
def SimK (X : Cx) (W : WX) (kws : List Keyword) (f : M (List Rv)) : Prop := ∃ t : TA, PK X kws t ∧ ∀ F A H σ ρ, ER X.K F A H σ ρ → ∀ Q : List V → Hp → Prop, Pst X.K X.mg W F A H σ ρ (RA F H σ) Q (f ρ) → t σ H Q
theorem sim_knil : SimK X W [] aNil := ⟨_, pk_nil, fun F A H σ ρ E Q h => h A H [] E Step.refl .nil⟩
theorem sim_kcons {e : Expr} {nm : Option Str} {kpos : Pos} {fe : M Rv} {fs : M (List Rv)} (h : SimE X W e fe) (hs : SimK X W kws fs) : SimK X W (⟨nm, e, kpos⟩ :: kws) (aCons fe fs) := by
  obtain ⟨t, pe, h⟩ := h
  obtain ⟨u, pk, hs⟩ := hs
  refine ⟨_, pk_cons pe pk, fun F A H σ ρ E Q hq => ?_⟩
  refine h F A H σ ρ E _ (Pst.split (m := fe) hq fun r ρ1 A1 H1 v E1 S1 R1 h1 => ?_)
  have h1' : Pst X.K X.mg W F A1 H1 σ ρ1 (RA F H σ) Q (bnd fs (fun xs => retM (r :: xs)) ρ1) := h1.after S1
  refine hs F A1 H1 σ ρ1 E1 _ (Pst.split (m := fs) h1' fun rs ρ2 A2 H2 vs E2 S2 R2 h2 => ?_)
  exact h2 A2 H2 (v :: vs) E2 S2 (.cons (R1.step E1 S2) (R2.back S1.live))
def eCallK (ms : List Bool) (m : List PD → FR) (n : Nat) (pi : List Nat) (fk : M (List Rv)) : M Rv := eCall ms m (bnd fk fun rs => bnd (chk (rs.length == n)) fun _ => retM (pick pi rs))
theorem RvRs.length' {F : Ent} {Z : Hp} {A : AS} {H : Hp} {σ : L2.St} {ρ : Dn} : ∀ {vs : List V} {rs : List Rv}, RvRs F Z A H σ ρ vs rs → vs.length = rs.length
  | _, _, .nil => rfl
  | _, _, .cons _ h => by simp [RvRs.length' h]
structure CalK (P : Program) (w : World) (K : PySem.W.Frag) (mg : Str → Option Value) (base : Heap) (k : Nat) (x : Str) (ps ks : List Str) (pi : List Nat) (ms : List Bool) (m : List PD → FR) : Prop where
  ex : ∃ (f : Addr) (fd : FuncData), GFn P w K mg base CX0 k f fd ps (spD mg ms m) ∧ mg x = some (.ref f) ∧ PySem.W.keepIn K (.ref f) = true ∧ KwB K fd ps ks pi
theorem sim_callK {ms : List Bool} {m : List PD → FR} {fk : M (List Rv)} {n : Nat} (C : CalK X.prog X.w X.K X.mg X.base k x ps ks pi ms m) (hq : Quiet X.A) (hr : Room k X.A) (hg : Gl X x) (ha : SimK X W kws fk) (hn : kws.length = ks.length) (hlen : ks.length = n)
    (hall : (backToKw pos (keywordEach kws X.env)).all (·.1.isSome) = true := by rfl) (hks : (backToKw pos (keywordEach kws X.env)).filterMap (·.1) = ks := by rfl)
    (hdb : (x == ("__debug__" : Str)) = false := by decide) (hpl : ((backTo pos (starEach [] X.env)).any (·.1) || (backToKw pos (keywordEach kws X.env)).any (·.1.isNone)) = false := by rfl) :
    SimE X W (.Call (.Name x p) [] kws pos) (eCallK ms m n pi fk) := by
  subst hlen
  obtain ⟨f, fd, F, h1, h2, h3⟩ := C.ex
  obtain ⟨t, pk, h0⟩ := ha
  refine ⟨_, pe_callK (E := fun σ cls d H => W cls d σ H) F hq hr hg h1 h2 h3 (fun σ => pass0S σ _) pk hn hall hks hdb hpl, ?_⟩
  refine call_run (t := fun σ H Q => t σ H fun vals H1 => vals.length = ks.length ∧ Q (pick pi vals) H1) fun F A H σ ρ E Q h => ?_
  refine h0 F A H σ ρ E _ (Pst.split (m := fk) h fun rs ρ1 A1 H1 vs E1 S1 R1 h1 => ?_)
  obtain ⟨hz, h2⟩ := h1.chk
  exact ⟨by rw [R1.length']; simpa using hz, h2 A1 H1 _ E1 S1 (R1.pick pi)⟩
/-! repr of single values -/
def rReprS : List V → Hp → VK → Prop := fun xs H Q => (xs = [.non] ∧ Q (.str "None") H) ∨ (∃ b, xs = [.bl b] ∧ Q (.str (if b then "True" else "False")) H) ∨ (∃ i, xs = [.int i] ∧ i.natAbs.log2 < 1920 ∧ Q (.str (toString i)) H) ∨ ∃ z, xs = [.str z] ∧ (reprText z).length ≤ sizeLine ∧ Q (.str (reprText z)) H
theorem cr_reprS : CallR X (.builtin "repr") rReprS := by
  intro pins s σ H xs us Q I r h
  rcases h with ⟨rfl, q⟩ | ⟨b, rfl, q⟩ | ⟨i, rfl, hz, q⟩ | ⟨z, rfl, hz, q⟩
  · obtain ⟨u, rfl, rfl⟩ := vals1 r
    exact PySem.P.repr_of_none ⟨.str "None", H, I.tok _, ⟨_, rfl⟩, q⟩
  · obtain ⟨u, rfl, rfl⟩ := vals1 r
    exact PySem.P.repr_of_bool ⟨.str _, H, I.tok _, ⟨_, rfl⟩, q⟩
  · obtain ⟨u, rfl, t, rfl⟩ := vals1 r
    exact PySem.P.repr_of_int hz ⟨.str _, H, I.tok _, ⟨_, rfl⟩, q⟩
  · obtain ⟨u, rfl, t, rfl⟩ := vals1 r
    exact PySem.P.repr_of_str ⟨.str _, H, I.tok _, ⟨_, rfl⟩, q⟩ hz
end
def reprAOk (d : PD) : Bool := match d with
  | .none => true
  | .bool _ => true
  | .int i => decide (i.natAbs.log2 < 1920)
  | .str z => smallL (reprText z).length
  | .list _ => reprOk d
  | .tuple _ => reprOk d
  | .dict _ => false
def gReprA : List PD → Option Rc
  | [d] => if reprAOk d = true then some (.val (.str d.shown)) else none
  | _ => none
theorem on_reprA (K : PySem.W.Frag) : OpN (fun xs H Q => rReprD K xs H Q ∨ rReprS xs H Q) gReprA := ⟨fun A H xs ds c Q hd0 hx e q => by
  unfold gReprA at e
  split at e
  · rename_i d
    split at e
    · rename_i ho
      cases e
      have big : reprOk d = true → rReprD K xs H Q := fun h => (on_repr K).run A H xs [d] _ Q hd0 hx (by simp [gRepr, h]) q
      obtain ⟨v, rfl, r⟩ := hx.one
      have q' : Q (.str d.shown) H := q _ _ (nr_val (.str _))
      cases d with
      | list l => exact .inl (big ho)
      | tuple l => exact .inl (big ho)
      | none =>
        right; left
        rw [r.none]
        exact ⟨rfl, by simpa only [PyData.shown] using q'⟩
      | bool b =>
        right; right; left
        rw [r.bool]
        exact ⟨b, rfl, by simpa only [PyData.shown] using q'⟩
      | int i =>
        right; right; right; left
        rw [r.int]
        exact ⟨i, rfl, by simpa [reprAOk] using ho, by simpa only [PyData.shown] using q'⟩
      | str z =>
        right; right; right; right
        rw [r.str]
        exact ⟨z, rfl, smallL_le (by simpa [reprAOk] using ho), by simpa only [PyData.shown] using q'⟩
      | dict l => cases ho
    · cases e
  · cases e⟩
end DP
/-! DPJ: zip, enumerate; lists turned; x += e; removes. -/
namespace DP
open PySem L2 RZ
def zipL (xs ys : List PD) : List PD := List.zipWith (fun x y => PyData.tuple [x, y]) xs ys
def zipM : List PD → M (List PD)
  | [.list xs, .list ys] => retM (zipL xs ys)
  | [.tuple xs, .tuple ys] => retM (zipL xs ys)
  | _ => noM
def iZipM (fa : M (List Rv)) : M (List PD) := bnd fa fun rs => bnd (frzs rs) zipM
theorem zipL_at {xs ys : List PD} {i : Nat} {d : PD} (h : (zipL xs ys)[i]? = some d) : ∃ x y, xs[i]? = some x ∧ ys[i]? = some y ∧ d = .tuple [x, y] := by
  unfold zipL at h
  rw [List.getElem?_zipWith] at h
  cases e1 : xs[i]? with
  | none => rw [e1] at h; cases h
  | some x =>
    cases e2 : ys[i]? with
    | none => rw [e1, e2] at h; cases h
    | some y =>
      rw [e1, e2] at h
      exact ⟨x, y, rfl, rfl, (Option.some.inj h).symm⟩
theorem pair_new {A : AS} {H : Hp} {T : Addr} {x y : V} {d e : PD} (hn : H T = none) (r1 : Rp A H x d) (r2 : Rp A H y e) : (∀ b o, H b = some o → (upd H T (.tup [x, y])) b = some o) ∧ Rp A (upd H T (.tup [x, y])) (.ref T) (.tuple [d, e]) := by
  have kp : ∀ b o, H b = some o → (upd H T (.tup [x, y])) b = some o := fun b o z => by
    rw [upd_ne (ne_of_none z hn)]
    exact z
  exact ⟨kp, .tup upd_same (.cons (r1.kp (Kp.ext kp)) (.cons (r2.kp (Kp.ext kp)) .nil))⟩
theorem It_zip {K : PySem.W.Frag} {A : AS} {H : Hp} {a b : Addr} {xs ys : List V} {ds es : List PD} (ha : A a) (h : H a = some (.lst xs)) (r : RpAll A H xs ds) (hb : A b) (h2 : H b = some (.lst ys)) (r2 : RpAll A H ys es) : ItR A H (Itz K a b) (zipL ds es) := by
  intro A' H' k dom
  have q1 : SqL K H' a xs := SqL.of (k.obj _ _ ha h)
  have q2 : SqL K H' b ys := SqL.of (k.obj _ _ hb h2)
  have p1 := r.kp k
  have p2 := r2.kp k
  refine ⟨⟨xs, ys, q1, q2, by rw [r.length, r2.length]; unfold zipL; rw [List.length_zipWith]; omega⟩, fun i d hd => ?_⟩
  obtain ⟨dx, dy, e1, e2, rfl⟩ := zipL_at hd
  obtain ⟨x, f1, g1⟩ := RpAll.get p1 e1
  obtain ⟨y, f2, g2⟩ := RpAll.get p2 e2
  refine ⟨⟨xs, ys, x, y, q1, q2, f1, f2⟩, ?_⟩
  rintro v H'' ⟨T, x', y', rfl, hn, rfl, hx, hy⟩
  have z1 := hx xs q1
  have z2 := hy ys q2
  rw [f1] at z1
  rw [f2] at z2
  cases z1
  cases z2
  exact pair_new hn g1 g2
theorem It_zipT {K : PySem.W.Frag} {A : AS} {H : Hp} {a b : Addr} {xs ys : List V} {ds es : List PD} (h : H a = some (.tup xs)) (r : RpAll A H xs ds) (h2 : H b = some (.tup ys)) (r2 : RpAll A H ys es) : ItR A H (ItzT K a b) (zipL ds es) := by
  intro A' H' k dom
  have q1 : SqT K H' a xs := SqT.of (k.tup _ _ h)
  have q2 : SqT K H' b ys := SqT.of (k.tup _ _ h2)
  have p1 := r.kp k
  have p2 := r2.kp k
  refine ⟨⟨xs, ys, q1, q2, by rw [r.length, r2.length]; unfold zipL; rw [List.length_zipWith]; omega⟩, fun i d hd => ?_⟩
  obtain ⟨dx, dy, e1, e2, rfl⟩ := zipL_at hd
  obtain ⟨x, f1, g1⟩ := RpAll.get p1 e1
  obtain ⟨y, f2, g2⟩ := RpAll.get p2 e2
  refine ⟨⟨xs, ys, x, y, q1, q2, f1, f2⟩, ?_⟩
  rintro v H'' ⟨T, x', y', rfl, hn, rfl, hx, hy⟩
  have z1 := hx xs q1
  have z2 := hy ys q2
  rw [f1] at z1
  rw [f2] at z2
  cases z1
  cases z2
  exact pair_new hn g1 g2
section
variable {X : Cx} {W : WX} {e e2 : Expr} {fs : M (List Rv)} {fe : M Rv} {p pos tpos : Pos} {elts : List Expr} {kk : Nat}
theorem sim_izip (hg : Gl X "zip") (hm : X.mg "zip" = none) (h : SimA X W [e, e2] fs) (hs : starEach [e, e2] X.env = (false, eval e X.env) :: starEach [e2] X.env := by rfl) (hpl : (backTo pos (starEach [e2] X.env)).any (·.1) = false := by rfl) :
    SimI X W (.Tuple elts kk tpos) (.Call (.Name "zip" p) [e, e2] [] pos) (iZipM fs) := by
  obtain ⟨t, pa, h⟩ := h
  refine ⟨_, pi_zipA hg hm pa hs hpl, fun F A H σ ρ E R hp => ?_⟩
  refine h F A H σ ρ E _ (hp.split fun rs ρ1 A1 H1 vs E1 S1 R1 h1 => ?_)
  obtain ⟨ds, A2, ρ2, E2, S2, R2, h2⟩ := h1.frzs E1 S1 R1
  unfold zipM at h2
  split at h2
  · cases R2 with
    | cons r1 R2 => cases R2 with
      | cons r2 R2 =>
        cases R2
        cases r1 with
        | lst ha ea ra => cases r2 with
          | lst hb eb rb => exact ⟨_, _, _, _, rfl, .inl ⟨SqL.of ea, SqL.of eb, h2 A2 H1 _ E2 S2 (It_zip ha ea ra hb eb rb)⟩⟩
  · cases R2 with
    | cons r1 R2 => cases R2 with
      | cons r2 R2 =>
        cases R2
        cases r1 with
        | tup ea ra => cases r2 with
          | tup eb rb => exact ⟨_, _, _, _, rfl, .inr ⟨SqT.of ea, SqT.of eb, h2 A2 H1 _ E2 S2 (It_zipT ea ra eb rb)⟩⟩
  · exact h2.elim
/-! enumerate -/
def enumL (xs : List PD) : List PD := xs.mapIdx fun i x => PyData.tuple [.int i, x]
def enumM : List PD → M (List PD)
  | [.list xs] => retM (enumL xs)
  | _ => noM
def iEnumM (fa : M (List Rv)) : M (List PD) := bnd fa fun rs => bnd (frzs rs) enumM
theorem It_enum {K : PySem.W.Frag} {A : AS} {H : Hp} {a : Addr} {xs : List V} {ds : List PD} (ha : A a) (h : H a = some (.lst xs)) (r : RpAll A H xs ds) : ItR A H (Ite K a) (enumL ds) := by
  intro A' H' k dom
  have q1 : SqL K H' a xs := SqL.of (k.obj _ _ ha h)
  have p1 := r.kp k
  refine ⟨⟨xs, q1, by rw [r.length]; unfold enumL; simp⟩, fun i d hd => ?_⟩
  unfold enumL at hd
  rw [List.getElem?_mapIdx] at hd
  cases e1 : ds[i]? with
  | none => rw [e1] at hd; cases hd
  | some dx =>
    rw [e1] at hd
    obtain rfl : PyData.tuple [.int i, dx] = d := Option.some.inj hd
    obtain ⟨x, f1, g1⟩ := RpAll.get p1 e1
    refine ⟨⟨xs, x, q1, f1⟩, ?_⟩
    rintro v H'' ⟨T, x', rfl, hn, rfl, hx⟩
    have z1 := hx xs q1
    rw [f1] at z1
    cases z1
    exact pair_new hn (.int _) g1
theorem sim_ienum (hg : Gl X "enumerate") (hm : X.mg "enumerate" = none) (h : SimA X W [e] fs) (hs : starEach [e] X.env = [(false, eval e X.env)] := by rfl) :
    SimI X W (.Tuple elts kk tpos) (.Call (.Name "enumerate" p) [e] [] pos) (iEnumM fs) := by
  obtain ⟨t, pa, h⟩ := h
  refine ⟨_, pi_enum hg hm pa hs, fun F A H σ ρ E R hp => ?_⟩
  refine h F A H σ ρ E _ (hp.split fun rs ρ1 A1 H1 vs E1 S1 R1 h1 => ?_)
  obtain ⟨ds, A2, ρ2, E2, S2, R2, h2⟩ := h1.frzs E1 S1 R1
  unfold enumM at h2
  split at h2
  · cases R2 with
    | cons r1 R2 =>
      cases R2
      cases r1 with
      | lst ha ea ra => exact ⟨_, _, rfl, SqL.of ea, h2 A2 H1 _ E2 S2 (It_enum ha ea ra)⟩
  · exact h2.elim
/-! xs[::-1], a list -/
def eRevL (f : M Rv) : M Rv := bnd f fun r => bnd (rdM r) fun d => match d with
  | .list ds => retM (.fresh (.list ds.reverse))
  | _ => noM
theorem RpAll.rev {A : AS} {H : Hp} : ∀ {vs : List V} {ds : List PD}, RpAll A H vs ds → RpAll A H vs.reverse ds.reverse
  | _, _, .nil => .nil
  | _, _, .cons r h => by
    rw [List.reverse_cons, List.reverse_cons]
    exact (RpAll.rev h).snoc r
theorem sim_revL {k : Nat} {p1 p2 p3 : Pos} (h : SimE X W e fe) : SimE X W (.Subscript e (.Slice none none (some (.UnaryOp .USub (.Constant (.int 1) k p1) p2)) p3) pos) (eRevL fe) := by
  obtain ⟨t, pe, h⟩ := h
  refine ⟨_, pe_revL pe, fun F A H σ ρ E Q hp => ?_⟩
  refine h F A H σ ρ E _ (Pst.split (m := fe) hp fun r ρ1 A1 H1 v E1 S1 R1 h1 => ?_)
  obtain ⟨d, e3, h2⟩ := h1.rd
  have hz := RvR.rt E1 R1 e3
  cases d with
  | list ds =>
    obtain ⟨q, us, rfl, hq, rr⟩ := hz.list
    refine ⟨q, us, rfl, SqL.of hq, fun p' hp' => ?_⟩
    obtain ⟨E', S', R'⟩ := (nr_lst hp' rr.rev).rv S1.live E1
    exact h2 A1 _ _ E' (S1.trans S') R'
  | _ => exact h2.elim
end
section
variable {K : PySem.W.Frag} {x qual : Str} {ar : Arguments} {bd : List Stmt} {sc : Scope} {dvs : List V} {kws : List (Str × V)} {f : Addr} {fd : FuncData} {ps ks : List Str} {pi : List Nat}
theorem kwb_of (F : FunD K x qual ar bd sc [] kws f fd)
    (h : ∀ (kV doc pm : Value) (an : Option Addr) (cdv ct : Value) (us : List Value), us.length = ks.length → bindArgs (PySem.W.fnOf x qual ar bd sc .none kV doc pm an cdv ct) ⟨[], ks.zip us⟩ = pure (ps.zip (pick pi us))) : KwB K fd ps ks pi := by
  obtain ⟨oc, od, dV, kV, doc, pm, an, cdv, ct, osl, rfl, lk, hcd, hD, hK⟩ := F.ex
  rcases hD with ⟨_, rfl⟩ | ⟨e, _⟩
  · exact fun st us _ hl => BindsTo.of_eq (h kV doc pm an cdv ct us hl)
  · exact absurd rfl e
theorem kwb_ofD (F : FunD K x qual ar bd sc dvs kws f fd) (hd : dvs ≠ [])
    (h : ∀ (T : Addr) (kV doc pm : Value) (an : Option Addr) (cdv ct : Value) (us its : List Value), us.length = ks.length → its.length = dvs.length →
      ∃ k, bindArgs (PySem.W.fnOf x qual ar bd sc (.ref T) kV doc pm an cdv ct) ⟨[], ks.zip us⟩ = seqItems? (.ref T) >>= k ∧ k (some its.toArray) = pure (ps.zip (pick pi us))) : KwB K fd ps ks pi := by
  obtain ⟨oc, od, dV, kV, doc, pm, an, cdv, ct, osl, rfl, lk, hcd, hD, hK⟩ := F.ex
  rcases hD with ⟨e, _⟩ | ⟨_, T, o, its, m, rfl, lT, oT, rT⟩
  · exact absurd e hd
  · intro st us X hl
    obtain ⟨k, e1, e2⟩ := h T kV doc pm an cdv ct us its hl rT.length.symm
    refine BindsTo.of_looks fun M => ?_
    rw [e1]
    exact looks_items X lT oT (.of_pure e2)
end
end DP
/-! DPK: a tuple turned. -/
namespace DP
open PySem PySem.Spec PyProof.Rows L2 HT
section
variable {prog : Program} {w : World} {A : Around} {E : Value → Shared → Prop} {s : Shared}
theorem fm_some {α β : Type} {f : α → Option β} {g : α → β} : ∀ {l : List α}, (∀ m ∈ l, f m = some (g m)) → l.filterMap f = l.map g
  | [], _ => rfl
  | x :: l, h => by
    rw [List.filterMap_cons, h x (List.mem_cons_self ..), List.map_cons, fm_some fun m hm => h m (List.mem_cons_of_mem _ hm)]
theorem rev_adjust (n : Nat) : Builtin.Slice.sliceAdjust none none (-1) (n : Int) = ((n : Int) - 1, (-1 : Int)) := by
  unfold Builtin.Slice.sliceAdjust
  simp
theorem rev_places (n : Nat) : Builtin.Slice.slicePlaces ((n : Int) - 1) (-1) (-1) = n := by
  unfold Builtin.Slice.slicePlaces
  simp
  try omega
theorem rev_pick (xs : Array Value) : ((List.range xs.size).filterMap fun (m : Nat) => xs[(((xs.size : Int) - 1) + (m : Int) * (-1)).toNat]?).toArray = xs.toList.reverse.toArray := by
  congr 1
  have e : ∀ m ∈ List.range xs.size, (fun (m : Nat) => xs[(((xs.size : Int) - 1) + (m : Int) * (-1)).toNat]?) m = some ((fun (m : Nat) => xs.toList.reverse.getD m Value.none) m) := by
    intro m hm
    rw [List.mem_range] at hm
    have h1 : (((xs.size : Int) - 1) + (m : Int) * (-1)).toNat = xs.size - 1 - m := by omega
    dsimp only
    rw [h1, List.getD_eq_getElem?_getD, List.getElem?_reverse (by simpa using hm)]
    have h2 : xs.size - 1 - m < xs.size := by omega
    simp [h2]
  rw [fm_some e]
  apply List.ext_getElem?
  intro i
  rw [List.getElem?_map]
  by_cases h : i < xs.size
  · rw [List.getElem?_range h]
    simp only [Option.map_some, List.getD_eq_getElem?_getD]
    rw [List.getElem?_eq_getElem (by simpa using h)]
    rfl
  · rw [List.getElem?_eq_none (by simpa using h), List.getElem?_eq_none (by simpa using h)]
    rfl
theorem applied_rev {sl : Addr} {vs : Value} {n : Nat} {Q : Int × Int × Nat → Shared → Prop} (hs : s.heap.IsSliceOf sl .none .none vs) (ps : IsPart vs (some (-1))) (h : Q ((n : Int) - 1, -1, n) s) : wpAny (model prog w) A (Builtin.Slice.sliceApplied (.ref sl) (pure (n : Int))) Q E s := by
  obtain ⟨os, hos, hcs, hds⟩ := id hs
  unfold Builtin.Slice.sliceApplied Builtin.Slice.sliceFields
  refine wpAny_bind (wpAny_bind (wpAny_field hos hds (x := .none) rfl (wpAny_bind (wpAny_field hos hds (x := .none) rfl (wpAny_bind (wpAny_field hos hds (x := vs) rfl (wpAny_pure ?_)))))))
  refine wpAny_bind (slicePart_ ps ?_)
  show wpAny _ _ (if ((-1 : Int) == 0) = true then _ else _) _ _ s
  rw [if_neg (by decide)]
  refine wpAny_bind (slicePart_ .none (wpAny_bind (slicePart_ .none (wpAny_bind (wpAny_pure ?_)))))
  show wpAny _ _ (match Builtin.Slice.sliceAdjust none none (-1) (n : Int) with | (lo, hi) => pure (lo, (-1 : Int), Builtin.Slice.slicePlaces lo hi (-1))) _ _ s
  rw [rev_adjust n]
  show wpAny _ _ (pure ((n : Int) - 1, (-1 : Int), Builtin.Slice.slicePlaces ((n : Int) - 1) (-1) (-1))) _ _ s
  rw [rev_places]
  exact wpAny_pure h
theorem tuple_turned {t sl : Addr} {items : Array Value} {vs : Value} {Q : Value → Shared → Prop} (ht : IsTup s.heap t items) (hs : s.heap.IsSliceOf sl .none .none vs) (ps : IsPart vs (some (-1)))
    (h : Q (.ref s.heap.objs.size) { s with heap := s.heap.push { cls := .type "tuple", data := .seq items.toList.reverse.toArray } }) (hsz : items.size ≤ sizeLine) : wpAny (model prog w) A (getItem (.ref t) (.ref sl)) Q E s := by
  have small : sizeOk (.seq items.toList.reverse.toArray) := by
    show items.toList.reverse.toArray.size ≤ sizeLine
    simpa using hsz
  obtain ⟨os, hos, hcs, hds⟩ := id hs
  have hTs : s.TypeIs (.ref sl) "slice" := ⟨os, hos, hcs⟩
  unfold getItem
  try with_reducible refine wpAny_holding ?_
  first | refine wpAny_bind (wpAny_pure ?_) | skip
  refine wpAny_bind (wpAny_sequenceKey ht.typeIs (by decide) ?_)
  refine wpAny_bind (wpAny_callSpecial?_slot (name := Str.ofString "__getitem__") ht.typeIs PyProof.Rows.slot_tuple_getitem (wpAny_call_entry PyProof.Rows.slot_tuple_getitem ht.typeIs entry_tuple_getitem ?_ (args_tuple_getitem _ _)))
  show wpAny _ _ (Builtin.Tuple.tupleItemsOf (.ref t) >>= _) _ _ s
  refine wpAny_bind (tupleItemsOf_ ht ?_)
  refine wpAny_bind (wpAny_typeOf hTs ?_)
  rw [if_pos (by decide)]
  refine wpAny_bind (applied_rev hs ps ?_)
  show wpAny _ _ (if (((items.size : Int) - 1) == 0 && (-1 : Int) == 1 && items.size == items.size) = true then _ else _) _ _ s
  rw [if_neg (by simp), rev_pick]
  first
    | exact wpAny_bind (m := Builtin.Tuple.tupleExact _) (wpAny_newObj_type (wpAny_pure ⟨_, rfl, wpAny_pure h⟩) small)
    | exact wpAny_bind (m := Builtin.Tuple.tupleExact _) (wpAny_newObj_type (wpAny_bind (wpAny_pure (wpAny_pure ⟨_, rfl, wpAny_pure h⟩))) small)
    | exact wpAny_bind (wpAny_bind (m := Builtin.Tuple.tupleExact _) (wpAny_newObj_type (wpAny_pure (wpAny_pure ⟨_, rfl, wpAny_pure h⟩)) small))
    | exact wpAny_bind (wpAny_bind (m := Builtin.Tuple.tupleExact _) (wpAny_newObj_type (wpAny_pure ⟨_, rfl, wpAny_pure h⟩) small))
end
def tRevT (K : PySem.W.Frag) (te : TE) : TE := fun σ H Q => te σ H fun x H1 => ∃ a xs, x = .ref a ∧ SqT K H1 a xs ∧ ∀ p, H1 p = none → Q (.ref p) (upd H1 p (.tup xs.reverse))
theorem pe_revT {X : Cx} {e : Expr} {te : TE} {k : Nat} {p1 p2 p3 pos : Pos} (he : PE X e te) : PE X (.Subscript e (.Slice none none (some (.UnaryOp .USub (.Constant (.int 1) k p1) p2)) p3) pos) (tRevT X.K te) := by
  constructor
  intro pins st σ H Q I h
  refine Subscript_ (thn (he.run pins st σ H _ I h) fun v t1 ⟨x, H1, I1, r1, a, xs, ex, hx, q⟩ => ?_)
  subst ex
  cases r1
  have minus1 : PO X (some (.UnaryOp .USub (.Constant (.int 1) k p1) p2)) (tPart (tUn (rU fun i => .int (-i)) (tC (.int 1)))) := po_some (pe_un un_neg pe_int)
  refine wpAny_Slice (thn (po_none.run pins t1 σ H1 (fun o G => o = none ∧ G = H1) I1 ⟨rfl, rfl⟩) fun vl t2 ⟨l, H2, I2, pl, el, e2⟩ => ?_)
  subst el e2
  refine thn (po_none.run pins t2 σ H2 (fun o G => o = none ∧ G = H2) I2 ⟨rfl, rfl⟩) fun vu t3 ⟨u, H3, I3, pu, eu, e3⟩ => ?_
  subst eu e3
  refine thn (minus1.run pins t3 σ H3 (fun o G => o = some (-1) ∧ G = H3) I3 ⟨1, rfl, -1, rfl, rfl, rfl⟩) fun vs t4 ⟨o, H4, I4, ps, eo, e4⟩ => ?_
  subst eo e4
  cases pl
  cases pu
  have I5 : Inv X pins σ H4 { t4 with heap := t4.heap.push { cls := .type "slice", data := .fields #[.none, .none, vs] } } := I4.kept (t' := t4.toks) fun b ob z => Heap.get?_push_of_some _ z
  obtain ⟨its, r, ht, hz⟩ := I5.tuple hx
  have hlen := r.length
  show wpAny (model X.prog X.w) X.A (subscriptTail e (.Slice none none (some (.UnaryOp .USub (.Constant (.int 1) k p1) p2)) p3) (.ref a) (.ref t4.heap.objs.size)) (EP X pins σ Q) X.xe { t4 with heap := t4.heap.push { cls := .type "slice", data := .fields #[.none, .none, vs] } }
  refine tail_any (ops := [.ref a, .ref t4.heap.objs.size]) ht.typeIs (PyProof.Rows.slot_tuple_getitem.lookup) ?_ (by with_unfolding_all rfl)
  refine tuple_turned ht (Heap.IsSliceOf.new _ .none .none vs) ps ?_ (by rw [List.size_toArray]; omega)
  refine ⟨.ref _, _, I5.laid (t' := t4.toks) (o := .tup xs.reverse) (fun b ob z => Heap.get?_push_of_some _ z) (Nat.le_refl _) ?_, rfl, q _ (I5.hok.fresh (Nat.le_refl _))⟩
  exact ⟨by rw [List.length_reverse]; exact hz, _, r.reverse, ⟨_, Heap.get?_push_size _ rfl, rfl, _, rfl⟩⟩
def eRevT (f : M Rv) : M Rv := bnd f fun r => bnd (rdM r) fun d => match d with
  | .tuple ds => retM (.val (.tuple ds.reverse))
  | _ => noM
theorem sim_revT {X : Cx} {W : WX} {e : Expr} {fe : M Rv} {pos : Pos} {k : Nat} {p1 p2 p3 : Pos} (h : SimE X W e fe) : SimE X W (.Subscript e (.Slice none none (some (.UnaryOp .USub (.Constant (.int 1) k p1) p2)) p3) pos) (eRevT fe) := by
  obtain ⟨t, pe, h⟩ := h
  refine ⟨_, pe_revT pe, fun F A H σ ρ E Q hp => ?_⟩
  refine h F A H σ ρ E _ (Pst.split (m := fe) hp fun r ρ1 A1 H1 v E1 S1 R1 h1 => ?_)
  obtain ⟨d, e3, h2⟩ := h1.rd
  have hz := RvR.rt E1 R1 e3
  cases d with
  | tuple ds =>
    obtain ⟨q, us, rfl, hq, rr⟩ := hz.tup
    refine ⟨q, us, rfl, SqT.of hq, fun p' hp' => ?_⟩
    obtain ⟨E', S', R'⟩ := (nr_tup hp' rr.rev).rv S1.live E1
    exact h2 A1 _ _ E' (S1.trans S') R'
  | _ => exact h2.elim
/-! texts that are shown, compared -/
def gEqS (neg : Bool) : PD → PD → Option Rc
  | .str x, .str y => some (.val (.bool (if neg = true then !decide (x = y) else decide (x = y))))
  | _, _ => none
theorem dec_str (x y : Str) : decide (V.str x = V.str y) = decide (x = y) := by
  rw [Bool.eq_iff_iff]
  simp
theorem o2_eqS : Op2 rEq (gEqS false) := ⟨fun A H x y d1 d2 c Q _ hx hy e q => by
  unfold gEqS at e
  split at e
  · rename_i a b
    cases e
    rw [hx.str, hy.str]
    refine ⟨rfl, ?_⟩
    rw [dec_str]
    exact q _ _ (nr_val (.bl _))
  · cases e⟩
theorem o2_neS : Op2 rNe (gEqS true) := ⟨fun A H x y d1 d2 c Q _ hx hy e q => by
  unfold gEqS at e
  split at e
  · rename_i a b
    cases e
    rw [hx.str, hy.str]
    refine ⟨rfl, ?_⟩
    rw [dec_str]
    exact q _ _ (nr_val (.bl _))
  · cases e⟩
end DP
/-! HLA: values and cells of a told heap; how they stand in the tracked heap. -/
namespace HL
open PySem L2
abbrev PD := PyData
inductive AV where
  | non
  | bl (b : Bool)
  | int (i : Int)
  | str (x : Str)
  | tup (xs : List AV)
  | ref (n : Nat)
  | scr (ns : List Int)
  | wt (xs : List AV)
inductive Cell where
  | lst (xs : List AV)
  | dic (kvs : List (Key × AV))
  | set (ks : List Int)
  | ins (C : Str) (fs : List (Str × AV))
  | lock (kvs : List (Key × AV))
abbrev AH := List Cell
/-- the script: read, never written -/
def Wr (K : PySem.W.Frag) (a : Addr) (xs : List V) : Prop := ∀ H : Hp, SqL K H a xs
def WrT (K : PySem.W.Frag) (a : Addr) (xs : List V) : Prop := ∀ H : Hp, SqT K H a xs
def ScrH (K : PySem.W.Frag) (H : Hp) (a : Addr) (xs : List V) : Prop := (∃ o, H a = some (.frz o (.lst xs))) ∨ Wr K a xs
theorem ScrH.sq {K : PySem.W.Frag} {H : Hp} {a : Addr} {xs : List V} (s : ScrH K H a xs) : SqL K H a xs := by
  rcases s with ⟨o, e⟩ | s
  · exact .inl (.inr ⟨o, e⟩)
  · exact s H
mutual
/-- v stands for the value d -/
inductive RV (K : PySem.W.Frag) (ι : List Addr) (H : Hp) : V → AV → Prop
  | non : RV K ι H .non .non
  | bl (b : Bool) : RV K ι H (.bl b) (.bl b)
  | int (i : Int) : RV K ι H (.int i) (.int i)
  | str (x : Str) : RV K ι H (.str x) (.str x)
  | tup {a : Addr} {xs : List V} {ds : List AV} : H a = some (.tup xs) → RVs K ι H xs ds → RV K ι H (.ref a) (.tup ds)
  | ref {a : Addr} {n : Nat} : ι[n]? = some a → RV K ι H (.ref a) (.ref n)
  | scr {a : Addr} {ns : List Int} : ScrH K H a (ns.map V.int) → RV K ι H (.ref a) (.scr ns)
  | wt {a : Addr} {xs : List V} {ds : List AV} : WrT K a xs → RVs K ι H xs ds → RV K ι H (.ref a) (.wt ds)
inductive RVs (K : PySem.W.Frag) (ι : List Addr) (H : Hp) : List V → List AV → Prop
  | nil : RVs K ι H [] []
  | cons {v : V} {vs : List V} {d : AV} {ds : List AV} : RV K ι H v d → RVs K ι H vs ds → RVs K ι H (v :: vs) (d :: ds)
end
/-- keys with values -/
structure RKs {κ : Type} (K : PySem.W.Frag) (ι : List Addr) (H : Hp) (us : List (κ × V)) (kvs : List (κ × AV)) : Prop where
  k : us.map (·.1) = kvs.map (·.1)
  v : RVs K ι H (us.map (·.2)) (kvs.map (·.2))
def CellR (K : PySem.W.Frag) (mg : Str → Option Value) (ι : List Addr) (H : Hp) (a : Addr) : Cell → Prop
  | .lst xs => ∃ vs, H a = some (.lst vs) ∧ RVs K ι H vs xs
  | .dic kvs => ∃ us, H a = some (.dK us) ∧ RKs K ι H us kvs
  | .set ks => H a = some (.set (fun i => decide (i ∈ ks)) ks.length) ∧ ks.Nodup
  | .ins C fs => ∃ ca dx us, mg C = some (.ref ca) ∧ H a = some (.ins ca dx us) ∧ RKs K ι H us fs
  | .lock kvs => ∃ o us, H a = some (.frz o (.dK us)) ∧ RKs K ι H us kvs
def isCell : Option HO → Prop
  | some (.lst _) => True
  | some (.dK _) => True
  | some (.set _ _) => True
  | some (.ins _ _ _) => True
  | some (.frz _ (.dK _)) => True
  | some (.ext _) => True
  | _ => False
def noDK : HO → Prop
  | .dK _ => False
  | _ => True
structure Rel (K : PySem.W.Frag) (mg : Str → Option Value) (ι : List Addr) (H : Hp) (h : AH) : Prop where
  len : ι.length = h.length
  nd : ι.Nodup
  cell : ∀ (n : Nat) (c : Cell) (a : Addr), h[n]? = some c → ι[n]? = some a → CellR K mg ι H a c
structure Stp (ι : List Addr) (H : Hp) (ι' : List Addr) (H' : Hp) : Prop where
  pre : ι <+: ι'
  kp : ∀ b o, H b = some o → b ∉ ι → H' b = some o
  grow : ∀ a, a ∈ ι' → a ∈ ι ∨ H a = none
  live : ∀ b, H' b = none → H b = none
  fz : ∀ b o u, H b = some (.frz o u) → H' b = some (.frz o u)
section
variable {K : PySem.W.Frag} {mg : Str → Option Value} {ι ι' ι'' : List Addr} {H H' H'' : Hp} {h h' : AH} {a p : Addr} {c : Cell} {v : V} {d : AV} {n : Nat}
theorem pre_get {α : Type} {l l' : List α} {n : Nat} {a : α} (p : l <+: l') (e : l[n]? = some a) : l'[n]? = some a := by
  obtain ⟨t, rfl⟩ := p
  rw [List.getElem?_append_left (List.getElem?_eq_some_iff.mp e).1]
  exact e
theorem Stp.refl : Stp ι H ι H := ⟨List.prefix_refl _, fun _ _ e _ => e, fun _ h => .inl h, fun _ e => e, fun _ _ _ e => e⟩
theorem Stp.trans (s : Stp ι H ι' H') (t : Stp ι' H' ι'' H'') : Stp ι H ι'' H'' := by
  refine ⟨s.pre.trans t.pre, fun b o e n => t.kp b o (s.kp b o e n) fun z => ?_, fun a z => ?_, fun b e => s.live b (t.live b e), fun b o u e => t.fz b o u (s.fz b o u e)⟩
  · rcases s.grow b z with q | q
    · exact n q
    · rw [q] at e; cases e
  · rcases t.grow a z with q | q
    · exact s.grow a q
    · exact .inr (s.live a q)
theorem CellR.is (r : CellR K mg ι H a c) : isCell (H a) := by
  cases c with
  | lst xs => obtain ⟨_, e, _⟩ := r; rw [e]; trivial
  | dic xs => obtain ⟨_, e, _⟩ := r; rw [e]; trivial
  | set xs => obtain ⟨e, _⟩ := r; rw [e]; trivial
  | ins C xs => obtain ⟨_, _, _, _, e, _⟩ := r; rw [e]; trivial
  | lock xs => obtain ⟨_, _, e, _⟩ := r; rw [e]; trivial
theorem Rel.mem (E : Rel K mg ι H h) (m : a ∈ ι) : ∃ (n : Nat) (c : Cell), ι[n]? = some a ∧ h[n]? = some c ∧ CellR K mg ι H a c := by
  obtain ⟨n, hn, e⟩ := List.getElem_of_mem m
  have hn' : n < h.length := by rw [← E.len]; exact hn
  have e1 : ι[n]? = some a := by rw [List.getElem?_eq_getElem hn, e]
  exact ⟨n, h[n], e1, List.getElem?_eq_getElem hn', E.cell n _ a (List.getElem?_eq_getElem hn') e1⟩
theorem Rel.is (E : Rel K mg ι H h) (m : a ∈ ι) : isCell (H a) := by
  obtain ⟨_, _, _, _, r⟩ := E.mem m
  exact r.is
theorem Rel.dom (E : Rel K mg ι H h) (m : a ∈ ι) : H a ≠ none := fun z => by
  have := E.is m
  rw [z] at this
  exact this
theorem Rel.notup (E : Rel K mg ι H h) {xs : List V} (e : H a = some (.tup xs)) : a ∉ ι := fun m => by
  have := E.is m
  rw [e] at this
  exact this
theorem noDK_is {o : Obj} {u : HO} (n : noDK u) : ¬ isCell (some (.frz o u)) := by
  cases u <;> first | exact fun z => z | exact n.elim
theorem Rel.nofrz (E : Rel K mg ι H h) {o : Obj} {u : HO} (n : noDK u) (e : H a = some (.frz o u)) : a ∉ ι := fun m => by
  have := E.is m
  rw [e] at this
  exact noDK_is n this
theorem Rel.free (E : Rel K mg ι H h) (e : H a = none) : a ∉ ι := fun m => E.dom m e
/-- what keeps values -/
structure Kp (ι : List Addr) (H : Hp) (ι' : List Addr) (H' : Hp) : Prop where
  pre : ι <+: ι'
  tup : ∀ a xs, H a = some (.tup xs) → H' a = some (.tup xs)
  frz : ∀ a o u, noDK u → H a = some (.frz o u) → H' a = some (.frz o u)
theorem Stp.k (S : Stp ι H ι' H') (E : Rel K mg ι H h) : Kp ι H ι' H' := ⟨S.pre, fun a xs e => S.kp a _ e (E.notup e), fun a o u n e => S.kp a _ e (E.nofrz n e)⟩
mutual
theorem RV.kp (k : Kp ι H ι' H') : ∀ {v : V} {d : AV}, RV K ι H v d → RV K ι' H' v d
  | _, _, .non => .non
  | _, _, .bl b => .bl b
  | _, _, .int i => .int i
  | _, _, .str x => .str x
  | _, _, .tup h r => .tup (k.tup _ _ h) (RVs.kp k r)
  | _, _, .ref e => .ref (pre_get k.pre e)
  | _, _, .scr s => .scr (s.imp (fun ⟨o, e⟩ => ⟨o, k.frz _ o _ trivial e⟩) id)
  | _, _, .wt s r => .wt s (RVs.kp k r)
theorem RVs.kp (k : Kp ι H ι' H') : ∀ {vs : List V} {ds : List AV}, RVs K ι H vs ds → RVs K ι' H' vs ds
  | _, _, .nil => .nil
  | _, _, .cons r rs => .cons (RV.kp k r) (RVs.kp k rs)
end
theorem RKs.kp {κ : Type} {us : List (κ × V)} {kvs : List (κ × AV)} (k : Kp ι H ι' H') (r : RKs K ι H us kvs) : RKs K ι' H' us kvs := ⟨r.k, r.v.kp k⟩
theorem CellR.kp (k : Kp ι H ι' H') (e : H' a = H a) (r : CellR K mg ι H a c) : CellR K mg ι' H' a c := by
  cases c with
  | lst xs => obtain ⟨vs, e1, r⟩ := r; exact ⟨vs, by rw [e, e1], r.kp k⟩
  | dic xs => obtain ⟨vs, e1, r⟩ := r; exact ⟨vs, by rw [e, e1], r.kp k⟩
  | set xs => obtain ⟨e1, r⟩ := r; exact ⟨by rw [e, e1], r⟩
  | ins C xs => obtain ⟨ca, dx, us, m, e1, r⟩ := r; exact ⟨ca, dx, us, m, by rw [e, e1], r.kp k⟩
  | lock xs => obtain ⟨o, us, e1, r⟩ := r; exact ⟨o, us, by rw [e, e1], r.kp k⟩
theorem Kp.refl : Kp ι H ι H := ⟨List.prefix_refl _, fun _ _ e => e, fun _ _ _ _ e => e⟩
theorem Kp.trans (k : Kp ι H ι' H') (l : Kp ι' H' ι'' H'') : Kp ι H ι'' H'' := ⟨k.pre.trans l.pre, fun a xs e => l.tup a xs (k.tup a xs e), fun a o u n e => l.frz a o u n (k.frz a o u n e)⟩
/-- all that stood is kept -/
theorem keep_none (x : ∀ b o, H b = some o → H' b = some o) {b : Addr} (e : H' b = none) : H b = none := by
  cases q : H b with
  | none => rfl
  | some o => rw [x b o q] at e; cases e
theorem Stp.ext (x : ∀ b o, H b = some o → H' b = some o) : Stp ι H ι H' := ⟨List.prefix_refl _, fun b o e _ => x b o e, fun _ h => .inl h, fun b e => keep_none x e, fun b o u e => x b _ e⟩
theorem Kp.ext (x : ∀ b o, H b = some o → H' b = some o) : Kp ι H ι H' := ⟨List.prefix_refl _, fun _ _ e => x _ _ e, fun _ _ _ _ e => x _ _ e⟩
theorem Rel.ext (E : Rel K mg ι H h) (x : ∀ b o, H b = some o → H' b = some o) : Rel K mg ι H' h := ⟨E.len, E.nd, fun n c a e1 e2 => by
  have r := E.cell n c a e1 e2
  refine r.kp (Kp.ext x) ?_
  cases e : H a with
  | none => exact absurd e (E.dom (List.mem_of_getElem? e2))
  | some o => exact x a o e⟩
theorem ext_of {o : HO} (hp : H p = none) : ∀ b u, H b = some u → upd H p o b = some u := fun b u e => by rw [upd_ne (ne_of_none e hp)]; exact e
/-- a new cell at p -/
theorem Rel.new (E : Rel K mg ι H h) (x : ∀ b o, H b = some o → H' b = some o) (hp : H p = none) (hc : CellR K mg (ι ++ [p]) H' p c) : Rel K mg (ι ++ [p]) H' (h ++ [c]) ∧ Stp ι H (ι ++ [p]) H' ∧ Kp ι H (ι ++ [p]) H' := by
  have k : Kp ι H (ι ++ [p]) H' := ⟨List.prefix_append _ _, fun _ _ e => x _ _ e, fun _ _ _ _ e => x _ _ e⟩
  refine ⟨⟨by simp [E.len], ?_, fun n d a e1 e2 => ?_⟩, ⟨List.prefix_append _ _, fun b o e _ => x b o e, fun a m => ?_, fun b e => keep_none x e, fun b o u e => x b _ e⟩, k⟩
  · rw [List.nodup_append]
    refine ⟨E.nd, by simp, fun a ha b hb => ?_⟩
    rw [List.mem_singleton] at hb
    subst hb
    exact fun z => E.free hp (z ▸ ha)
  · by_cases hn : n < h.length
    · rw [List.getElem?_append_left hn] at e1
      rw [List.getElem?_append_left (by rw [E.len]; exact hn)] at e2
      refine (E.cell n d a e1 e2).kp k ?_
      cases e : H a with
      | none => exact absurd e (E.dom (List.mem_of_getElem? e2))
      | some o => exact x a o e
    · have h1 := (List.getElem?_eq_some_iff.mp e1).1
      rw [List.length_append, List.length_singleton] at h1
      have hn' : n = h.length := by omega
      subst hn'
      rw [List.getElem?_append_right (Nat.le_refl _)] at e1
      rw [← E.len, List.getElem?_append_right (Nat.le_refl _)] at e2
      simp at e1 e2
      subst e1 e2
      exact hc
  · rw [List.mem_append, List.mem_singleton] at m
    rcases m with m | rfl
    · exact .inl m
    · exact .inr hp
theorem nofz {u : HO} (e : H a = some u) (n : ∀ o v, u ≠ .frz o v) : ∀ o v, H a ≠ some (.frz o v) := fun o v z => n o v (by rw [e] at z; exact Option.some.inj z)
theorem nofzL {xs : List V} (e : H a = some (.lst xs)) : ∀ o v, H a ≠ some (.frz o v) := nofz e fun _ _ z => by cases z
theorem nofzD {xs : List (Key × V)} (e : H a = some (.dK xs)) : ∀ o v, H a ≠ some (.frz o v) := nofz e fun _ _ z => by cases z
theorem nofzI {C dx : Addr} {xs : List (Str × V)} (e : H a = some (.ins C dx xs)) : ∀ o v, H a ≠ some (.frz o v) := nofz e fun _ _ z => by cases z
/-- the cell n, at a, is changed -/
theorem Rel.put (E : Rel K mg ι H h) {o : HO} (e : ι[n]? = some a) (hz : ∀ o u, H a ≠ some (.frz o u)) (hc : ∀ (k : Kp ι H ι (upd H a o)), CellR K mg ι (upd H a o) a c) : Rel K mg ι (upd H a o) (h.set n c) ∧ Stp ι H ι (upd H a o) := by
  have m : a ∈ ι := List.mem_of_getElem? e
  have ne : ∀ {b : Addr} {u : HO}, H b = some u → ¬ isCell (some u) → b ≠ a := fun {b u} e1 n z => by
    subst z
    have := E.is m
    rw [e1] at this
    exact n this
  have S : Stp ι H ι (upd H a o) := ⟨List.prefix_refl _, fun b u e1 nb => by
    have hb : b ≠ a := fun z => nb (by rw [z]; exact m)
    rw [upd_ne hb]; exact e1, fun _ z => .inl z, fun b e1 => by
    by_cases hb : b = a
    · subst hb; rw [upd_same] at e1; cases e1
    · rw [upd_ne hb] at e1; exact e1, fun b o u e1 => by
    have hb : b ≠ a := fun z => hz o u (z ▸ e1)
    rw [upd_ne hb]; exact e1⟩
  have k : Kp ι H ι (upd H a o) := S.k E
  refine ⟨⟨by simp [E.len], E.nd, fun j d b e1 e2 => ?_⟩, S⟩
  by_cases hj : n = j
  · subst hj
    rw [e] at e2
    cases e2
    have hl := (List.getElem?_eq_some_iff.mp e1).1
    rw [List.length_set] at hl
    rw [List.getElem?_set_self hl] at e1
    cases e1
    exact hc k
  · rw [List.getElem?_set_ne hj] at e1
    refine (E.cell j d b e1 e2).kp k ?_
    rw [upd_ne]
    rintro rfl
    obtain ⟨hx, ex⟩ := List.getElem?_eq_some_iff.mp e
    obtain ⟨hy, ey⟩ := List.getElem?_eq_some_iff.mp e2
    exact hj ((List.getElem_inj E.nd).mp (ex.trans ey.symm))
theorem RVs.length : ∀ {vs : List V} {ds : List AV}, RVs K ι H vs ds → vs.length = ds.length
  | _, _, .nil => rfl
  | _, _, .cons _ h => by simp [RVs.length h]
theorem RVs.get : ∀ {vs : List V} {ds : List AV} {i : Nat} {d : AV}, RVs K ι H vs ds → ds[i]? = some d → ∃ v, vs[i]? = some v ∧ RV K ι H v d
  | _, _, _, _, .nil, e => by simp at e
  | _, _, 0, _, .cons r _, e => by simp at e; subst e; exact ⟨_, rfl, r⟩
  | _, _, i + 1, _, .cons _ h, e => by
    obtain ⟨v, e1, r⟩ := RVs.get (i := i) h (by simpa using e)
    exact ⟨v, by simpa using e1, r⟩
theorem RVs.append : ∀ {vs ws : List V} {ds es : List AV}, RVs K ι H vs ds → RVs K ι H ws es → RVs K ι H (vs ++ ws) (ds ++ es)
  | _, _, _, _, .nil, h => h
  | _, _, _, _, .cons r h, h' => .cons r (RVs.append h h')
theorem RVs.snoc {vs : List V} {ds : List AV} {v : V} {d : AV} (h : RVs K ι H vs ds) (r : RV K ι H v d) : RVs K ι H (vs ++ [v]) (ds ++ [d]) := h.append (.cons r .nil)
theorem RVs.take : ∀ {vs : List V} {ds : List AV} (n : Nat), RVs K ι H vs ds → RVs K ι H (vs.take n) (ds.take n)
  | _, _, 0, _ => .nil
  | _, _, _ + 1, .nil => .nil
  | _, _, n + 1, .cons r t => .cons r (RVs.take n t)
theorem RVs.drop : ∀ {vs : List V} {ds : List AV} (n : Nat), RVs K ι H vs ds → RVs K ι H (vs.drop n) (ds.drop n)
  | _, _, 0, r => r
  | _, _, _ + 1, .nil => .nil
  | _, _, n + 1, .cons _ t => RVs.drop n t
theorem RVs.reverse : ∀ {vs : List V} {ds : List AV}, RVs K ι H vs ds → RVs K ι H vs.reverse ds.reverse
  | _, _, .nil => .nil
  | _, _, .cons r t => by rw [List.reverse_cons, List.reverse_cons]; exact (RVs.reverse t).snoc r
theorem RVs.set {v : V} {d : AV} (r : RV K ι H v d) : ∀ {vs : List V} {ds : List AV} (i : Nat), RVs K ι H vs ds → RVs K ι H (vs.set i v) (ds.set i d)
  | _, _, _, .nil => .nil
  | _, _, 0, .cons _ t => .cons r t
  | _, _, i + 1, .cons q t => .cons q (RVs.set r i t)
theorem RVs.eraseIdx : ∀ {vs : List V} {ds : List AV} (i : Nat), RVs K ι H vs ds → RVs K ι H (vs.eraseIdx i) (ds.eraseIdx i)
  | _, _, _, .nil => .nil
  | _, _, 0, .cons _ t => t
  | _, _, i + 1, .cons q t => .cons q (RVs.eraseIdx i t)
end
/-! ### data of any depth, read off the told heap -/
mutual
inductive IsD (h : AH) : AV → PD → Prop
  | non : IsD h .non .none
  | bl (b : Bool) : IsD h (.bl b) (.bool b)
  | int (i : Int) : IsD h (.int i) (.int i)
  | str (x : Str) : IsD h (.str x) (.str x)
  | tup {xs : List AV} {ds : List PD} : IsDs h xs ds → IsD h (.tup xs) (.tuple ds)
  | lst {n : Nat} {xs : List AV} {ds : List PD} : h[n]? = some (.lst xs) → IsDs h xs ds → IsD h (.ref n) (.list ds)
  | dic {n : Nat} {kvs : List (Key × AV)} {ds : List PD} : h[n]? = some (.dic kvs) → IsDs h (kvs.map (·.2)) ds → IsD h (.ref n) (.dict ((kvs.map fun q => DP.kD q.1).zip ds))
inductive IsDs (h : AH) : List AV → List PD → Prop
  | nil : IsDs h [] []
  | cons {x : AV} {xs : List AV} {d : PD} {ds : List PD} : IsD h x d → IsDs h xs ds → IsDs h (x :: xs) (d :: ds)
end
mutual
theorem IsD.uniq {h : AH} : ∀ {x : AV} {d e : PD}, IsD h x d → IsD h x e → d = e
  | _, _, _, .non, .non => rfl
  | _, _, _, .bl b, .bl _ => rfl
  | _, _, _, .int b, .int _ => rfl
  | _, _, _, .str b, .str _ => rfl
  | _, _, _, .tup a, .tup b => by rw [IsDs.uniq a b]
  | _, _, _, .lst e a, .lst f b => by
    rw [e] at f
    cases f
    rw [IsDs.uniq a b]
  | _, _, _, .lst e a, .dic f b => by rw [e] at f; cases f
  | _, _, _, .dic e a, .lst f b => by rw [e] at f; cases f
  | _, _, _, .dic e a, .dic f b => by
    rw [e] at f
    cases f
    rw [IsDs.uniq a b]
theorem IsDs.uniq {h : AH} : ∀ {x : List AV} {d e : List PD}, IsDs h x d → IsDs h x e → d = e
  | _, _, _, .nil, .nil => rfl
  | _, _, _, .cons a b, .cons c d => by rw [IsD.uniq a c, IsDs.uniq b d]
end
open Classical in
noncomputable def readD (h : AH) (x : AV) : Option PD := if e : ∃ d, IsD h x d then some e.choose else none
open Classical in
noncomputable def readDs (h : AH) (x : List AV) : Option (List PD) := if e : ∃ d, IsDs h x d then some e.choose else none
section
variable {h : AH} {x : AV} {xs : List AV} {d : PD} {ds : List PD} {n : Nat}
theorem readD_of (r : IsD h x d) : readD h x = some d := by
  unfold readD
  have e : ∃ d, IsD h x d := ⟨d, r⟩
  rw [dif_pos e, IsD.uniq e.choose_spec r]
theorem readD_is (r : readD h x = some d) : IsD h x d := by
  unfold readD at r
  split at r
  · rename_i e
    cases r
    exact e.choose_spec
  · cases r
theorem readDs_of (r : IsDs h xs ds) : readDs h xs = some ds := by
  unfold readDs
  have e : ∃ d, IsDs h xs d := ⟨ds, r⟩
  rw [dif_pos e, IsDs.uniq e.choose_spec r]
theorem readDs_is (r : readDs h xs = some ds) : IsDs h xs ds := by
  unfold readDs at r
  split at r
  · rename_i e
    cases r
    exact e.choose_spec
  · cases r
theorem readD_iff : readD h x = some d ↔ IsD h x d := ⟨readD_is, readD_of⟩
theorem opt_ext {α : Type} {a b : Option α} (e : ∀ x, a = some x ↔ b = some x) : a = b := by
  cases a with
  | none => cases b with
    | none => rfl
    | some y => exact ((e y).mpr rfl)
  | some y => exact ((e y).mp rfl).symm
theorem readD_non : readD h .non = some .none := readD_of .non
theorem readD_bl (b : Bool) : readD h (.bl b) = some (.bool b) := readD_of (.bl b)
theorem readD_int (i : Int) : readD h (.int i) = some (.int i) := readD_of (.int i)
theorem readD_str (i : Str) : readD h (.str i) = some (.str i) := readD_of (.str i)
theorem readD_tup : readD h (.tup xs) = (readDs h xs).map .tuple := opt_ext fun y => by
  rw [readD_iff]
  constructor
  · intro r
    cases r with
    | tup r => rw [readDs_of r]; rfl
  · intro e
    cases q : readDs h xs with
    | none => rw [q] at e; cases e
    | some ds => rw [q] at e; cases e; exact .tup (readDs_is q)
theorem readD_lst (e : h[n]? = some (.lst xs)) : readD h (.ref n) = (readDs h xs).map .list := opt_ext fun y => by
  rw [readD_iff]
  constructor
  · intro r
    cases r with
    | lst f r => rw [e] at f; cases f; rw [readDs_of r]; rfl
    | dic f r => rw [e] at f; cases f
  · intro q
    cases z : readDs h xs with
    | none => rw [z] at q; cases q
    | some ds => rw [z] at q; cases q; exact .lst e (readDs_is z)
theorem readDs_nil : readDs h [] = some [] := readDs_of .nil
theorem readDs_cons : readDs h (x :: xs) = (readD h x).bind fun d => (readDs h xs).map (d :: ·) := opt_ext fun y => by
  constructor
  · intro r
    cases readDs_is r with
    | cons a b => rw [readD_of a, readDs_of b]; rfl
  · intro q
    cases z : readD h x with
    | none => rw [z] at q; cases q
    | some d =>
      rw [z] at q
      cases z2 : readDs h xs with
      | none => rw [z2] at q; cases q
      | some ds =>
        rw [z2] at q
        cases q
        exact readDs_of (.cons (readD_is z) (readDs_is z2))
end
mutual
theorem IsD.pre {h h' : AH} (p : h <+: h') : ∀ {x : AV} {d : PD}, IsD h x d → IsD h' x d
  | _, _, .non => .non
  | _, _, .bl b => .bl b
  | _, _, .int b => .int b
  | _, _, .str b => .str b
  | _, _, .tup a => .tup (IsDs.pre p a)
  | _, _, .lst e a => .lst (pre_get p e) (IsDs.pre p a)
  | _, _, .dic e a => .dic (pre_get p e) (IsDs.pre p a)
theorem IsDs.pre {h h' : AH} (p : h <+: h') : ∀ {x : List AV} {d : List PD}, IsDs h x d → IsDs h' x d
  | _, _, .nil => .nil
  | _, _, .cons a b => .cons (IsD.pre p a) (IsDs.pre p b)
end
section
variable {K : PySem.W.Frag} {mg : Str → Option Value} {ι : List Addr} {H : Hp} {h : AH}
abbrev inA (ι : List Addr) : DP.AS := fun a => a ∈ ι
theorem kv_zip {A : DP.AS} : ∀ {us : List (Key × V)} {ks : List Key} {ds : List PD}, us.map (·.1) = ks → DP.RpAll A H (us.map (·.2)) ds → DP.RpKV A H us ((ks.map DP.kD).zip ds)
  | [], _, _, e, r => by
    subst e
    cases r
    exact .nil
  | (k, u) :: us, _, _, e, r => by
    subst e
    cases r with
    | cons r rs => exact .cons r (kv_zip rfl rs)
mutual
theorem Rel.rp (E : Rel K mg ι H h) : ∀ {x : AV} {d : PD} {v : V}, IsD h x d → RV K ι H v x → DP.Rp (inA ι) H v d
  | _, _, _, .non, .non => .non
  | _, _, _, .bl b, .bl _ => .bl b
  | _, _, _, .int b, .int _ => .int b
  | _, _, _, .str b, .str _ => .str b
  | _, _, _, .tup a, .tup e r => .tup e (Rel.rps E a r)
  | _, _, _, .lst e a, .ref q => by
    obtain ⟨vs, e1, r⟩ := E.cell _ _ _ e q
    exact .lst (List.mem_of_getElem? q) e1 (Rel.rps E a r)
  | _, _, _, .dic e a, .ref q => by
    obtain ⟨us, e1, r⟩ := E.cell _ _ _ e q
    have := Rel.rps E a r.v
    have := kv_zip r.k this
    rw [List.map_map] at this
    exact .dic (List.mem_of_getElem? q) e1 this
theorem Rel.rps (E : Rel K mg ι H h) : ∀ {x : List AV} {d : List PD} {v : List V}, IsDs h x d → RVs K ι H v x → DP.RpAll (inA ι) H v d
  | _, _, _, .nil, .nil => .nil
  | _, _, _, .cons a b, .cons r s => .cons (Rel.rp E a r) (Rel.rps E b s)
end
end
end HL
/-! HLB: what expressions come to: plain functions of the slots and the told heap. -/
namespace HL
open PySem L2
structure Exn where
  cls : Str
  fs : List (Str × AV)
inductive RR (α : Type) where
  | ok (a : α) (h : AH)
  | ex (e : Exn) (h : AH)
  | no
abbrev Env := List (Option AV)
abbrev EM (α : Type) := Env → AH → RR α
def RR.bind {α β : Type} (r : RR α) (k : α → AH → RR β) : RR β :=
  match r with
  | .ok a h => k a h
  | .ex e h => .ex e h
  | .no => .no
def bnd {α β : Type} (m : EM α) (k : α → EM β) : EM β := fun ρ h => (m ρ h).bind fun a => k a ρ
def retM {α : Type} (a : α) : EM α := fun _ h => .ok a h
def noM {α : Type} : EM α := fun _ _ => .no
def XR (K : PySem.W.Frag) (mg : Str → Option Value) (ι : List Addr) (H : Hp) (e : Exn) (cls : Value) (d : Option Addr) : Prop :=
  ∃ C, mg e.cls = some (.ref C) ∧ cls = .ref C ∧ ((e.fs = [] ∧ d = none) ∨ ∃ (da : Addr) (us : List (Str × V)), d = some da ∧ H da = some (.xd us) ∧ RKs K ι H us e.fs)
structure ER (K : PySem.W.Frag) (mg : Str → Option Value) (ι : List Addr) (H : Hp) (σ : L2.St) (ρ : Env) (h : AH) : Prop where
  rel : Rel K mg ι H h
  slen : σ.length = ρ.length
  slot : ∀ (i : Nat) (d : AV), ρ[i]? = some (some d) → ∃ v, σ[i]? = some (some v) ∧ RV K ι H v d
def Pst {α β : Type} (K : PySem.W.Frag) (mg : Str → Option Value) (W : WX) (ι : List Addr) (H : Hp) (σ : L2.St) (R : List Addr → Hp → β → α → Prop) (Q : β → Hp → Prop) : RR α → Prop
  | .ok a h' => ∀ ι' H' b, Rel K mg ι' H' h' → Stp ι H ι' H' → R ι' H' b a → Q b H'
  | .ex e h' => ∀ ι' H' cls d, Rel K mg ι' H' h' → Stp ι H ι' H' → XR K mg ι' H' e cls d → W cls d σ H'
  | .no => False
section
variable {α β γ δ : Type} {K : PySem.W.Frag} {mg : Str → Option Value} {W : WX} {ι ι1 : List Addr} {H H1 : Hp} {σ : L2.St} {ρ : Env} {h h1 : AH}
theorem ER.stp (E : ER K mg ι H σ ρ h) (R : Rel K mg ι1 H1 h1) (S : Stp ι H ι1 H1) : ER K mg ι1 H1 σ ρ h1 := ⟨R, E.slen, fun i d e => by
  obtain ⟨v, e1, r⟩ := E.slot i d e
  exact ⟨v, e1, r.kp (S.k E.rel)⟩⟩
theorem Pst.after {R : List Addr → Hp → β → α → Prop} {Q : β → Hp → Prop} {r : RR α} (S : Stp ι H ι1 H1) (q : Pst K mg W ι H σ R Q r) : Pst K mg W ι1 H1 σ R Q r := by
  cases r with
  | ok a h' => exact fun ι' H' b E S' => q ι' H' b E (S.trans S')
  | ex e h' => exact fun ι' H' c d E S' => q ι' H' c d E (S.trans S')
  | no => exact q
theorem Pst.split {R : List Addr → Hp → β → α → Prop} {R1 : List Addr → Hp → δ → γ → Prop} {Q : β → Hp → Prop} {Q1 : δ → Hp → Prop} {m : EM γ} {k : γ → EM α} (q : Pst K mg W ι H σ R Q (bnd m k ρ h))
    (hk : ∀ a ι1 H1 h1 b, Rel K mg ι1 H1 h1 → Stp ι H ι1 H1 → R1 ι1 H1 b a → Pst K mg W ι H σ R Q (k a ρ h1) → Q1 b H1) : Pst K mg W ι H σ R1 Q1 (m ρ h) := by
  unfold bnd RR.bind at q
  cases e : m ρ h with
  | ok a h1 =>
    rw [e] at q
    exact fun ι1 H1 b E S r => hk a ι1 H1 h1 b E S r q
  | ex x h1 => rw [e] at q; exact q
  | no => rw [e] at q; exact q
theorem Pst.imp {R R' : List Addr → Hp → β → α → Prop} {Q : β → Hp → Prop} {r : RR α} (q : Pst K mg W ι H σ R Q r) (i : ∀ ι' H' b a, R' ι' H' b a → R ι' H' b a) : Pst K mg W ι H σ R' Q r := by
  cases r with
  | ok a h' => exact fun ι' H' b E S r => q ι' H' b E S (i _ _ _ _ r)
  | ex e h' => exact q
  | no => exact q
end
def RunE (K : PySem.W.Frag) (mg : Str → Option Value) (W : WX) (t : TE) (f : EM AV) : Prop := ∀ ι H h σ ρ, ER K mg ι H σ ρ h → ∀ Q : VK, Pst K mg W ι H σ (RV K) Q (f ρ h) → t σ H Q
def SimE (X : Cx) (W : WX) (e : Expr) (f : EM AV) : Prop := ∃ t : TE, PE X e t ∧ RunE X.K X.mg W t f
def SimA (X : Cx) (W : WX) (es : List Expr) (f : EM (List AV)) : Prop := ∃ t : TA, PA X es t ∧ ∀ ι H h σ ρ, ER X.K X.mg ι H σ ρ h → ∀ Q : List V → Hp → Prop, Pst X.K X.mg W ι H σ (RVs X.K) Q (f ρ h) → t σ H Q
def RT : List Addr → Hp → Bool → Bool → Prop := fun _ _ b c => b = c
def RunT (K : PySem.W.Frag) (mg : Str → Option Value) (W : WX) (t : TT) (f : EM Bool) : Prop := ∀ ι H h σ ρ, ER K mg ι H σ ρ h → ∀ Q : Bool → Hp → Prop, Pst K mg W ι H σ RT Q (f ρ h) → t σ H Q
def SimT (X : Cx) (W : WX) (e : Expr) (f : EM Bool) : Prop := ∃ t : TT, PT X e t ∧ RunT X.K X.mg W t f
def SimW (X : Cx) (W : WX) (e : Expr) (f : EM Bool) : Prop := ∃ t : TT, PW X e t ∧ RunT X.K X.mg W t f
/-! ### operations -/
inductive RA where
  | val (v : AV)
  | new (c : Cell)
def NewA (K : PySem.W.Frag) (mg : Str → Option Value) (ι : List Addr) (H H' : Hp) (v : V) (c : RA) : Prop := (∀ b o, H b = some o → H' b = some o) ∧
  match c with
  | .val d => RV K ι H' v d
  | .new c => ∃ p, v = .ref p ∧ H p = none ∧ CellR K mg (ι ++ [p]) H' p c
def opM (o : AH → Option RA) : EM AV := fun _ h =>
  match o h with
  | some (.val v) => .ok v h
  | some (.new c) => .ok (.ref h.length) (h ++ [c])
  | none => .no
section
variable {K : PySem.W.Frag} {mg : Str → Option Value} {W : WX} {ι : List Addr} {H H' : Hp} {σ : L2.St} {ρ : Env} {h : AH} {v : V} {c : RA} {p : Addr} {d : AV}
theorem Pst.op {ι0 : List Addr} {H0 : Hp} {o : AH → Option RA} {Q : VK} (E : Rel K mg ι H h) (S : Stp ι0 H0 ι H) (q : Pst K mg W ι0 H0 σ (RV K) Q (opM o ρ h)) : ∃ c, o h = some c ∧ ∀ v H', NewA K mg ι H H' v c → Q v H' := by
  unfold opM at q
  cases e : o h with
  | none => rw [e] at q; exact q.elim
  | some c =>
    rw [e] at q
    refine ⟨c, rfl, fun v H' ⟨x, n⟩ => ?_⟩
    cases c with
    | val d => exact q ι H' v (E.ext x) (S.trans (Stp.ext x)) n
    | new c =>
      obtain ⟨p, rfl, hp, hc⟩ := n
      obtain ⟨E', S', _⟩ := E.new x hp hc
      refine q _ H' _ E' (S.trans S') (.ref ?_)
      rw [← E.len, List.getElem?_append_right (Nat.le_refl _)]
      simp
theorem na_val (r : RV K ι H v d) : NewA K mg ι H H v (.val d) := ⟨fun _ _ e => e, r⟩
theorem na_new {o : HO} {c : Cell} (hp : H p = none) (r : ∀ k : Kp ι H (ι ++ [p]) (upd H p o), CellR K mg (ι ++ [p]) (upd H p o) p c) : NewA K mg ι H (upd H p o) (.ref p) (.new c) :=
  ⟨ext_of hp, p, rfl, hp, r ⟨List.prefix_append _ _, fun _ _ e => ext_of hp _ _ e, fun _ _ _ _ e => ext_of hp _ _ e⟩⟩
theorem na_lst {vs : List V} {xs : List AV} (hp : H p = none) (r : RVs K ι H vs xs) : NewA K mg ι H (upd H p (.lst vs)) (.ref p) (.new (.lst xs)) := na_new hp fun k => ⟨vs, upd_same, r.kp k⟩
theorem na_tup {vs : List V} {xs : List AV} (hp : H p = none) (r : RVs K ι H vs xs) : NewA K mg ι H (upd H p (.tup vs)) (.ref p) (.val (.tup xs)) := ⟨ext_of hp, .tup upd_same (r.kp (Kp.ext (ext_of hp)))⟩
end
structure OpA2 (K : PySem.W.Frag) (mg : Str → Option Value) (r : R2) (g : AH → AV → AV → Option RA) : Prop where
  run : ∀ ι H h x y a b c (Q : VK), Rel K mg ι H h → RV K ι H x a → RV K ι H y b → g h a b = some c → (∀ v H', NewA K mg ι H H' v c → Q v H') → r x y H Q
structure OpA1 (K : PySem.W.Frag) (mg : Str → Option Value) (r : V → Hp → VK → Prop) (g : AH → AV → Option RA) : Prop where
  run : ∀ ι H h x a c (Q : VK), Rel K mg ι H h → RV K ι H x a → g h a = some c → (∀ v H', NewA K mg ι H H' v c → Q v H') → r x H Q
structure OpAN (K : PySem.W.Frag) (mg : Str → Option Value) (r : List V → Hp → VK → Prop) (g : AH → List AV → Option RA) : Prop where
  run : ∀ ι H h x a c (Q : VK), Rel K mg ι H h → RVs K ι H x a → g h a = some c → (∀ v H', NewA K mg ι H H' v c → Q v H') → r x H Q
def eOp2 (g : AH → AV → AV → Option RA) (a b : EM AV) : EM AV := bnd a fun x => bnd b fun y => opM fun h => g h x y
def eOp1 (g : AH → AV → Option RA) (a : EM AV) : EM AV := bnd a fun x => opM fun h => g h x
def eOpN (g : AH → List AV → Option RA) (a : EM (List AV)) : EM AV := bnd a fun xs => opM fun h => g h xs
section
variable {X : Cx} {W : WX} {a b e : Expr} {fa fb fc fe : EM AV} {es : List Expr} {fs : EM (List AV)} {r : R2} {g : AH → AV → AV → Option RA} {pos p : Pos}
theorem op2_run {ta tb : TE} (hg : OpA2 X.K X.mg r g) (ha : RunE X.K X.mg W ta fa) (hb : RunE X.K X.mg W tb fb) : RunE X.K X.mg W (tOp r ta tb) (eOp2 g fa fb) := by
  intro ι H h σ ρ E Q q
  refine ha ι H h σ ρ E _ (q.split fun x ι1 H1 h1 v1 E1 S1 R1 q1 => ?_)
  refine hb ι1 H1 h1 σ ρ (E.stp E1 S1) _ ((q1.after S1).split fun y ι2 H2 h2 v2 E2 S2 R2 q2 => ?_)
  obtain ⟨c, e, q3⟩ := q2.op E2 S2
  exact hg.run ι2 H2 h2 v1 v2 x y c Q E2 (R1.kp (S2.k E1)) R2 e q3
theorem sim_op {op : Operator} (ho : OpR X (binaryOp op) r) (hg : OpA2 X.K X.mg r g) (ha : SimE X W a fa) (hb : SimE X W b fb) : SimE X W (.BinOp a op b pos) (eOp2 g fa fb) := by
  obtain ⟨ta, pa, ha⟩ := ha
  obtain ⟨tb, pb, hb⟩ := hb
  exact ⟨_, pe_op ho pa pb, op2_run hg ha hb⟩
theorem sim_cmp {op : CmpOp} (ho : OpR X (compareOp op) r) (hg : OpA2 X.K X.mg r g) (ha : SimE X W a fa) (hb : SimE X W b fb) (hm : behindInMarks op b = false) : SimE X W (.Compare a [op] [b] pos) (eOp2 g fa fb) := by
  obtain ⟨ta, pa, ha⟩ := ha
  obtain ⟨tb, pb, hb⟩ := hb
  exact ⟨_, pe_cmpR ho pa pb hm, op2_run hg ha hb⟩
theorem sim_ix (ho : IxR X r) (hg : OpA2 X.K X.mg r g) (ha : SimE X W a fa) (hb : SimE X W b fb) (hs : PlainIx b) : SimE X W (.Subscript a b pos) (eOp2 g fa fb) := by
  obtain ⟨ta, pa, ha⟩ := ha
  obtain ⟨tb, pb, hb⟩ := hb
  exact ⟨_, pe_ix ho pa pb hs, op2_run hg ha hb⟩
theorem sim_un {op : UnaryOp} {r : V → Hp → VK → Prop} {g : AH → AV → Option RA} (ho : UnR X (unaryOp op) r) (hg : OpA1 X.K X.mg r g) (ha : SimE X W a fa) : SimE X W (.UnaryOp op a pos) (eOp1 g fa) := by
  obtain ⟨ta, pa, ha⟩ := ha
  refine ⟨_, pe_un ho pa, fun ι H h σ ρ E Q q => ?_⟩
  refine ha ι H h σ ρ E _ (q.split fun x ι1 H1 h1 v1 E1 S1 R1 q1 => ?_)
  obtain ⟨c, e, q3⟩ := q1.op E1 S1
  exact hg.run ι1 H1 h1 v1 x c Q E1 R1 e q3
/-! names, constants -/
def eVar (i : Nat) : EM AV := fun ρ h =>
  match ρ[i]? with
  | some (some d) => .ok d h
  | _ => .no
def eC (d : AV) : EM AV := retM d
theorem sim_var {i : Nat} {x : Str} (hv : PE X (.Name x pos) (tVar i)) : SimE X W (.Name x pos) (eVar i) := by
  refine ⟨_, hv, fun ι H h σ ρ E Q q => ?_⟩
  unfold eVar at q
  cases e : ρ[i]? with
  | none => rw [e] at q; exact q.elim
  | some o =>
    rw [e] at q
    cases o with
    | none => exact q.elim
    | some s =>
      obtain ⟨v, e1, r⟩ := E.slot i s e
      exact ⟨v, e1, q ι H v E.rel Stp.refl r⟩
theorem sim_c {e : Expr} {v : V} {d : AV} (hc : PE X e (tC v)) (hr : ∀ ι H, RV X.K ι H v d) : SimE X W e (eC d) :=
  ⟨_, hc, fun ι H h σ ρ E Q q => q ι H v E.rel Stp.refl (hr ι H)⟩
theorem sim_int {i : Int} {j : Nat} : SimE X W (.Constant (.int i) j pos) (eC (.int i)) := sim_c pe_int fun _ _ => .int i
theorem sim_bl {i : Bool} {j : Nat} : SimE X W (.Constant (.bool i) j pos) (eC (.bl i)) := sim_c pe_bl fun _ _ => .bl i
theorem sim_non {j : Nat} : SimE X W (.Constant .none j pos) (eC .non) := sim_c pe_non fun _ _ => .non
theorem sim_str {i : Str} {j : Nat} : SimE X W (.Constant (.str i) j pos) (eC (.str i)) := sim_c pe_str fun _ _ => .str i
/-! argument lists -/
def aNil : EM (List AV) := retM []
def aCons (a : EM AV) (b : EM (List AV)) : EM (List AV) := bnd a fun x => bnd b fun xs => retM (x :: xs)
theorem sim_anil : SimA X W [] aNil := ⟨_, pa_nil, fun ι H h σ ρ E Q q => q ι H [] E.rel Stp.refl .nil⟩
theorem sim_acons (ha : SimE X W a fa) (hb : SimA X W es fs) (hs : starEach (a :: es) X.env = (false, eval a X.env) :: starEach es X.env := by rfl) : SimA X W (a :: es) (aCons fa fs) := by
  obtain ⟨ta, pa, ha⟩ := ha
  obtain ⟨tb, pb, hb⟩ := hb
  refine ⟨_, pa_cons pa pb hs, fun ι H h σ ρ E Q q => ?_⟩
  refine ha ι H h σ ρ E _ (q.split fun x ι1 H1 h1 v1 E1 S1 R1 q1 => ?_)
  refine hb ι1 H1 h1 σ ρ (E.stp E1 S1) _ ((q1.after S1).split fun xs ι2 H2 h2 vs E2 S2 R2 q2 => ?_)
  exact q2 ι2 H2 (v1 :: vs) E2 S2 (.cons (R1.kp (S2.k E1)) R2)
/-- a call of a built-in by its name -/
theorem sim_callB {r : List V → Hp → VK → Prop} {g : AH → List AV → Option RA} {id : String} {x : Str} (hc : CallR X (.builtin id) r) (hg : OpAN X.K X.mg r g) (hgl : Gl X x) (hm : X.mg x = none) (hv : bootBuiltins x = some (.builtin id)) (ha : SimA X W (a :: es) fs) (hn : x ≠ "__name__" := by decide) (hdb : (x == ("__debug__" : Str)) = false := by decide)
    (he : starEach (a :: es) X.env = (false, eval a X.env) :: starEach es X.env := by rfl) (hpl : (backTo pos (starEach es X.env)).any (·.1) = false := by rfl) : SimE X W (.Call (.Name x p) (a :: es) [] pos) (eOpN g fs) := by
  obtain ⟨ta, pa, ha⟩ := ha
  refine ⟨_, pe_callB hc hgl hm hv pa hn hdb he hpl, fun ι H h σ ρ E Q q => ?_⟩
  refine ha ι H h σ ρ E _ (q.split fun x ι1 H1 h1 v1 E1 S1 R1 q1 => ?_)
  obtain ⟨c, e, q3⟩ := q1.op E1 S1
  exact hg.run ι1 H1 h1 v1 x c Q E1 R1 e q3
theorem sim_callTy {r : List V → Hp → VK → Prop} {g : AH → List AV → Option RA} {T : String} {x : Str} (hc : CallR X (.type T) r) (hg : OpAN X.K X.mg r g) (hgl : Gl X x) (hm : X.mg x = none) (hv : bootBuiltins x = some (.type T)) (ha : SimA X W (a :: es) fs) (hn : x ≠ "__name__" := by decide) (hdb : (x == ("__debug__" : Str)) = false := by decide)
    (he : starEach (a :: es) X.env = (false, eval a X.env) :: starEach es X.env := by rfl) (hpl : (backTo pos (starEach es X.env)).any (·.1) = false := by rfl) : SimE X W (.Call (.Name x p) (a :: es) [] pos) (eOpN g fs) := by
  obtain ⟨ta, pa, ha⟩ := ha
  refine ⟨_, pe_callTy hc hgl hm hv pa hn hdb he hpl, fun ι H h σ ρ E Q q => ?_⟩
  refine ha ι H h σ ρ E _ (q.split fun x ι1 H1 h1 v1 E1 S1 R1 q1 => ?_)
  obtain ⟨c, e, q3⟩ := q1.op E1 S1
  exact hg.run ι1 H1 h1 v1 x c Q E1 R1 e q3
/-! displays -/
def eTup (a : EM (List AV)) : EM AV := bnd a fun xs => opM fun _ => if DP.smallL xs.length = true then some (.val (.tup xs)) else none
def eLst (a : EM (List AV)) : EM AV := bnd a fun xs => opM fun _ => if DP.smallL xs.length = true then some (.new (.lst xs)) else none
theorem sim_tup {x1} (ha : SimA X W es fs) : SimE X W (.Tuple es x1 pos) (eTup fs) := by
  obtain ⟨ta, pa, ha⟩ := ha
  refine ⟨_, pe_tup pa, fun ι H h σ ρ E Q q => ?_⟩
  refine ha ι H h σ ρ E _ (q.split fun x ι1 H1 h1 v1 E1 S1 R1 q1 => ?_)
  obtain ⟨c, e, q3⟩ := q1.op E1 S1
  split at e
  · rename_i hz
    cases e
    exact ⟨by rw [R1.length]; exact DP.smallL_le hz, fun p hp => q3 _ _ (na_tup hp R1)⟩
  · cases e
theorem sim_lst (ha : SimA X W es fs) : SimE X W (.List es pos) (eLst fs) := by
  obtain ⟨ta, pa, ha⟩ := ha
  refine ⟨_, pe_lst pa, fun ι H h σ ρ E Q q => ?_⟩
  refine ha ι H h σ ρ E _ (q.split fun x ι1 H1 h1 v1 E1 S1 R1 q1 => ?_)
  obtain ⟨c, e, q3⟩ := q1.op E1 S1
  split at e
  · rename_i hz
    cases e
    exact ⟨by rw [R1.length]; exact DP.smallL_le hz, fun p hp => q3 _ _ (na_lst hp R1)⟩
  · cases e
end
/-! ### tests -/
def tBool (f : EM AV) : EM Bool := bnd f fun d =>
  match d with
  | .bl b => retM b
  | _ => noM
section
variable {X : Cx} {W : WX} {a b c e : Expr} {fa fb fc : EM AV} {ga gb gc : EM Bool} {pos : Pos}
theorem tBool_run {t : TE} (ha : RunE X.K X.mg W t fa) : ∀ ι H h σ ρ, ER X.K X.mg ι H σ ρ h → ∀ Q : Bool → Hp → Prop, Pst X.K X.mg W ι H σ RT Q (tBool fa ρ h) → t σ H (fun x H' => ∃ k, x = .bl k ∧ Q k H') := by
  intro ι H h σ ρ E Q q
  refine ha ι H h σ ρ E _ (q.split fun d ι1 H1 h1 v1 E1 S1 R1 q1 => ?_)
  cases d with
  | bl k => cases R1; exact ⟨k, rfl, q1 ι1 H1 k E1 S1 rfl⟩
  | _ => exact q1.elim
theorem sim_tval (ha : SimE X W e fa) (he : ∀ whole, isTrue e X.env whole = (do let v ← whole; standAt e.pos; holding [v] (truthy v)) := by intro _; rfl) : SimT X W e (tBool fa) := by
  obtain ⟨t, pa, ha⟩ := ha
  exact ⟨_, pt_val pa he, tBool_run ha⟩
theorem sim_tcmp {op : CmpOp} {r : R2} {g : AH → AV → AV → Option RA} (ho : OpR X (compareOp op) r) (hg : OpA2 X.K X.mg r g) (ha : SimE X W a fa) (hb : SimE X W b fb) (hm : behindInMarks op b = false) : SimT X W (.Compare a [op] [b] pos) (tBool (eOp2 g fa fb)) := by
  obtain ⟨ta, pa, ha⟩ := ha
  obtain ⟨tb, pb, hb⟩ := hb
  exact ⟨_, pt_cmpR ho pa pb hm, tBool_run (op2_run hg ha hb)⟩
/-- a op b op' c -/
def eChain (g g' : AH → AV → AV → Option RA) (a b c : EM AV) : EM AV := bnd a fun x => bnd b fun y => bnd (opM fun h => g h x y) fun z =>
  match z with
  | .bl true => bnd c fun w => opM fun h => g' h y w
  | .bl false => retM (.bl false)
  | _ => noM
theorem chain_run {r r' : R2} {g g' : AH → AV → AV → Option RA} {ta tb tc : TE} (hg : OpA2 X.K X.mg r g) (hg' : OpA2 X.K X.mg r' g') (ha : RunE X.K X.mg W ta fa) (hb : RunE X.K X.mg W tb fb) (hc : RunE X.K X.mg W tc fc) : RunE X.K X.mg W (tChain r r' ta tb tc) (eChain g g' fa fb fc) := by
  intro ι H h σ ρ E Q q
  refine ha ι H h σ ρ E _ (q.split fun x ι1 H1 h1 v1 E1 S1 R1 q1 => ?_)
  refine hb ι1 H1 h1 σ ρ (E.stp E1 S1) _ ((q1.after S1).split fun y ι2 H2 h2 v2 E2 S2 R2 q2 => ?_)
  have q2' := Pst.split (R1 := RV X.K) (Q1 := fun z H3 => ∃ k, z = .bl k ∧ if k = true then tc σ H3 fun w H4 => r' v2 w H4 Q else Q (.bl false) H3) (q2.after S2) fun z ι3 H3 h3 v3 E3 S3 R3 q3 => by
    cases z with
    | bl k =>
      cases R3
      refine ⟨k, rfl, ?_⟩
      cases k with
      | false => exact q3 ι3 H3 (.bl false) E3 S3 (.bl false)
      | true =>
        refine hc ι3 H3 h3 σ ρ (((E.stp E1 S1).stp E2 S2).stp E3 S3) _ ((q3.after S3).split fun w ι4 H4 h4 v4 E4 S4 R4 q4 => ?_)
        obtain ⟨c, e, q5⟩ := q4.op E4 S4
        exact hg'.run ι4 H4 h4 v2 v4 y w c Q E4 (R2.kp ((S3.trans S4).k E2)) R4 e q5
    | _ => exact q3.elim
  obtain ⟨c, e, q3⟩ := Pst.op E2 Stp.refl q2'
  refine hg.run ι2 H2 h2 v1 v2 x y c _ E2 (R1.kp (S2.k E1)) R2 e fun z H3 nz => ?_
  exact q3 z H3 nz
theorem sim_chain {op op' : CmpOp} {r r' : R2} {g g' : AH → AV → AV → Option RA} (ho : OpR X (compareOp op) r) (ho' : OpR X (compareOp op') r') (hg : OpA2 X.K X.mg r g) (hg' : OpA2 X.K X.mg r' g') (ha : SimE X W a fa) (hb : SimE X W b fb) (hc : SimE X W c fc)
    (hm : lastMarks [op, op'] [b, c] = false := by with_unfolding_all rfl) : SimE X W (.Compare a [op, op'] [b, c] pos) (eChain g g' fa fb fc) := by
  obtain ⟨ta, pa, ha⟩ := ha
  obtain ⟨tb, pb, hb⟩ := hb
  obtain ⟨tc, pc, hc⟩ := hc
  exact ⟨_, pe_chain ho ho' pa pb pc hm, chain_run hg hg' ha hb hc⟩
theorem sim_tchain {op op' : CmpOp} {r r' : R2} {g g' : AH → AV → AV → Option RA} (ho : OpR X (compareOp op) r) (ho' : OpR X (compareOp op') r') (hg : OpA2 X.K X.mg r g) (hg' : OpA2 X.K X.mg r' g') (ha : SimE X W a fa) (hb : SimE X W b fb) (hc : SimE X W c fc)
    (hm : lastMarks [op, op'] [b, c] = false := by with_unfolding_all rfl) : SimT X W (.Compare a [op, op'] [b, c] pos) (tBool (eChain g g' fa fb fc)) := by
  obtain ⟨ta, pa, ha⟩ := ha
  obtain ⟨tb, pb, hb⟩ := hb
  obtain ⟨tc, pc, hc⟩ := hc
  exact ⟨_, pt_chain ho ho' pa pb pc hm, tBool_run (chain_run hg hg' ha hb hc)⟩
/-! and, or, not -/
def tAndM (a b : EM Bool) : EM Bool := bnd a fun k => if k = true then b else retM false
def tOrM (a b : EM Bool) : EM Bool := bnd a fun k => if k = true then retM true else b
def tNotM (a : EM Bool) : EM Bool := bnd a fun k => retM (!k)
theorem sim_tnot (ha : SimT X W a ga) : SimT X W (.UnaryOp .Not a pos) (tNotM ga) := by
  obtain ⟨ta, pa, ha⟩ := ha
  refine ⟨_, pt_not pa, fun ι H h σ ρ E Q q => ?_⟩
  refine ha ι H h σ ρ E _ (q.split (R1 := RT) fun k ι1 H1 h1 k' E1 S1 R1 q1 => ?_)
  cases R1
  exact q1 ι1 H1 _ E1 S1 rfl
theorem sim_wand1 (ha : SimT X W a ga) : SimW X W (.BoolOp .And [a] pos) ga := by
  obtain ⟨ta, pa, ha⟩ := ha
  exact ⟨_, pw_and1 pa, ha⟩
theorem sim_wor1 (ha : SimT X W a ga) : SimW X W (.BoolOp .Or [a] pos) ga := by
  obtain ⟨ta, pa, ha⟩ := ha
  exact ⟨_, pw_or1 pa, ha⟩
theorem sim_wand {rest : List Expr} (ha : SimT X W a ga) (hb : SimW X W (.BoolOp .And (b :: rest) pos) gb) : SimW X W (.BoolOp .And (a :: b :: rest) pos) (tAndM ga gb) := by
  obtain ⟨ta, pa, ha⟩ := ha
  obtain ⟨tb, pb, hb⟩ := hb
  refine ⟨_, pw_and pa pb, fun ι H h σ ρ E Q q => ?_⟩
  refine ha ι H h σ ρ E _ (q.split (R1 := RT) fun k ι1 H1 h1 k' E1 S1 R1 q1 => ?_)
  cases R1
  cases k with
  | true => exact hb ι1 H1 h1 σ ρ (E.stp E1 S1) Q (q1.after S1)
  | false => exact q1 ι1 H1 _ E1 S1 rfl
theorem sim_wor {rest : List Expr} (ha : SimT X W a ga) (hb : SimW X W (.BoolOp .Or (b :: rest) pos) gb) : SimW X W (.BoolOp .Or (a :: b :: rest) pos) (tOrM ga gb) := by
  obtain ⟨ta, pa, ha⟩ := ha
  obtain ⟨tb, pb, hb⟩ := hb
  refine ⟨_, pw_or pa pb, fun ι H h σ ρ E Q q => ?_⟩
  refine ha ι H h σ ρ E _ (q.split (R1 := RT) fun k ι1 H1 h1 k' E1 S1 R1 q1 => ?_)
  cases R1
  cases k with
  | false => exact hb ι1 H1 h1 σ ρ (E.stp E1 S1) Q (q1.after S1)
  | true => exact q1 ι1 H1 _ E1 S1 rfl
theorem SimW.t (q : SimW X W e ga) : SimT X W e ga := by
  obtain ⟨t, p, q⟩ := q
  exact ⟨t, p.pt, q⟩
/-- .. as values: the first a truth -/
def eAndV (a b : EM AV) : EM AV := bnd a fun d =>
  match d with
  | .bl true => b
  | .bl false => retM (.bl false)
  | _ => noM
def eOrV (a b : EM AV) : EM AV := bnd a fun d =>
  match d with
  | .bl true => retM (.bl true)
  | .bl false => b
  | _ => noM
def eNotV (a : EM AV) : EM AV := bnd a fun d =>
  match d with
  | .bl k => retM (.bl (!k))
  | _ => noM
theorem sim_vone {op} (ha : SimE X W a fa) : SimE X W (.BoolOp op [a] pos) fa := by
  obtain ⟨ta, pa, ha⟩ := ha
  exact ⟨_, pe_one pa, ha⟩
theorem sim_vand {rest : List Expr} (ha : SimE X W a fa) (hb : SimE X W (.BoolOp .And (b :: rest) pos) fb) : SimE X W (.BoolOp .And (a :: b :: rest) pos) (eAndV fa fb) := by
  obtain ⟨ta, pa, ha⟩ := ha
  obtain ⟨tb, pb, hb⟩ := hb
  refine ⟨_, pe_and pa pb, fun ι H h σ ρ E Q q => ?_⟩
  refine ha ι H h σ ρ E _ (q.split fun d ι1 H1 h1 v1 E1 S1 R1 q1 => ?_)
  cases d with
  | bl k =>
    cases R1
    refine ⟨k, rfl, ?_⟩
    cases k with
    | true => exact hb ι1 H1 h1 σ ρ (E.stp E1 S1) Q (q1.after S1)
    | false => exact q1 ι1 H1 _ E1 S1 (.bl false)
  | _ => exact q1.elim
theorem sim_vor {rest : List Expr} (ha : SimE X W a fa) (hb : SimE X W (.BoolOp .Or (b :: rest) pos) fb) : SimE X W (.BoolOp .Or (a :: b :: rest) pos) (eOrV fa fb) := by
  obtain ⟨ta, pa, ha⟩ := ha
  obtain ⟨tb, pb, hb⟩ := hb
  refine ⟨_, pe_or pa pb, fun ι H h σ ρ E Q q => ?_⟩
  refine ha ι H h σ ρ E _ (q.split fun d ι1 H1 h1 v1 E1 S1 R1 q1 => ?_)
  cases d with
  | bl k =>
    cases R1
    refine ⟨k, rfl, ?_⟩
    cases k with
    | false => exact hb ι1 H1 h1 σ ρ (E.stp E1 S1) Q (q1.after S1)
    | true => exact q1 ι1 H1 _ E1 S1 (.bl true)
  | _ => exact q1.elim
theorem sim_vnot (ha : SimE X W a fa) : SimE X W (.UnaryOp .Not a pos) (eNotV fa) := by
  obtain ⟨ta, pa, ha⟩ := ha
  refine ⟨_, pe_not pa, fun ι H h σ ρ E Q q => ?_⟩
  refine ha ι H h σ ρ E _ (q.split fun d ι1 H1 h1 v1 E1 S1 R1 q1 => ?_)
  cases d with
  | bl k => cases R1; exact ⟨k, rfl, q1 ι1 H1 _ E1 S1 (.bl _)⟩
  | _ => exact q1.elim
def eIf (c : EM Bool) (a b : EM AV) : EM AV := bnd c fun k => if k = true then a else b
theorem sim_ifx (hc : SimT X W c gc) (ha : SimE X W a fa) (hb : SimE X W b fb) : SimE X W (.IfExp c a b pos) (eIf gc fa fb) := by
  obtain ⟨tc, pc, hc⟩ := hc
  obtain ⟨ta, pa, ha⟩ := ha
  obtain ⟨tb, pb, hb⟩ := hb
  refine ⟨_, pe_ifExp pc pa pb, fun ι H h σ ρ E Q q => ?_⟩
  refine hc ι H h σ ρ E _ (q.split (R1 := RT) fun k ι1 H1 h1 k' E1 S1 R1 q1 => ?_)
  cases R1
  cases k with
  | true => exact ha ι1 H1 h1 σ ρ (E.stp E1 S1) Q (q1.after S1)
  | false => exact hb ι1 H1 h1 σ ρ (E.stp E1 S1) Q (q1.after S1)
/-- is None -/
def isNon : AV → Bool
  | .non => true
  | _ => false
theorem RV.isN {K : PySem.W.Frag} {ι : List Addr} {H : Hp} {v : V} {d : AV} (r : RV K ι H v d) : decide (v = .non) = isNon d := by
  cases r <;> rfl
def eIsN (a : EM AV) : EM AV := bnd a fun d => retM (.bl (isNon d))
def eNotN (a : EM AV) : EM AV := bnd a fun d => retM (.bl (!isNon d))
theorem isN_run {ta : TE} (ha : RunE X.K X.mg W ta fa) {f : Bool → Bool} : RunE X.K X.mg W (fun σ H Q => ta σ H fun v H' => Q (.bl (f (decide (v = .non)))) H') (bnd fa fun d => retM (.bl (f (isNon d)))) := by
  intro ι H h σ ρ E Q q
  refine ha ι H h σ ρ E _ (q.split fun d ι1 H1 h1 v1 E1 S1 R1 q1 => ?_)
  rw [R1.isN]
  exact q1 ι1 H1 _ E1 S1 (.bl _)
end
end HL
/-! HLC: statements, targets, loops. -/
namespace HL
open PySem L2
section
variable {X : Cx} {W : WX} {a : Expr} {fa : EM AV} {pos : Pos}
theorem sim_isN {j pos'} (ha : SimE X W a fa) : SimE X W (.Compare a [.Is] [.Constant .none j pos'] pos) (eIsN fa) := by
  obtain ⟨ta, pa, ha⟩ := ha
  exact ⟨_, pe_cmp (pc_isN pa) rfl, isN_run (f := fun x => x) ha⟩
theorem sim_notN {j pos'} (ha : SimE X W a fa) : SimE X W (.Compare a [.IsNot] [.Constant .none j pos'] pos) (eNotN fa) := by
  obtain ⟨ta, pa, ha⟩ := ha
  exact ⟨_, pe_cmp (pc_notN pa) rfl, isN_run (f := fun x => !x) ha⟩
theorem sim_tisN {j pos'} (ha : SimE X W a fa) : SimT X W (.Compare a [.Is] [.Constant .none j pos'] pos) (tBool (eIsN fa)) := by
  obtain ⟨ta, pa, ha⟩ := ha
  exact ⟨_, pt_cmp (pc_isN pa) rfl, tBool_run (isN_run (f := fun x => x) ha)⟩
theorem sim_tnotN {j pos'} (ha : SimE X W a fa) : SimT X W (.Compare a [.IsNot] [.Constant .none j pos'] pos) (tBool (eNotN fa)) := by
  obtain ⟨ta, pa, ha⟩ := ha
  exact ⟨_, pt_cmp (pc_notN pa) rfl, tBool_run (isN_run (f := fun x => !x) ha)⟩
end
inductive Ou where
  | nx (ρ : Env) (h : AH)
  | rt (v : AV) (h : AH)
  | bk (ρ : Env) (h : AH)
  | ct (ρ : Env) (h : AH)
  | ex (e : Exn) (ρ : Env) (h : AH)
  | no
abbrev SM := Env → AH → Ou
def RR.ou {α : Type} (r : RR α) (ρ : Env) (k : α → AH → Ou) : Ou :=
  match r with
  | .ok a h => k a h
  | .ex e h => .ex e ρ h
  | .no => .no
def bndS {α : Type} (m : EM α) (k : α → SM) : SM := fun ρ h => (m ρ h).ou ρ fun a => k a ρ
def PstS (K : PySem.W.Frag) (mg : Str → Option Value) (W : WX) (ι : List Addr) (H : Hp) (D : Ends) : Ou → Prop
  | .nx ρ' h' => ∀ ι' H' σ', ER K mg ι' H' σ' ρ' h' → Stp ι H ι' H' → D.nx σ' H'
  | .rt d h' => ∀ ι' H' v, Rel K mg ι' H' h' → Stp ι H ι' H' → RV K ι' H' v d → D.rt v H'
  | .bk ρ' h' => ∀ ι' H' σ', ER K mg ι' H' σ' ρ' h' → Stp ι H ι' H' → D.bk σ' H'
  | .ct ρ' h' => ∀ ι' H' σ', ER K mg ι' H' σ' ρ' h' → Stp ι H ι' H' → D.ct σ' H'
  | .ex e ρ' h' => ∀ ι' H' σ' cls d, ER K mg ι' H' σ' ρ' h' → Stp ι H ι' H' → XR K mg ι' H' e cls d → W cls d σ' H'
  | .no => False
section
variable {K : PySem.W.Frag} {mg : Str → Option Value} {W : WX} {ι ι1 : List Addr} {H H1 : Hp} {σ : L2.St} {ρ : Env} {h : AH} {D : Ends} {α β : Type}
theorem PstS.after {o : Ou} (S : Stp ι H ι1 H1) (q : PstS K mg W ι H D o) : PstS K mg W ι1 H1 D o := by
  cases o with
  | nx ρ' h' => exact fun ι' H' σ' E l => q ι' H' σ' E (S.trans l)
  | rt d h' => exact fun ι' H' v E l => q ι' H' v E (S.trans l)
  | bk ρ' h' => exact fun ι' H' σ' E l => q ι' H' σ' E (S.trans l)
  | ct ρ' h' => exact fun ι' H' σ' E l => q ι' H' σ' E (S.trans l)
  | ex e ρ' h' => exact fun ι' H' σ' c d E l => q ι' H' σ' c d E (S.trans l)
  | no => exact q
theorem PstS.split {R : List Addr → Hp → β → α → Prop} {Q1 : β → Hp → Prop} {m : EM α} {k : α → SM} (E : ER K mg ι H σ ρ h) (q : PstS K mg W ι H D (bndS m k ρ h))
    (hk : ∀ a ι1 H1 h1 b, ER K mg ι1 H1 σ ρ h1 → Stp ι H ι1 H1 → R ι1 H1 b a → PstS K mg W ι H D (k a ρ h1) → Q1 b H1) : Pst K mg W ι H σ R Q1 (m ρ h) := by
  unfold bndS RR.ou at q
  cases e : m ρ h with
  | ok a h1 =>
    rw [e] at q
    exact fun ι1 H1 b E1 S r => hk a ι1 H1 h1 b (E.stp E1 S) S r q
  | ex x h1 =>
    rw [e] at q
    exact fun ι1 H1 cls d E1 S X => q ι1 H1 σ cls d (E.stp E1 S) S X
  | no => rw [e] at q; exact q
end
def RunS (K : PySem.W.Frag) (mg : Str → Option Value) (W : WX) (t : TS) (s : SM) : Prop := ∀ ι H h σ ρ D, ER K mg ι H σ ρ h → PstS K mg W ι H D (s ρ h) → t D σ H
def SimS (X : Cx) (W : WX) (st : Stmt) (s : SM) : Prop := ∃ t : TS, PS X st t ∧ RunS X.K X.mg W t s
def SimB (X : Cx) (W : WX) (st : List Stmt) (s : SM) : Prop := ∃ t : TS, PSs X st t ∧ RunS X.K X.mg W t s
def sNil : SM := fun ρ h => .nx ρ h
def Ou.seq (o : Ou) (k : SM) : Ou :=
  match o with
  | .nx ρ h => k ρ h
  | o => o
def sSeq (a b : SM) : SM := fun ρ h => (a ρ h).seq b
section
variable {X : Cx} {W : WX} {st : Stmt} {rest : List Stmt} {a b : SM} {e : Expr} {fe : EM AV} {gc : EM Bool} {pos : Pos}
theorem sim_nil : SimB X W [] sNil := ⟨_, pss_nil, fun ι H h σ ρ D E q => q ι H σ E Stp.refl⟩
theorem sim_one (q : SimS X W st a) : SimB X W [st] a := by
  obtain ⟨t, p, q⟩ := q
  exact ⟨_, pss_one p, q⟩
theorem sim_seq (h1 : SimS X W st a) (h2 : SimB X W rest b) : SimB X W (st :: rest) (sSeq a b) := by
  obtain ⟨t, p, h1⟩ := h1
  obtain ⟨u, q, h2⟩ := h2
  refine ⟨_, pss_cons p q, fun ι H h σ ρ D E z => h1 ι H h σ ρ _ E ?_⟩
  unfold sSeq Ou.seq at z
  cases e1 : a ρ h with
  | nx ρ' h' => rw [e1] at z; exact fun ι' H' σ' E' k => h2 ι' H' h' σ' ρ' D E' (z.after k)
  | rt r h' => rw [e1] at z; exact z
  | bk ρ' h' => rw [e1] at z; exact z
  | ct ρ' h' => rw [e1] at z; exact z
  | ex x ρ' h' => rw [e1] at z; exact z
  | no => rw [e1] at z; exact z
def sPass : SM := fun ρ h => .nx ρ h
def sBreak : SM := fun ρ h => .bk ρ h
def sCont : SM := fun ρ h => .ct ρ h
theorem sim_pass : SimS X W (.Pass pos) sPass := ⟨_, ps_pass, fun ι H h σ ρ D E q => q ι H σ E Stp.refl⟩
theorem sim_break : SimS X W (.Break pos) sBreak := ⟨_, ps_break, fun ι H h σ ρ D E q => q ι H σ E Stp.refl⟩
theorem sim_cont : SimS X W (.Continue pos) sCont := ⟨_, ps_continue, fun ι H h σ ρ D E q => q ι H σ E Stp.refl⟩
def sRet (f : EM AV) : SM := bndS f fun r _ h => .rt r h
theorem sim_ret (q : SimE X W e fe) : SimS X W (.Return (some e) pos) (sRet fe) := by
  obtain ⟨t, p, q⟩ := q
  refine ⟨_, ps_ret p, fun ι H h σ ρ D E hs => ?_⟩
  exact q ι H h σ ρ E D.rt (PstS.split E hs fun r ι1 H1 h1 v E1 S1 R1 q1 => q1 ι1 H1 v E1.rel S1 R1)
def sRetN : SM := fun _ h => .rt .non h
theorem sim_retN : SimS X W (.Return none pos) sRetN := ⟨_, ps_retN, fun ι H h σ ρ D E q => q ι H .non E.rel Stp.refl .non⟩
def sExpr (f : EM AV) : SM := bndS f fun _ ρ h => .nx ρ h
theorem sim_expr (q : SimE X W e fe) (hs : swapsWith e none pos.line X.env = pure false := by rfl) : SimS X W (.Expr e pos) (sExpr fe) := by
  obtain ⟨t, p, q⟩ := q
  refine ⟨_, ps_expr p hs, fun ι H h σ ρ D E hs => ?_⟩
  exact q ι H h σ ρ E _ (PstS.split E hs fun r ι1 H1 h1 v E1 S1 R1 q1 => q1 ι1 H1 σ E1 S1)
def sIf (c : EM Bool) (a b : SM) : SM := bndS c fun k => if k = true then a else b
theorem sim_if {c : Expr} {sa sb : List Stmt} (hc : SimT X W c gc) (ha : SimB X W sa a) (hb : SimB X W sb b) : SimS X W (.If c sa sb pos) (sIf gc a b) := by
  obtain ⟨tc, pc, hc⟩ := hc
  obtain ⟨ta, pa, ha⟩ := ha
  obtain ⟨tb, pb, hb⟩ := hb
  refine ⟨_, ps_if pc pa pb, fun ι H h σ ρ D E q => ?_⟩
  refine hc ι H h σ ρ E _ (PstS.split (R := RT) E q fun k ι1 H1 h1 k' E1 S1 R1 q1 => ?_)
  cases R1
  cases k with
  | true => exact ha ι1 H1 h1 σ ρ D E1 (q1.after S1)
  | false => exact hb ι1 H1 h1 σ ρ D E1 (q1.after S1)
/-! names set -/
def setE (ρ : Env) (i : Nat) (d : AV) : Env := ρ.set i (some d)
theorem ER.set {K : PySem.W.Frag} {mg : Str → Option Value} {ι : List Addr} {H : Hp} {σ : L2.St} {ρ : Env} {h : AH} {v : V} {d : AV} (E : ER K mg ι H σ ρ h) (i : Nat) (r : RV K ι H v d) : ER K mg ι H (σ.set i (some v)) (setE ρ i d) h := by
  unfold setE
  refine ⟨E.rel, by simp [E.slen], fun j t e => ?_⟩
  by_cases hj : i = j
  · subst hj
    have hl : i < ρ.length := by
      have := (List.getElem?_eq_some_iff.mp e).1
      simpa using this
    rw [List.getElem?_set_self hl] at e
    cases e
    exact ⟨v, List.getElem?_set_self (by rw [E.slen]; exact hl), r⟩
  · rw [List.getElem?_set_ne hj] at e ⊢
    exact E.slot j t e
def sSet (i : Nat) (f : EM AV) : SM := bndS f fun d ρ h => .nx (setE ρ i d) h
theorem sim_set {i : Nat} {x : Str} {pos' : Pos} (hN : X.N.Nodup) (hi : X.N[i]? = some x) (hx : Loc X.env.scope x) (q : SimE X W e fe) (hs : swapsWith e (some (.Name x pos')) pos.line X.env = pure false := by rfl) (hf : X.fn x = true ∨ X.env.scope.names.lookup x = some .local := by first | exact .inl rfl | exact .inr rfl | assumption) :
    SimS X W (.Assign [.Name x pos'] e pos) (sSet i fe) := by
  obtain ⟨t, p, q⟩ := q
  refine ⟨_, ps_set hN hi hx p hs hf, fun ι H h σ ρ D E q1 => ?_⟩
  exact q ι H h σ ρ E _ (PstS.split E q1 fun d ι1 H1 h1 v E1 S1 R1 q2 => q2 ι1 H1 _ (E1.set i R1) S1)
end
/-! ### targets -/
def PstG (K : PySem.W.Frag) (mg : Str → Option Value) (W : WX) (is : List Nat) (ι : List Addr) (H : Hp) (σ : L2.St) (Q : L2.St → Hp → Prop) : Ou → Prop
  | .nx ρ' h' => ∀ ι' H' σ', ER K mg ι' H' σ' ρ' h' → Stp ι H ι' H' → (∀ j, j ∉ is → σ'[j]? = σ[j]?) → σ'.length = σ.length → Q σ' H'
  | .ex e ρ' h' => ∀ ι' H' σ' cls d, ER K mg ι' H' σ' ρ' h' → Stp ι H ι' H' → XR K mg ι' H' e cls d → W cls d σ' H'
  | _ => False
def RunG (K : PySem.W.Frag) (mg : Str → Option Value) (W : WX) (is : List Nat) (t : TG) (g : AV → SM) : Prop := ∀ ι H h σ ρ v d (Q : L2.St → Hp → Prop), ER K mg ι H σ ρ h → RV K ι H v d → PstG K mg W is ι H σ Q (g d ρ h) → t v σ H Q
def SimG (X : Cx) (W : WX) (tg : Expr) (g : AV → SM) (is : List Nat) : Prop := ∃ t : TG, PG X tg t ∧ RunG X.K X.mg W is t g
def SimGs (X : Cx) (W : WX) (tgs : List Expr) (g : List AV → SM) (is : List Nat) : Prop := ∃ t : TGs, PGs X tgs t ∧ ∀ ι H h σ ρ vs ds (Q : L2.St → Hp → Prop), ER X.K X.mg ι H σ ρ h → RVs X.K ι H vs ds → PstG X.K X.mg W is ι H σ Q (g ds ρ h) → t vs σ H Q
section
variable {X : Cx} {W : WX} {e : Expr} {fe : EM AV} {pos : Pos}
def gNm (i : Nat) : AV → SM := fun d ρ h => .nx (setE ρ i d) h
theorem sim_gname {i : Nat} {x : Str} (hN : X.N.Nodup) (hi : X.N[i]? = some x) (hx : Loc X.env.scope x) (hf : X.fn x = true ∨ X.env.scope.names.lookup x = some .local := by first | exact .inl rfl | exact .inr rfl | assumption) : SimG X W (.Name x pos) (gNm i) [i] := by
  refine ⟨_, pg_name hN hi hx hf, fun ι H h σ ρ v d Q E R q => ?_⟩
  exact q ι H _ (E.set i R) Stp.refl (fun j hj => List.getElem?_set_ne (fun e => hj (by simp [e]))) (by simp)
def gsNil : List AV → SM := fun ds ρ h =>
  match ds with
  | [] => .nx ρ h
  | _ => .no
def gsCons (g : AV → SM) (gs : List AV → SM) : List AV → SM := fun ds ρ h =>
  match ds with
  | d :: ds => (g d ρ h).seq (gs ds)
  | [] => .no
theorem sim_gsnil : SimGs X W [] gsNil [] := by
  refine ⟨_, pgs_nil, fun ι H h σ ρ vs ds Q E R q => ?_⟩
  cases R with
  | nil => exact ⟨rfl, q ι H σ E Stp.refl (fun _ _ => rfl) rfl⟩
  | cons _ _ => exact q.elim
theorem sim_gscons {t : Expr} {ts : List Expr} {g : AV → SM} {gs : List AV → SM} {is js : List Nat} (h1 : SimG X W t g is) (h2 : SimGs X W ts gs js) (hs : (assignEach (t :: ts) X.env).map (·.2) = assign t X.env :: (assignEach ts X.env).map (·.2) := by rfl) : SimGs X W (t :: ts) (gsCons g gs) (is ++ js) := by
  obtain ⟨tt, pt, h1⟩ := h1
  obtain ⟨tts, pts, h2⟩ := h2
  refine ⟨_, pgs_cons pt pts hs, fun ι H h σ ρ vs ds Q E R q => ?_⟩
  cases R with
  | nil => exact q.elim
  | @cons v vs d ds r rs =>
    simp only [gsCons, Ou.seq] at q
    refine ⟨v, vs, rfl, h1 ι H h σ ρ v d _ E r ?_⟩
    cases e1 : g d ρ h with
    | nx ρ1 h1' =>
      rw [e1] at q
      intro ι1 H1 σ1 E1 S1 n1 l1
      refine h2 ι1 H1 h1' σ1 ρ1 vs ds Q E1 (rs.kp (S1.k E.rel)) ?_
      simp only at q
      cases e2 : gs ds ρ1 h1' with
      | nx ρ2 h2' =>
        rw [e2] at q
        exact fun ι2 H2 σ2 E2 S2 n2 l2 => q ι2 H2 σ2 E2 (S1.trans S2) (fun j hj => by
          simp only [List.mem_append, not_or] at hj
          rw [n2 j hj.2, n1 j hj.1]) (l2.trans l1)
      | ex x ρ2 h2' => rw [e2] at q; exact fun ι2 H2 σ2 c d E2 S2 => q ι2 H2 σ2 c d E2 (S1.trans S2)
      | rt r h' => rw [e2] at q; exact q
      | bk ρ' h' => rw [e2] at q; exact q
      | ct ρ' h' => rw [e2] at q; exact q
      | no => rw [e2] at q; exact q
    | ex x ρ2 h2' => rw [e1] at q; exact q
    | rt r h' => rw [e1] at q; exact q
    | bk ρ' h' => rw [e1] at q; exact q
    | ct ρ' h' => rw [e1] at q; exact q
    | no => rw [e1] at q; exact q
def gTupM (n : Nat) (gs : List AV → SM) : AV → SM := fun d ρ h =>
  match d with
  | .tup ds => if ds.length = n then gs ds ρ h else .no
  | .ref p => match h[p]? with
    | some (.lst ds) => if ds.length = n then gs ds ρ h else .no
    | _ => .no
  | _ => .no
theorem pg_either {X : Cx} {tg : Expr} {t u : TG} (a : PG X tg t) (b : PG X tg u) : PG X tg (fun v σ H Q => t v σ H Q ∨ u v σ H Q) := ⟨fun pins s σ H v w Q I r hw => hw.elim (a.run pins s σ H v w Q I r) (b.run pins s σ H v w Q I r)⟩
theorem sim_gtup {es : List Expr} {k : Nat} {gs : List AV → SM} {is : List Nat} (hc : X.calm = true) (q : SimGs X W es gs is) {n : Nat} (hn : (assignEach es X.env).length = n := by rfl) (hst : (assignEach es X.env).findIdx? (·.1) = none := by rfl) :
    SimG X W (.Tuple es k pos) (gTupM n gs) is := by
  obtain ⟨t, p, q⟩ := q
  refine ⟨_, pg_either (pg_tup hc p hn hst) (pg_lst hc p hn hst), fun ι H h σ ρ v d Q E R z => ?_⟩
  unfold gTupM at z
  cases R with
  | tup e r =>
    simp only at z
    split at z
    · rename_i hl
      exact .inl ⟨_, _, rfl, SqT.of e, by rw [r.length]; exact hl, q ι H h σ ρ _ _ Q E r z⟩
    · exact z.elim
  | @ref a n hn =>
    simp only at z
    split at z
    · rename_i ds e1
      split at z
      · rename_i hl
        obtain ⟨us, ea, ra⟩ := E.rel.cell _ _ _ e1 hn
        exact .inr ⟨_, us, rfl, SqL.of ea, by rw [ra.length]; exact hl, q ι H h σ ρ _ _ Q E ra z⟩
      · exact z.elim
    · exact z.elim
  | _ => exact z.elim
/-- a target of another form -/
def sAsg (f : EM AV) (g : AV → SM) : SM := bndS f g
theorem sim_asg {tg : Expr} {g : AV → SM} {is : List Nat} (he : SimE X W e fe) (hg : SimG X W tg g is) (hs : swapsWithSole [tg] e pos.line X.env = pure false := by rfl) (hw : swappedStores [tg] e X.env = pure none := by rfl)
    (h1 : (assignEach [tg] X.env).map (·.2) = [assign tg X.env] := by rfl) : SimS X W (.Assign [tg] e pos) (sAsg fe fun d ρ h => match g d ρ h with | .nx ρ' h' => .nx ρ' h' | .ex e ρ' h' => .ex e ρ' h' | _ => .no) := by
  obtain ⟨t, p, q⟩ := he
  obtain ⟨u, r, hg⟩ := hg
  refine ⟨_, ps_asg p r hs hw h1, fun ι H h σ ρ D E q1 => ?_⟩
  refine q ι H h σ ρ E _ (PstS.split E q1 fun d ι1 H1 h1 v E1 S1 R1 q2 => hg ι1 H1 h1 σ ρ v d _ E1 R1 ?_)
  cases eg : g d ρ h1 with
  | nx ρ' h' => rw [eg] at q2; exact fun ι' H' σ' E' S' _ _ => q2 ι' H' σ' E' (S1.trans S')
  | ex x ρ' h' => rw [eg] at q2; exact fun ι' H' σ' c d E' S' => q2 ι' H' σ' c d E' (S1.trans S')
  | rt r h' => rw [eg] at q2; exact q2
  | bk ρ' h' => rw [eg] at q2; exact q2
  | ct ρ' h' => rw [eg] at q2; exact q2
  | no => rw [eg] at q2; exact q2
end
/-! ### loops -/
structure Sr where
  ds : List AV
  keep : List (Nat × Cell)
def kept (h : AH) (k : List (Nat × Cell)) : Prop := ∀ p ∈ k, h[p.1]? = some p.2
theorem kept_nil {h : AH} : kept h [] := fun _ m => nomatch m
def Fz (H H' : Hp) : Prop := ∀ b o u, H b = some (.frz o u) → H' b = some (.frz o u)
def ItR (K : PySem.W.Frag) (mg : Str → Option Value) (ι : List Addr) (H : Hp) (J : It) (s : Sr) : Prop := ∀ ι' H' h', Kp ι H ι' H' → Fz H H' → Rel K mg ι' H' h' → kept h' s.keep → J.stop s.ds.length H' ∧ ∀ (i : Nat) (d : AV), s.ds[i]? = some d → J.go i H' ∧ ∀ x H'', J.yld i H' x H'' → (∀ b o, H' b = some o → H'' b = some o) ∧ RV K ι' H'' x d
def SimI (X : Cx) (W : WX) (tg iter : Expr) (it : EM Sr) : Prop := ∃ w : TI, PI X tg iter w ∧ ∀ ι H h σ ρ, ER X.K X.mg ι H σ ρ h → ∀ R : It → Hp → Prop, Pst X.K X.mg W ι H σ (fun ι' H' J s => ItR X.K X.mg ι' H' J s) R (it ρ h) → w σ H R
open Classical in
noncomputable def forL (keep : List (Nat × Cell)) (g : AV → SM) (body : SM) : List AV → SM
  | [] => fun ρ h => if kept h keep then .nx ρ h else .no
  | d :: ds => fun ρ h => if kept h keep then
    (match g d ρ h with
    | .nx ρ1 h1 => match body ρ1 h1 with
      | .nx ρ2 h2 => forL keep g body ds ρ2 h2
      | .ct ρ2 h2 => forL keep g body ds ρ2 h2
      | .bk ρ2 h2 => .nx ρ2 h2
      | .rt r h2 => .rt r h2
      | .ex x ρ2 h2 => .ex x ρ2 h2
      | .no => .no
    | .ex x ρ1 h1 => .ex x ρ1 h1
    | _ => .no) else .no
noncomputable def sFor (it : EM Sr) (g : AV → SM) (body : SM) : SM := bndS it fun s => forL s.keep g body s.ds
def whL (c : EM Bool) (body : SM) : Nat → SM
  | 0 => fun _ _ => .no
  | n + 1 => fun ρ h =>
    match c ρ h with
    | .no => .no
    | .ex e h1 => .ex e ρ h1
    | .ok false h1 => .nx ρ h1
    | .ok true h1 => match body ρ h1 with
      | .nx ρ2 h2 => whL c body n ρ2 h2
      | .ct ρ2 h2 => whL c body n ρ2 h2
      | .bk ρ2 h2 => .nx ρ2 h2
      | .rt r h2 => .rt r h2
      | .ex x ρ2 h2 => .ex x ρ2 h2
      | .no => .no
section
variable {X : Cx} {W : WX} {e tg iter : Expr} {body : List Stmt} {fe : EM AV} {gc : EM Bool} {b : SM} {it : EM Sr} {g : AV → SM} {is : List Nat} {pos : Pos}
theorem ItR.kp {K : PySem.W.Frag} {mg : Str → Option Value} {ι ι' : List Addr} {H H' : Hp} {J : It} {s : Sr} (k : Kp ι H ι' H') (f : Fz H H') (q : ItR K mg ι H J s) : ItR K mg ι' H' J s := fun ι2 H2 h2 k2 f2 E kp => q ι2 H2 h2 (k.trans k2) (fun b o u e => f2 b o u (f b o u e)) E kp
theorem sim_for (hp : PassesOwn (model X.prog X.w) X.A X.env X.xe) (hc : X.calm = true) (hi : SimI X W tg iter it) (hg : SimG X W tg g is) (hb : SimB X W body b) (hs : ∀ x, foldedSetIterable iter X.env x = pure x := by intro _; rfl) : SimS X W (.For tg iter body [] pos) (sFor it g b) := by
  obtain ⟨w, pi, hi⟩ := hi
  obtain ⟨tg', pg, hg⟩ := hg
  obtain ⟨tb, pb, hb⟩ := hb
  refine ⟨_, ps_for hp hc pi pg pb hs, fun ι H h σ ρ D E q => ?_⟩
  refine hi ι H h σ ρ E _ (PstS.split (R := fun ι' H' J s => ItR X.K X.mg ι' H' J s) E q fun s ι1 H1 h1 J E1 S1 I1 q1 => ?_)
  obtain ⟨ds, keep⟩ := s
  refine ⟨fun i m σ' H' => m = ds.length - i ∧ i ≤ ds.length ∧ ∃ ι' ρ' h', ER X.K X.mg ι' H' σ' ρ' h' ∧ Stp ι1 H1 ι' H' ∧ PstS X.K X.mg W ι' H' D (forL keep g b (ds.drop i) ρ' h'), ⟨ds.length, by simp, Nat.zero_le _, ι1, ρ, h1, E1, Stp.refl, by simpa using q1.after S1⟩, ?_⟩
  rintro i m σ2 H2 ⟨rfl, hi2, ι2, ρ2, h2, E2, k2, q2⟩
  by_cases hkp : kept h2 keep
  case neg =>
    cases hd : ds.drop i with
    | nil =>
      rw [hd] at q2
      simp only [forL] at q2
      rw [if_neg hkp] at q2
      exact q2.elim
    | cons d r =>
      rw [hd] at q2
      simp only [forL] at q2
      rw [if_neg hkp] at q2
      exact q2.elim
  obtain ⟨hstop, hgo⟩ := I1 ι2 H2 h2 (k2.k E1.rel) k2.fz E2.rel hkp
  by_cases hlt : i < ds.length
  · have hd : ds[i]? = some ds[i] := by simp [hlt]
    obtain ⟨go, yld⟩ := hgo i _ hd
    have hdrop : ds.drop i = ds[i] :: ds.drop (i + 1) := List.drop_eq_getElem_cons hlt
    rw [hdrop] at q2
    simp only [forL] at q2
    rw [if_pos hkp] at q2
    refine .inr ⟨go, fun σ' H' => ∃ ι' ρ' h', ER X.K X.mg ι' H' σ' ρ' h' ∧ Stp ι1 H1 ι' H' ∧ PstS X.K X.mg W ι' H' D (forL keep g b (ds.drop (i + 1)) ρ' h'), fun σ' H' ⟨A', ρ', h', x, y, z⟩ => ⟨ds.length - (i + 1), by omega, rfl, hlt, A', ρ', h', x, y, z⟩, fun x H3 y3 => ?_⟩
    obtain ⟨k3, r3⟩ := yld x H3 y3
    have S3 : Stp ι2 H2 ι2 H3 := Stp.ext k3
    have E3 := E2.stp (E2.rel.ext k3) S3
    refine hg ι2 H3 h2 σ2 ρ2 x ds[i] _ E3 r3 ?_
    cases eg : g ds[i] ρ2 h2 with
    | nx ρ3 h3 =>
      rw [eg] at q2
      intro ι4 H4 σ4 E4 S4 _ _
      have q4 := PstS.after (S3.trans S4) q2
      refine hb ι4 H4 h3 σ4 ρ3 _ E4 ?_
      dsimp only at q4
      cases eb : b ρ3 h3 with
      | nx ρ5 h5 =>
        rw [eb] at q4
        exact fun A' H' σ' E' l => ⟨A', ρ5, h5, E', (k2.trans (S3.trans S4)).trans l, PstS.after l q4⟩
      | ct ρ5 h5 =>
        rw [eb] at q4
        exact fun A' H' σ' E' l => ⟨A', ρ5, h5, E', (k2.trans (S3.trans S4)).trans l, PstS.after l q4⟩
      | bk ρ5 h5 => rw [eb] at q4; exact q4
      | rt r h5 => rw [eb] at q4; exact q4
      | ex x ρ5 h5 => rw [eb] at q4; exact q4
      | no => rw [eb] at q4; exact q4
    | ex x ρ3 h3 =>
      rw [eg] at q2
      exact fun A' H' σ' c d E' l => q2 A' H' σ' c d E' (S3.trans l)
    | rt r h' => rw [eg] at q2; exact q2
    | bk ρ' h' => rw [eg] at q2; exact q2
    | ct ρ' h' => rw [eg] at q2; exact q2
    | no => rw [eg] at q2; exact q2
  · have e : i = ds.length := by omega
    subst e
    refine .inl ⟨hstop, ?_⟩
    rw [List.drop_length] at q2
    simp only [forL] at q2
    rw [if_pos hkp] at q2
    exact q2 ι2 H2 σ2 E2 Stp.refl
theorem sim_while (n : Nat) {c : Expr} (hp : PassesOwn (model X.prog X.w) X.A X.env X.xe) (hc : SimT X W c gc) (hb : SimB X W body b) : SimS X W (.While c body [] pos) (whL gc b n) := by
  obtain ⟨tc, pc, hc⟩ := hc
  obtain ⟨tb, pb, hb⟩ := hb
  refine ⟨_, ps_while hp pc pb, fun ι H h σ ρ D E q => ?_⟩
  refine ⟨fun m σ' H' => ∃ ι' ρ' h', ER X.K X.mg ι' H' σ' ρ' h' ∧ PstS X.K X.mg W ι' H' D (whL gc b m ρ' h'), ⟨n, ι, ρ, h, E, q⟩, ?_⟩
  rintro m σ1 H1 ⟨ι1, ρ1, h1, E1, q1⟩
  cases m with
  | zero => exact q1.elim
  | succ m =>
    simp only [whL] at q1
    refine hc ι1 H1 h1 σ1 ρ1 E1 _ ?_
    cases ec : gc ρ1 h1 with
    | no => rw [ec] at q1; exact q1.elim
    | ex x h2 =>
      rw [ec] at q1
      exact fun A' H' cls d E' S' R' => q1 A' H' σ1 cls d (E1.stp E' S') S' R'
    | ok k h2 =>
      rw [ec] at q1
      intro A2 H2 k' E2 S2 R2
      cases R2
      have q2 := PstS.after S2 q1
      have E3 := E1.stp E2 S2
      cases k with
      | false => exact q2 A2 H2 σ1 E3 Stp.refl
      | true =>
        refine ⟨fun σ' H' => ∃ ι' ρ' h', ER X.K X.mg ι' H' σ' ρ' h' ∧ PstS X.K X.mg W ι' H' D (whL gc b m ρ' h'), fun σ' H' z => ⟨m, Nat.lt_succ_self m, z⟩, ?_⟩
        refine hb A2 H2 h2 σ1 ρ1 _ E3 ?_
        simp only at q2
        cases eb : b ρ1 h2 with
        | nx ρ4 h4 =>
          rw [eb] at q2
          exact fun A' H' σ' E' l => ⟨A', ρ4, h4, E', PstS.after l q2⟩
        | ct ρ4 h4 =>
          rw [eb] at q2
          exact fun A' H' σ' E' l => ⟨A', ρ4, h4, E', PstS.after l q2⟩
        | bk ρ4 h4 => rw [eb] at q2; exact q2
        | rt r h4 => rw [eb] at q2; exact q2
        | ex x ρ4 h4 => rw [eb] at q2; exact q2
        | no => rw [eb] at q2; exact q2
/-! ### what is walked -/
theorem It_list {K : PySem.W.Frag} {mg : Str → Option Value} {ι : List Addr} {H : Hp} {a : Addr} {n : Nat} {ds : List AV} (e : ι[n]? = some a) : ItR K mg ι H (Itl K a) ⟨ds, [(n, .lst ds)]⟩ := by
  intro ι' H' h' k fz E kp
  obtain ⟨xs, hx, r'⟩ := E.cell n _ a (kp (n, .lst ds) (by simp)) (pre_get k.pre e)
  have h' : Rd H' a (.lst xs) := .inl hx
  refine ⟨⟨xs, .inl h', by rw [r'.length]; exact Nat.le_refl _⟩, fun i d hd => ?_⟩
  obtain ⟨x, e, rx⟩ : ∃ x, xs[i]? = some x ∧ RV K ι' H' x d := r'.get hd
  exact ⟨⟨xs, x, .inl h', e⟩, fun y H'' ⟨e2, y2⟩ => by
    subst e2
    have := y2 xs (.inl h')
    rw [e] at this
    cases this
    exact ⟨fun _ _ z => z, rx⟩⟩
theorem It_tup {K : PySem.W.Frag} {mg : Str → Option Value} {ι : List Addr} {H : Hp} {a : Addr} {xs : List V} {ds : List AV} (h : H a = some (.tup xs)) (r : RVs K ι H xs ds) : ItR K mg ι H (Itt K a) ⟨ds, []⟩ := by
  intro ι' H' h' k fz E kp
  have h' := k.tup _ _ h
  have r' := r.kp k
  refine ⟨⟨xs, SqT.of h', by rw [r.length]; exact Nat.le_refl _⟩, fun i d hd => ?_⟩
  obtain ⟨x, e, rx⟩ : ∃ x, xs[i]? = some x ∧ RV K ι' H' x d := r'.get hd
  exact ⟨⟨xs, x, SqT.of h', e⟩, fun y H'' ⟨e2, y2⟩ => by
    subst e2
    have := y2 xs (SqT.of h')
    rw [e] at this
    cases this
    exact ⟨fun _ _ z => z, rx⟩⟩
theorem It_wt {K : PySem.W.Frag} {mg : Str → Option Value} {ι : List Addr} {H : Hp} {a : Addr} {xs : List V} {ds : List AV} (h : WrT K a xs) (r : RVs K ι H xs ds) : ItR K mg ι H (Itt K a) ⟨ds, []⟩ := by
  intro ι' H' h' k fz E kp
  have r' := r.kp k
  refine ⟨⟨xs, h H', by rw [r.length]; exact Nat.le_refl _⟩, fun i d hd => ?_⟩
  obtain ⟨x, e, rx⟩ : ∃ x, xs[i]? = some x ∧ RV K ι' H' x d := r'.get hd
  exact ⟨⟨xs, x, h H', e⟩, fun y H'' ⟨e2, y2⟩ => by
    subst e2
    have := y2 xs (h _)
    rw [e] at this
    cases this
    exact ⟨fun _ _ z => z, rx⟩⟩
def rngA (lo : Int) (n : Nat) : List AV := List.map (fun (i : Nat) => AV.int (lo + (i : Int))) (List.range n)
theorem It_rng {K : PySem.W.Frag} {mg : Str → Option Value} {ι : List Addr} {H : Hp} (lo : Int) (n : Nat) : ItR K mg ι H (Itr lo n) ⟨rngA lo n, []⟩ := by
  intro ι' H' h' k fz E kp
  refine ⟨by show n ≤ _; simp [rngA], fun i d hd => ?_⟩
  simp only [rngA] at hd
  rw [List.getElem?_map] at hd
  cases e : (List.range n)[i]? with
  | none => rw [e] at hd; cases hd
  | some j =>
    rw [e] at hd
    cases hd
    obtain ⟨h1, h2⟩ := List.getElem?_eq_some_iff.mp e
    have h3 : i < n := by simpa using h1
    have h4 : i = j := by simpa using h2
    subst h4
    exact ⟨h3, fun y H'' ⟨e1, e2⟩ => by subst e1 e2; exact ⟨fun _ _ z => z, .int _⟩⟩
/-- the items of a list or a tuple -/
def srOf : AV → EM Sr := fun d _ h =>
  match d with
  | .tup ds => .ok ⟨ds, []⟩ h
  | .wt ds => .ok ⟨ds, []⟩ h
  | .ref n => match h[n]? with
    | some (.lst ds) => .ok ⟨ds, [(n, .lst ds)]⟩ h
    | _ => .no
  | _ => .no
def iSeqM (f : EM AV) : EM Sr := bnd f srOf
theorem sim_iseq (q : SimE X W e fe) : SimI X W tg e (iSeqM fe) := by
  obtain ⟨t, p, q⟩ := q
  refine ⟨_, DP.pi_seq p, fun ι H h σ ρ E R hp => ?_⟩
  refine q ι H h σ ρ E _ (hp.split fun r ι1 H1 h1 v E1 S1 R1 q1 => ?_)
  unfold srOf at q1
  cases R1 with
  | tup ht r => exact ⟨_, rfl, .inr ⟨⟨_, SqT.of ht⟩, q1 ι1 H1 _ E1 S1 (It_tup ht r)⟩⟩
  | @ref a n hr =>
    dsimp only at q1
    split at q1
    · rename_i ds e1
      obtain ⟨vs, e2, r⟩ := E1.cell n _ _ e1 hr
      exact ⟨_, rfl, .inl ⟨⟨_, SqL.of e2⟩, q1 ι1 H1 _ E1 S1 (It_list hr)⟩⟩
    · exact q1.elim
  | non => exact q1.elim
  | bl b => exact q1.elim
  | int b => exact q1.elim
  | str b => exact q1.elim
  | scr _ => exact q1.elim
  | wt hw r => exact ⟨_, rfl, .inr ⟨⟨_, hw H1⟩, q1 ι1 H1 _ E1 S1 (It_wt hw r)⟩⟩
def rng1 : List AV → EM Sr
  | [.int j] => if DP.in62 j = true then retM ⟨rngA 0 j.toNat, []⟩ else noM
  | _ => noM
def rng2 : List AV → EM Sr
  | [.int i, .int j] => if (DP.in62 i && DP.in62 j) = true then retM ⟨rngA i (j - i).toNat, []⟩ else noM
  | _ => noM
def iRng1M (f : EM (List AV)) : EM Sr := bnd f rng1
def iRng2M (f : EM (List AV)) : EM Sr := bnd f rng2
theorem RVs.one {K : PySem.W.Frag} {ι : List Addr} {H : Hp} {vs : List V} {d : AV} (h : RVs K ι H vs [d]) : ∃ v, vs = [v] ∧ RV K ι H v d := by
  cases h with
  | cons r h => cases h; exact ⟨_, rfl, r⟩
theorem RVs.two {K : PySem.W.Frag} {ι : List Addr} {H : Hp} {vs : List V} {d d' : AV} (h : RVs K ι H vs [d, d']) : ∃ v w, vs = [v, w] ∧ RV K ι H v d ∧ RV K ι H w d' := by
  cases h with
  | cons r h =>
    obtain ⟨w, rfl, q⟩ := h.one
    exact ⟨_, w, rfl, r, q⟩
theorem RV.int' {K : PySem.W.Frag} {ι : List Addr} {H : Hp} {v : V} {i : Int} (r : RV K ι H v (.int i)) : v = .int i := by cases r; rfl
theorem RV.bl' {K : PySem.W.Frag} {ι : List Addr} {H : Hp} {v : V} {i : Bool} (r : RV K ι H v (.bl i)) : v = .bl i := by cases r; rfl
theorem RV.str' {K : PySem.W.Frag} {ι : List Addr} {H : Hp} {v : V} {i : Str} (r : RV K ι H v (.str i)) : v = .str i := by cases r; rfl
theorem RV.non' {K : PySem.W.Frag} {ι : List Addr} {H : Hp} {v : V} (r : RV K ι H v .non) : v = .non := by cases r; rfl
theorem RV.tup' {K : PySem.W.Frag} {ι : List Addr} {H : Hp} {v : V} {ds : List AV} (r : RV K ι H v (.tup ds)) : ∃ a xs, v = .ref a ∧ H a = some (.tup xs) ∧ RVs K ι H xs ds := by
  cases r with
  | tup e r => exact ⟨_, _, rfl, e, r⟩
theorem RV.ref' {K : PySem.W.Frag} {ι : List Addr} {H : Hp} {v : V} {n : Nat} (r : RV K ι H v (.ref n)) : ∃ a, v = .ref a ∧ ι[n]? = some a := by
  cases r with
  | ref e => exact ⟨_, rfl, e⟩
theorem Rel.lst {K : PySem.W.Frag} {mg : Str → Option Value} {ι : List Addr} {H : Hp} {h : AH} {v : V} {n : Nat} {xs : List AV} (E : Rel K mg ι H h) (r : RV K ι H v (.ref n)) (e : h[n]? = some (.lst xs)) : ∃ a vs, v = .ref a ∧ ι[n]? = some a ∧ H a = some (.lst vs) ∧ RVs K ι H vs xs := by
  obtain ⟨a, rfl, e2⟩ := r.ref'
  obtain ⟨vs, e3, r⟩ := E.cell n _ a e e2
  exact ⟨a, vs, rfl, e2, e3, r⟩
theorem Rel.dic {K : PySem.W.Frag} {mg : Str → Option Value} {ι : List Addr} {H : Hp} {h : AH} {v : V} {n : Nat} {xs : List (Key × AV)} (E : Rel K mg ι H h) (r : RV K ι H v (.ref n)) (e : h[n]? = some (.dic xs)) : ∃ a us, v = .ref a ∧ ι[n]? = some a ∧ H a = some (.dK us) ∧ RKs K ι H us xs := by
  obtain ⟨a, rfl, e2⟩ := r.ref'
  obtain ⟨vs, e3, r⟩ := E.cell n _ a e e2
  exact ⟨a, vs, rfl, e2, e3, r⟩
theorem sim_irng1 {a : Expr} {fs : EM (List AV)} {p : Pos} (hg : Gl X "range") (hm : X.mg "range" = none) (ha : SimA X W [a] fs) (hs : starEach [a] X.env = [(false, eval a X.env)] := by rfl) : SimI X W tg (.Call (.Name "range" p) [a] [] pos) (iRng1M fs) := by
  obtain ⟨t, pa, q⟩ := ha
  refine ⟨_, pi_range1 hg hm pa hs, fun ι H h σ ρ E R hp => ?_⟩
  refine q ι H h σ ρ E _ (hp.split fun ds ι1 H1 h1 vs E1 S1 R1 q1 => ?_)
  unfold rng1 at q1
  split at q1
  · rename_i j
    obtain ⟨v, rfl, r⟩ := R1.one
    split at q1
    · rename_i hb
      have hb' := of_decide_eq_true hb
      exact ⟨j, by rw [r.int'], hb'.1, hb'.2, q1 ι1 H1 _ E1 S1 (It_rng 0 _)⟩
    · exact q1.elim
  · exact q1.elim
theorem sim_irng2 {a b : Expr} {fs : EM (List AV)} {p : Pos} (hg : Gl X "range") (hm : X.mg "range" = none) (ha : SimA X W [a, b] fs) (hs : starEach [a, b] X.env = [(false, eval a X.env), (false, eval b X.env)] := by rfl) (hs2 : starEach [b] X.env = [(false, eval b X.env)] := by rfl) : SimI X W tg (.Call (.Name "range" p) [a, b] [] pos) (iRng2M fs) := by
  obtain ⟨t, pa, q⟩ := ha
  refine ⟨_, pi_range2 hg hm pa hs hs2, fun ι H h σ ρ E R hp => ?_⟩
  refine q ι H h σ ρ E _ (hp.split fun ds ι1 H1 h1 vs E1 S1 R1 q1 => ?_)
  unfold rng2 at q1
  split at q1
  · rename_i i j
    obtain ⟨v, w, rfl, r, r2⟩ := R1.two
    split at q1
    · rename_i hb
      have hb' := (Bool.and_eq_true_iff.mp hb)
      have h5 := of_decide_eq_true hb'.1
      have h6 := of_decide_eq_true hb'.2
      exact ⟨i, j, by rw [r.int', r2.int'], ⟨h5.1, h5.2, h6.1, h6.2⟩, q1 ι1 H1 _ E1 S1 (It_rng i _)⟩
    · exact q1.elim
  · exact q1.elim
end
end HL
/-! HLD: comprehensions. -/
namespace HL
open PySem L2
abbrev noW : WX := fun _ _ _ _ => False
/-- as Stp, but for the object at D -/
structure StpD (D : Addr) (ι : List Addr) (H : Hp) (ι' : List Addr) (H' : Hp) : Prop where
  pre : ι <+: ι'
  kp : ∀ b o, b ≠ D → H b = some o → b ∉ ι → H' b = some o
  grow : ∀ a, a ∈ ι' → a ∈ ι ∨ H a = none
  live : ∀ b, H' b = none → H b = none
  fz : ∀ b o u, H b = some (.frz o u) → H' b = some (.frz o u)
def wipeE (ρ : Env) : List Nat → Env
  | [] => ρ
  | v :: vs => (wipeE ρ vs).set v none
section
variable {K : PySem.W.Frag} {mg : Str → Option Value} {W : WX} {ι ι' ι'' : List Addr} {H H' H'' : Hp} {h h' : AH} {D a p : Addr} {c : Cell} {v : V} {d : AV} {n : Nat} {σ : L2.St} {ρ : Env} {vs : List Nat}
theorem Stp.toD (s : Stp ι H ι' H') : StpD D ι H ι' H' := ⟨s.pre, fun b o _ e n => s.kp b o e n, s.grow, s.live, s.fz⟩
theorem StpD.trans (s : StpD D ι H ι' H') (t : StpD D ι' H' ι'' H'') : StpD D ι H ι'' H'' := by
  refine ⟨s.pre.trans t.pre, fun b o hb e n => t.kp b o hb (s.kp b o hb e n) fun z => ?_, fun a z => ?_, fun b e => s.live b (t.live b e), fun b o u e => t.fz b o u (s.fz b o u e)⟩
  · rcases s.grow b z with q | q
    · exact n q
    · rw [q] at e; cases e
  · rcases t.grow a z with q | q
    · exact s.grow a q
    · exact .inr (s.live a q)
theorem StpD.stp (s : StpD D ι H ι' H') (hD : H D = none) : Stp ι H ι' H' := ⟨s.pre, fun b o e n => s.kp b o (fun z => by rw [z, hD] at e; cases e) e n, s.grow, s.live, s.fz⟩
theorem StpD.k (s : StpD D ι H ι' H') (E : Rel K mg ι H h) (hc : isCell (H D)) : Kp ι H ι' H' :=
  ⟨s.pre, fun a xs e => s.kp a _ (fun z => by rw [z] at e; rw [e] at hc; exact hc) e (E.notup e), fun a o u n e => s.kp a _ (fun z => by rw [z] at e; rw [e] at hc; exact noDK_is n hc) e (E.nofrz n e)⟩
/-- the object at D, which is no cell, is changed -/
theorem Rel.other (E : Rel K mg ι H h) {o : HO} (hD : D ∉ ι) (hc : isCell (H D)) (hz : ∀ o u, H D ≠ some (.frz o u)) : Rel K mg ι (upd H D o) h ∧ StpD D ι H ι (upd H D o) ∧ Kp ι H ι (upd H D o) := by
  have S : StpD D ι H ι (upd H D o) := ⟨List.prefix_refl _, fun b u hb e _ => by rw [upd_ne hb]; exact e, fun _ z => .inl z, fun b e => by
    by_cases hb : b = D
    · subst hb; rw [upd_same] at e; cases e
    · rw [upd_ne hb] at e; exact e, fun b o u e => by
    have hb : b ≠ D := fun z => hz o u (z ▸ e)
    rw [upd_ne hb]; exact e⟩
  have k := S.k E hc
  refine ⟨⟨E.len, E.nd, fun n c a e1 e2 => (E.cell n c a e1 e2).kp k ?_⟩, S, k⟩
  rw [upd_ne]
  rintro rfl
  exact hD (List.mem_of_getElem? e2)
/-- an object that was laid aside becomes a cell -/
theorem Rel.adopt (E : Rel K mg ι H h) (hD : D ∉ ι) (hc : CellR K mg (ι ++ [D]) H D c) : Rel K mg (ι ++ [D]) H (h ++ [c]) := by
  refine ⟨by simp [E.len], ?_, fun n d a e1 e2 => ?_⟩
  · rw [List.nodup_append]
    refine ⟨E.nd, by simp, fun a ha b hb => ?_⟩
    rw [List.mem_singleton] at hb
    subst hb
    exact fun z => hD (z ▸ ha)
  · by_cases hn : n < h.length
    · rw [List.getElem?_append_left hn] at e1
      rw [List.getElem?_append_left (by rw [E.len]; exact hn)] at e2
      exact (E.cell n d a e1 e2).kp ⟨List.prefix_append _ _, fun _ _ e => e, fun _ _ _ _ e => e⟩ rfl
    · have h1 := (List.getElem?_eq_some_iff.mp e1).1
      rw [List.length_append, List.length_singleton] at h1
      have hn' : n = h.length := by omega
      subst hn'
      rw [List.getElem?_append_right (Nat.le_refl _)] at e1
      rw [← E.len, List.getElem?_append_right (Nat.le_refl _)] at e2
      simp at e1 e2
      subst e1 e2
      exact hc
theorem wipeE_len (ρ : Env) : ∀ vs : List Nat, (wipeE ρ vs).length = ρ.length
  | [] => rfl
  | v :: vs => by unfold wipeE; rw [List.length_set, wipeE_len ρ vs]
theorem wipeE_out {i : Nat} : ∀ {vs : List Nat}, i ∉ vs → (wipeE ρ vs)[i]? = ρ[i]?
  | [], _ => rfl
  | v :: vs, h => by
    simp only [List.mem_cons, not_or] at h
    unfold wipeE
    rw [List.getElem?_set_ne (fun e => h.1 e.symm), wipeE_out h.2]
theorem wipeE_in {i : Nat} {s : AV} : ∀ {vs : List Nat}, i ∈ vs → (wipeE ρ vs)[i]? ≠ some (some s)
  | v :: vs, h => by
    unfold wipeE
    by_cases e : v = i
    · subst e
      by_cases hl : v < (wipeE ρ vs).length
      · rw [List.getElem?_set_self hl]; intro z; cases z
      · rw [List.getElem?_eq_none (by simpa using hl)]; intro z; cases z
    · rw [List.getElem?_set_ne e]
      rcases List.mem_cons.mp h with h | h
      · exact absurd h.symm e
      · exact wipeE_in h
theorem ER.wipe (E : ER K mg ι H σ ρ h) : ER K mg ι H (L2.wipe σ vs) (wipeE ρ vs) h := by
  refine ⟨E.rel, by rw [wipe_length, wipeE_len, E.slen], fun i s e => ?_⟩
  by_cases hi : i ∈ vs
  · exact absurd e (wipeE_in hi)
  · rw [wipeE_out hi] at e
    rw [DP.wipe_out hi]
    exact E.slot i s e
end
/-- a clause's turns: acc what is gathered -/
noncomputable def compG {β : Type} (keep : List (Nat × Cell)) (g : AV → SM) (cond : EM Bool) (inner : Env → β → AH → RR β) (ρ : Env) : List AV → β → AH → RR β
  | [], acc, h => open Classical in if kept h keep then .ok acc h else .no
  | d :: ds, acc, h => open Classical in if kept h keep then
      match g d ρ h with
      | .nx ρ1 h1 => match cond ρ1 h1 with
        | .ok true h2 => match inner ρ1 acc h2 with
          | .ok acc' h3 => compG keep g cond inner ρ ds acc' h3
          | _ => .no
        | .ok false h2 => compG keep g cond inner ρ ds acc h2
        | _ => .no
      | _ => .no
    else .no
section
variable {K : PySem.W.Frag} {mg : Str → Option Value} {vs is : List Nat} {g : AV → SM} {cond : EM Bool} {tg : TG} {tt : TT} {β : Type} {inner : Env → β → AH → RR β} {D : Addr} {J : It} {s : Sr} {ι1 : List Addr} {H1 : Hp} {h1 : AH} {σ : L2.St} {ρ : Env}
theorem loopG {P : β → List Addr → Hp → Prop} (hP : ∀ acc ι H, P acc ι H → D ∉ ι ∧ isCell (H D)) (hS : ∀ acc ι H ι' H', P acc ι H → Stp ι H ι' H' → Kp ι H ι' H' → P acc ι' H')
    (hg : RunG K mg noW is tg g) (his : ∀ i ∈ is, i ∈ vs) (ht : RunT K mg noW tt cond) (I1 : ItR K mg ι1 H1 J s) (E1 : ER K mg ι1 H1 (L2.wipe σ vs) (wipeE ρ vs) h1) {BODY : (Hp → Prop) → L2.St → Hp → Prop}
    (hb : ∀ (Nx : Hp → Prop) ι H h σ2 ρ1 acc acc' h', ER K mg ι H σ2 ρ1 h → P acc ι H → inner ρ1 acc h = .ok acc' h' → (∀ ι' H', Rel K mg ι' H' h' → StpD D ι H ι' H' → P acc' ι' H' → Nx H') → BODY Nx σ2 H)
    {acc0 accF : β} {hF : AH} (p0 : P acc0 ι1 H1) (ec : compG s.keep g cond inner (wipeE ρ vs) s.ds acc0 h1 = .ok accF hF) {Fin : Hp → Prop} (hfin : ∀ ι' H', Rel K mg ι' H' hF → StpD D ι1 H1 ι' H' → P accF ι' H' → Fin H') :
    ∃ Wv : Nat → Nat → Hp → Prop, (∃ m, Wv 0 m H1) ∧ ∀ i m H, Wv i m H → (J.stop i H ∧ Fin H) ∨ (J.go i H ∧ ∃ Nx : Hp → Prop, (∀ H', Nx H' → ∃ m', m' < m ∧ Wv (i + 1) m' H') ∧ ∀ x H', J.yld i H x H' → tg x (L2.wipe σ vs) H' fun σ2 H2 => L2.wipe σ2 vs = L2.wipe σ vs ∧ tt σ2 H2 fun b H3 => if b = true then BODY Nx σ2 H3 else Nx H3) := by
  obtain ⟨ds, keep⟩ := s
  refine ⟨fun i m H' => m = ds.length - i ∧ i ≤ ds.length ∧ ∃ ι' h' acc, ER K mg ι' H' (L2.wipe σ vs) (wipeE ρ vs) h' ∧ StpD D ι1 H1 ι' H' ∧ P acc ι' H' ∧ compG keep g cond inner (wipeE ρ vs) (ds.drop i) acc h' = .ok accF hF,
    ⟨ds.length, by simp, Nat.zero_le _, ι1, h1, acc0, E1, ⟨List.prefix_refl _, fun _ _ _ e _ => e, fun _ z => .inl z, fun _ e => e, fun _ _ _ e => e⟩, p0, by simpa using ec⟩, ?_⟩
  rintro i m H2 ⟨rfl, hi2, ι2, h2, acc, E2, S2, P2, ec2⟩
  have k2 : Kp ι1 H1 ι2 H2 := S2.k E1.rel (hP _ _ _ p0).2
  by_cases hkp : kept h2 keep
  case neg =>
    cases hd : ds.drop i with
    | nil =>
      rw [hd] at ec2
      simp only [compG] at ec2
      rw [if_neg hkp] at ec2
      cases ec2
    | cons d r =>
      rw [hd] at ec2
      simp only [compG] at ec2
      rw [if_neg hkp] at ec2
      cases ec2
  obtain ⟨hstop, hgo⟩ := I1 ι2 H2 h2 k2 S2.fz E2.rel hkp
  by_cases hlt : i < ds.length
  · have hd : ds[i]? = some ds[i] := by simp [hlt]
    obtain ⟨go, yld⟩ := hgo i _ hd
    rw [List.drop_eq_getElem_cons hlt] at ec2
    simp only [compG] at ec2
    rw [if_pos hkp] at ec2
    refine .inr ⟨go, fun H' => ∃ ι' h' acc, ER K mg ι' H' (L2.wipe σ vs) (wipeE ρ vs) h' ∧ StpD D ι1 H1 ι' H' ∧ P acc ι' H' ∧ compG keep g cond inner (wipeE ρ vs) (ds.drop (i + 1)) acc h' = .ok accF hF, fun H' z => ⟨ds.length - (i + 1), by omega, rfl, hlt, z⟩, fun x H3 y3 => ?_⟩
    obtain ⟨k3, r3⟩ := yld x H3 y3
    have S3 : Stp ι2 H2 ι2 H3 := Stp.ext k3
    have E3 := E2.stp (E2.rel.ext k3) S3
    have P3 := hS _ _ _ _ _ P2 S3 (Kp.ext k3)
    refine hg ι2 H3 h2 (L2.wipe σ vs) (wipeE ρ vs) x ds[i] _ E3 r3 ?_
    cases eg : g ds[i] (wipeE ρ vs) h2 with
    | nx ρ4 h4 =>
      rw [eg] at ec2
      dsimp only at ec2
      intro ι4 H4 σ4 E4 S4 n4 l4
      have ww : L2.wipe σ4 vs = L2.wipe σ vs := by
        rw [← DP.wipe_wipe (σ := σ)]
        exact DP.wipe_eq (fun j hj => n4 j fun z => hj (his j z)) l4
      refine ⟨ww, ?_⟩
      have P4 := hS _ _ _ _ _ P3 S4 (S4.k E3.rel)
      have S24 : StpD D ι1 H1 ι4 H4 := S2.trans (S3.trans S4).toD
      refine ht ι4 H4 h4 σ4 ρ4 E4 _ ?_
      cases et : cond ρ4 h4 with
      | no => rw [et] at ec2; cases ec2
      | ex x h5 => rw [et] at ec2; cases ec2
      | ok b h5 =>
        rw [et] at ec2
        intro ι5 H5 b' E5 S5 R5
        cases R5
        have P5 := hS _ _ _ _ _ P4 S5 (S5.k E4.rel)
        have S25 := S24.trans S5.toD
        have EW : ∀ {ι : List Addr} {H : Hp} {h : AH}, Rel K mg ι H h → Kp ι4 H4 ι H → ER K mg ι H (L2.wipe σ vs) (wipeE ρ vs) h := fun {ι H h} R kk => by
          refine ⟨R, E2.slen, fun j t e => ?_⟩
          obtain ⟨v, e1, r⟩ := E3.slot j t e
          exact ⟨v, e1, (r.kp (S4.k E3.rel)).kp kk⟩
        cases b with
        | false =>
          rw [if_neg (by simp)]
          exact ⟨ι5, h5, acc, EW E5 (S5.k E4.rel), S25, P5, ec2⟩
        | true =>
          rw [if_pos rfl]
          dsimp only at ec2
          cases ee : inner ρ4 acc h5 with
          | no => rw [ee] at ec2; cases ec2
          | ex x h6 => rw [ee] at ec2; cases ec2
          | ok acc' h6 =>
            rw [ee] at ec2
            refine hb _ ι5 H5 h5 σ4 ρ4 acc acc' h6 (E4.stp E5 S5) P5 ee fun ι6 H6 E6 S6 P6 => ?_
            exact ⟨ι6, h6, acc', EW E6 ((S5.k E4.rel).trans (S6.k E5 (hP _ _ _ P5).2)), S25.trans S6, P6, ec2⟩
    | ex x ρ4 h4 => rw [eg] at ec2; cases ec2
    | rt r h' => rw [eg] at ec2; cases ec2
    | bk ρ' h' => rw [eg] at ec2; cases ec2
    | ct ρ' h' => rw [eg] at ec2; cases ec2
    | no => rw [eg] at ec2; cases ec2
  · have e : i = ds.length := by omega
    subst e
    refine .inl ⟨hstop, ?_⟩
    rw [List.drop_length] at ec2
    simp only [compG] at ec2
    rw [if_pos hkp] at ec2
    cases ec2
    exact hfin ι2 H2 E2.rel S2 P2
end
/-! ### lists -/
def PLst (K : PySem.W.Frag) (D : Addr) (acc : List AV) (ι : List Addr) (H : Hp) : Prop := D ∉ ι ∧ ∃ us, H D = some (.lst us) ∧ RVs K ι H us acc
def inLst (elt : EM AV) : Env → List AV → AH → RR (List AV) := fun ρ acc h =>
  match elt ρ h with
  | .ok y h' => if DP.smallL acc.length = true then .ok (acc ++ [y]) h' else .no
  | _ => .no
/-- [elt for g in it if cond], own names at the slots vs -/
noncomputable def eComp (it : EM Sr) (g : AV → SM) (vs : List Nat) (cond : EM Bool) (elt : EM AV) : EM AV := bnd it fun s ρ h =>
  match compG s.keep g cond (inLst elt) (wipeE ρ vs) s.ds [] h with
  | .ok acc h' => .ok (.ref h'.length) (h' ++ [.lst acc])
  | _ => .no
noncomputable def inFor {β : Type} (it : EM Sr) (g : AV → SM) (vs : List Nat) (cond : EM Bool) (inner : Env → β → AH → RR β) : Env → β → AH → RR β := fun ρ acc h =>
  match it ρ h with
  | .ok s h' => compG s.keep g cond inner (wipeE ρ vs) s.ds acc h'
  | _ => .no
/-- [elt for g in it if cond for g1 in it1 if cond1] -/
noncomputable def eComp2 (it : EM Sr) (g : AV → SM) (vs : List Nat) (cond : EM Bool) (it1 : EM Sr) (g1 : AV → SM) (vs1 : List Nat) (cond1 : EM Bool) (elt : EM AV) : EM AV := bnd it fun s ρ h =>
  match compG s.keep g cond (inFor it1 g1 vs1 cond1 (inLst elt)) (wipeE ρ vs) s.ds [] h with
  | .ok acc h' => .ok (.ref h'.length) (h' ++ [.lst acc])
  | _ => .no
def SimTs (X : Cx) (ifs : List Expr) (f : EM Bool) : Prop := ∃ t : TT, PTs X ifs t ∧ RunT X.K X.mg noW t f
theorem sim_tsnil {X : Cx} : SimTs X [] (retM true) := ⟨_, pts_nil, fun ι H h σ ρ E Q q => q ι H true E.rel Stp.refl rfl⟩
theorem sim_tsone {X : Cx} {c : Expr} {f : EM Bool} (q : SimT X noW c f) : SimTs X [c] f := by
  obtain ⟨t, p, q⟩ := q
  exact ⟨_, pts_one p, q⟩
def RunI (K : PySem.W.Frag) (mg : Str → Option Value) (W : WX) (w : TI) (it : EM Sr) : Prop := ∀ ι H h σ ρ, ER K mg ι H σ ρ h → ∀ R : It → Hp → Prop, Pst K mg W ι H σ (fun ι' H' J s => ItR K mg ι' H' J s) R (it ρ h) → w σ H R
section
variable {K : PySem.W.Frag} {mg : Str → Option Value} {W : WX} {vs vs1 is is1 : List Nat} {it it1 : EM Sr} {g g1 : AV → SM} {cond cond1 : EM Bool} {elt : EM AV} {wi wi1 : TI} {tg tg1 : TG} {tt tt1 : TT} {te : TE} {D : Addr}
theorem PLst.p (acc : List AV) (ι : List Addr) (H : Hp) (q : PLst K D acc ι H) : D ∉ ι ∧ isCell (H D) := by
  obtain ⟨a, us, e, _⟩ := q
  exact ⟨a, by rw [e]; trivial⟩
theorem PLst.s (acc : List AV) (ι : List Addr) (H : Hp) (ι' : List Addr) (H' : Hp) (q : PLst K D acc ι H) (S : Stp ι H ι' H') (k : Kp ι H ι' H') : PLst K D acc ι' H' := by
  obtain ⟨a, us, e, r⟩ := q
  refine ⟨fun z => ?_, us, S.kp D _ e a, r.kp k⟩
  rcases S.grow D z with q | q
  · exact a q
  · rw [e] at q; cases q
theorem body_lst (he : RunE K mg noW te elt) (Nx : Hp → Prop) (ι : List Addr) (H : Hp) (h : AH) (σ2 : L2.St) (ρ1 : Env) (acc acc' : List AV) (h' : AH) (E : ER K mg ι H σ2 ρ1 h) (P : PLst K D acc ι H) (e : inLst elt ρ1 acc h = .ok acc' h') (hn : ∀ ι' H', Rel K mg ι' H' h' → StpD D ι H ι' H' → PLst K D acc' ι' H' → Nx H') :
    te σ2 H fun y H4 => ∃ acc, H4 D = some (.lst acc) ∧ acc.length < sizeLine ∧ Nx (upd H4 D (.lst (acc ++ [y]))) := by
  unfold inLst at e
  refine he ι H h σ2 ρ1 E _ ?_
  cases ee : elt ρ1 h with
  | no => rw [ee] at e; cases e
  | ex x h6 => rw [ee] at e; cases e
  | ok y h6 =>
    rw [ee] at e
    dsimp only at e
    split at e
    · rename_i hz
      cases e
      intro ι4 H4 u E4 S4 R4
      have P4 := PLst.s acc _ _ _ _ P S4 (S4.k E.rel)
      obtain ⟨dD, us, hD, r⟩ := P4
      have hc : isCell (H4 D) := by rw [hD]; trivial
      obtain ⟨E5, S5, k5⟩ := E4.other (o := .lst (us ++ [u])) dD hc (fun o u z => by rw [hD] at z; cases z)
      exact ⟨us, hD, by rw [r.length]; exact DP.smallL_lt hz, hn ι4 _ E5 (S4.toD.trans S5) ⟨dD, us ++ [u], upd_same, (r.kp k5).snoc (R4.kp k5)⟩⟩
    · cases e
theorem lc_fin {ι : List Addr} {H : Hp} {h hF : AH} {acc : List AV} {Q : VK} {ι' : List Addr} {H' : Hp} (hD : H D = none) (E' : Rel K mg ι' H' hF) (S' : Stp ι H ι' H') (P' : PLst K D acc ι' H') (q : ∀ ι' H' u, Rel K mg ι' H' (hF ++ [.lst acc]) → Stp ι H ι' H' → RV K ι' H' u (.ref hF.length) → Q u H') : Q (.ref D) H' := by
  obtain ⟨dD, us, e, r⟩ := P'
  have A := E'.adopt (c := .lst acc) dD ⟨us, e, r.kp ⟨List.prefix_append _ _, fun _ _ e => e, fun _ _ _ _ e => e⟩⟩
  refine q (ι' ++ [D]) H' (.ref D) A ⟨S'.pre.trans (List.prefix_append _ _), S'.kp, fun a m => ?_, S'.live, S'.fz⟩ (.ref ?_)
  · rcases List.mem_append.mp m with m | m
    · exact S'.grow a m
    · rw [List.mem_singleton] at m
      rw [m]
      exact .inr hD
  · rw [← E'.len, List.getElem?_append_right (Nat.le_refl _)]
    simp
theorem start_D {ι : List Addr} {H : Hp} {h : AH} {σ : L2.St} {ρ : Env} (E : ER K mg ι H σ ρ h) (hD : H D = none) {o : HO} : ER K mg ι (upd H D o) (L2.wipe σ vs) (wipeE ρ vs) h := (E.stp (E.rel.ext (ext_of hD)) (Stp.ext (ext_of hD))).wipe
theorem lc_run (hi : RunI K mg W wi it) (hg : RunG K mg noW is tg g) (his : ∀ i ∈ is, i ∈ vs) (ht : RunT K mg noW tt cond) (he : RunE K mg noW te elt) : RunE K mg W (tLc wi tg tt te vs) (eComp it g vs cond elt) := by
  intro ι H h σ ρ E Q q
  refine hi ι H h σ ρ E _ (q.split (R1 := fun ι' H' J s => ItR K mg ι' H' J s) fun s ι1 H1 h1 J E1 S1 I1 q1 => ?_)
  intro D hD
  cases ec : compG s.keep g cond (inLst elt) (wipeE ρ vs) s.ds [] h1 with
  | no => rw [ec] at q1; exact q1.elim
  | ex x h' => rw [ec] at q1; exact q1.elim
  | ok accF hF =>
    rw [ec] at q1
    refine loopG (D := D) (P := PLst K D) (ρ := ρ) PLst.p PLst.s hg his ht (I1.kp (Kp.ext (ext_of hD)) fun b o u e => ext_of hD b _ e) (start_D (E.stp E1 S1) hD) (body_lst he) ⟨E1.free hD, [], upd_same, .nil⟩ ec fun ι' H' E' S' P' => ?_
    have hD0 : H D = none := S1.live D hD
    have S0 : Stp ι H ι' H' := S1.trans ((((Stp.ext (ext_of hD)).toD).trans S' : StpD D ι1 H1 ι' H').stp hD)
    exact lc_fin (h := h) hD0 E' S0 P' q1
theorem lc2_run (hi : RunI K mg W wi it) (hg : RunG K mg noW is tg g) (his : ∀ i ∈ is, i ∈ vs) (ht : RunT K mg noW tt cond) (hi1 : RunI K mg noW wi1 it1) (hg1 : RunG K mg noW is1 tg1 g1) (his1 : ∀ i ∈ is1, i ∈ vs1) (ht1 : RunT K mg noW tt1 cond1) (he : RunE K mg noW te elt) :
    RunE K mg W (tLc2 wi tg tt wi1 tg1 tt1 te vs vs1) (eComp2 it g vs cond it1 g1 vs1 cond1 elt) := by
  intro ι H h σ ρ E Q q
  refine hi ι H h σ ρ E _ (q.split (R1 := fun ι' H' J s => ItR K mg ι' H' J s) fun s ι1 H1 h1 J E1 S1 I1 q1 => ?_)
  intro D hD
  cases ec : compG s.keep g cond (inFor it1 g1 vs1 cond1 (inLst elt)) (wipeE ρ vs) s.ds [] h1 with
  | no => rw [ec] at q1; exact q1.elim
  | ex x h' => rw [ec] at q1; exact q1.elim
  | ok accF hF =>
    rw [ec] at q1
    refine loopG (D := D) (P := PLst K D) (ρ := ρ) PLst.p PLst.s hg his ht (I1.kp (Kp.ext (ext_of hD)) fun b o u e => ext_of hD b _ e) (start_D (E.stp E1 S1) hD) (fun Nx ι H h σ2 ρ1 acc acc' h' E P e hn => ?_) ⟨E1.free hD, [], upd_same, .nil⟩ ec fun ι' H' E' S' P' => ?_
    · unfold inFor at e
      refine hi1 ι H h σ2 ρ1 E _ ?_
      cases ei : it1 ρ1 h with
      | no => rw [ei] at e; cases e
      | ex x h' => rw [ei] at e; cases e
      | ok s1 h5 =>
        rw [ei] at e
        intro ι5 H5 J1 E5 S5 I5
        have P5 := PLst.s acc _ _ _ _ P S5 (S5.k E.rel)
        exact loopG (D := D) (P := PLst K D) (ρ := ρ1) PLst.p PLst.s hg1 his1 ht1 I5 ((E.stp E5 S5).wipe) (body_lst he) P5 e fun ι' H' E' S' P' => hn ι' H' E' (S5.toD.trans S') P'
    · have hD0 : H D = none := S1.live D hD
      have S0 : Stp ι H ι' H' := S1.trans ((((Stp.ext (ext_of hD)).toD).trans S' : StpD D ι1 H1 ι' H').stp hD)
      exact lc_fin (h := h) hD0 E' S0 P' q1
end
/-! ### dicts -/
def keyA : AV → Option Key
  | .int i => some (.inl i)
  | .str x => some (.inr x)
  | _ => none
def lookA (kvs : List (Key × AV)) (k : Key) : Option AV := (kvs.find? fun kv => decide (kv.1 = k)).map (·.2)
def putA (kvs : List (Key × AV)) (k : Key) (d : AV) : List (Key × AV) := if (kvs.any fun kv => decide (kv.1 = k)) = true then kvs.map (fun kv => if kv.1 = k then (kv.1, d) else kv) else kvs ++ [(k, d)]
def dropA (kvs : List (Key × AV)) (k : Key) : List (Key × AV) := kvs.filter fun kv => decide (kv.1 ≠ k)
section
variable {K : PySem.W.Frag} {mg : Str → Option Value} {ι : List Addr} {H : Hp} {k : Key} {u v : V} {d : AV}
theorem keyA_rv {b : AV} (r : RV K ι H v b) (e : keyA b = some k) : v = kV k := by
  cases r with
  | int i => cases e; rfl
  | str i => cases e; rfl
  | _ => cases e
theorem RKs.nil {κ : Type} : RKs K ι H ([] : List (κ × V)) [] := ⟨rfl, .nil⟩
theorem RKs.cons {κ : Type} {k : κ} {us : List (κ × V)} {kvs : List (κ × AV)} (r : RV K ι H v d) (q : RKs K ι H us kvs) : RKs K ι H ((k, v) :: us) ((k, d) :: kvs) := ⟨by simp [q.k], .cons r q.v⟩
theorem RKs.ind {κ : Type} {P : List (κ × V) → List (κ × AV) → Prop} (hn : P [] []) (hc : ∀ k v d us kvs, RV K ι H v d → RKs K ι H us kvs → P us kvs → P ((k, v) :: us) ((k, d) :: kvs)) : ∀ {us : List (κ × V)} {kvs : List (κ × AV)}, RKs K ι H us kvs → P us kvs
  | [], [], _ => hn
  | [], _ :: _, q => by have := q.k; simp at this
  | _ :: _, [], q => by have := q.k; simp at this
  | (k, v) :: us, (k', d) :: kvs, q => by
    have hk := q.k
    simp only [List.map_cons, List.cons.injEq] at hk
    obtain ⟨rfl, hk⟩ := hk
    have hv := q.v
    simp only [List.map_cons] at hv
    cases hv with
    | cons r rs => exact hc _ _ _ _ _ r ⟨hk, rs⟩ (RKs.ind hn hc ⟨hk, rs⟩)
theorem RKs.len {κ : Type} {us : List (κ × V)} {kvs : List (κ × AV)} (q : RKs K ι H us kvs) : us.length = kvs.length := by
  have := congrArg List.length q.k
  simpa using this
theorem RKs.look {us : List (Key × V)} {kvs : List (Key × AV)} (q : RKs K ι H us kvs) (k : Key) : (lookA kvs k = none ∧ valV us k = none) ∨ (∃ d v, lookA kvs k = some d ∧ valV us k = some v ∧ RV K ι H v d) := by
  refine RKs.ind (P := fun us kvs => (lookA kvs k = none ∧ valV us k = none) ∨ (∃ d v, lookA kvs k = some d ∧ valV us k = some v ∧ RV K ι H v d)) (.inl ⟨rfl, rfl⟩) (fun q v d us kvs r _ ih => ?_) q
  by_cases e : q = k
  · exact .inr ⟨d, v, by simp [lookA, List.find?_cons, e], valV_pos e, r⟩
  · rw [valV_neg (p := (q, v)) e]
    have : lookA ((q, d) :: kvs) k = lookA kvs k := by simp [lookA, List.find?_cons, e]
    rw [this]
    exact ih
theorem RKs.any {us : List (Key × V)} {kvs : List (Key × AV)} (q : RKs K ι H us kvs) (k : Key) : (us.any fun kv => decide (kv.1 = k)) = (kvs.any fun kv => decide (kv.1 = k)) := by
  have e1 : (us.any fun kv => decide (kv.1 = k)) = ((us.map (·.1)).any fun x => decide (x = k)) := by rw [List.any_map]; rfl
  have e2 : (kvs.any fun kv => decide (kv.1 = k)) = ((kvs.map (·.1)).any fun x => decide (x = k)) := by rw [List.any_map]; rfl
  rw [e1, e2, q.k]
theorem RKs.append {κ : Type} {us ws : List (κ × V)} {kvs lvs : List (κ × AV)} (q : RKs K ι H us kvs) (r : RKs K ι H ws lvs) : RKs K ι H (us ++ ws) (kvs ++ lvs) := ⟨by simp [q.k, r.k], by simpa using q.v.append r.v⟩
theorem RKs.put {us : List (Key × V)} {kvs : List (Key × AV)} (q : RKs K ι H us kvs) (k : Key) (r : RV K ι H v d) : RKs K ι H (putK us k v) (putA kvs k d) := by
  unfold putK putA
  rw [q.any k]
  split
  · refine RKs.ind (P := fun us kvs => RKs K ι H (us.map fun kv => if kv.1 = k then (kv.1, v) else kv) (kvs.map fun kv => if kv.1 = k then (kv.1, d) else kv)) .nil (fun q w e us kvs r' _ ih => ?_) q
    simp only [List.map_cons]
    split
    · exact .cons r ih
    · exact .cons r' ih
  · exact q.append (.cons r .nil)
theorem RKs.drop {us : List (Key × V)} {kvs : List (Key × AV)} (q : RKs K ι H us kvs) (k : Key) : RKs K ι H (dropK us k) (dropA kvs k) := by
  refine RKs.ind (P := fun us kvs => RKs K ι H (dropK us k) (dropA kvs k)) .nil (fun q w e us kvs r' _ ih => ?_) q
  unfold dropK dropA at ih ⊢
  simp only [List.filter_cons]
  split
  · exact .cons r' ih
  · exact ih
end
def PDic (K : PySem.W.Frag) (D : Addr) (acc : List (Key × AV)) (ι : List Addr) (H : Hp) : Prop := D ∉ ι ∧ ∃ us, H D = some (.dK us) ∧ RKs K ι H us acc
def inDic (fk f : EM AV) : Env → List (Key × AV) → AH → RR (List (Key × AV)) := fun ρ acc h =>
  match fk ρ h with
  | .ok y h' => match f ρ h' with
    | .ok z h2 => match keyA y with
      | some k => if DP.smallL acc.length = true then .ok (putA acc k z) h2 else .no
      | none => .no
    | _ => .no
  | _ => .no
noncomputable def eDComp (it : EM Sr) (g : AV → SM) (vs : List Nat) (cond : EM Bool) (fk f : EM AV) : EM AV := bnd it fun s ρ h =>
  match compG s.keep g cond (inDic fk f) (wipeE ρ vs) s.ds [] h with
  | .ok acc h' => .ok (.ref h'.length) (h' ++ [.dic acc])
  | _ => .no
section
variable {K : PySem.W.Frag} {mg : Str → Option Value} {W : WX} {vs is : List Nat} {it : EM Sr} {g : AV → SM} {cond : EM Bool} {fk f : EM AV} {wi : TI} {tg : TG} {tt : TT} {tk tv : TE} {D : Addr}
theorem PDic.p (acc : List (Key × AV)) (ι : List Addr) (H : Hp) (q : PDic K D acc ι H) : D ∉ ι ∧ isCell (H D) := by
  obtain ⟨a, us, e, _⟩ := q
  exact ⟨a, by rw [e]; trivial⟩
theorem PDic.s (acc : List (Key × AV)) (ι : List Addr) (H : Hp) (ι' : List Addr) (H' : Hp) (q : PDic K D acc ι H) (S : Stp ι H ι' H') (k : Kp ι H ι' H') : PDic K D acc ι' H' := by
  obtain ⟨a, us, e, r⟩ := q
  refine ⟨fun z => ?_, us, S.kp D _ e a, r.kp k⟩
  rcases S.grow D z with q | q
  · exact a q
  · rw [e] at q; cases q
theorem dc_run (hi : RunI K mg W wi it) (hg : RunG K mg noW is tg g) (his : ∀ i ∈ is, i ∈ vs) (ht : RunT K mg noW tt cond) (hk : RunE K mg noW tk fk) (he : RunE K mg noW tv f) : RunE K mg W (tDc wi tg tt tk tv vs) (eDComp it g vs cond fk f) := by
  intro ι H h σ ρ E Q q
  refine hi ι H h σ ρ E _ (q.split (R1 := fun ι' H' J s => ItR K mg ι' H' J s) fun s ι1 H1 h1 J E1 S1 I1 q1 => ?_)
  intro D hD
  cases ec : compG s.keep g cond (inDic fk f) (wipeE ρ vs) s.ds [] h1 with
  | no => rw [ec] at q1; exact q1.elim
  | ex x h' => rw [ec] at q1; exact q1.elim
  | ok accF hF =>
    rw [ec] at q1
    refine loopG (D := D) (P := PDic K D) (ρ := ρ) PDic.p PDic.s hg his ht (I1.kp (Kp.ext (ext_of hD)) fun b o u e => ext_of hD b _ e) (start_D (E.stp E1 S1) hD) (fun Nx ι H h σ2 ρ1 acc acc' h' E P e hn => ?_) ⟨E1.free hD, [], upd_same, .nil⟩ ec fun ι' H' E' S' P' => ?_
    · unfold inDic at e
      refine hk ι H h σ2 ρ1 E _ ?_
      cases e1 : fk ρ1 h with
      | no => rw [e1] at e; cases e
      | ex x h6 => rw [e1] at e; cases e
      | ok y h3 =>
        rw [e1] at e
        dsimp only at e
        intro ι3 H3 u E3 S3 R3
        have P3 := PDic.s acc _ _ _ _ P S3 (S3.k E.rel)
        refine he ι3 H3 h3 σ2 ρ1 (E.stp E3 S3) _ ?_
        cases e2 : f ρ1 h3 with
        | no => rw [e2] at e; cases e
        | ex x h6 => rw [e2] at e; cases e
        | ok z h4 =>
          rw [e2] at e
          dsimp only at e
          intro ι4 H4 w E4 S4 R4
          cases ek : keyA y with
          | none => rw [ek] at e; cases e
          | some k =>
            rw [ek] at e
            dsimp only at e
            split at e
            · rename_i hz
              cases e
              have P4 := PDic.s acc _ _ _ _ P3 S4 (S4.k E3)
              obtain ⟨dD, us, hD, r⟩ := P4
              have hc : isCell (H4 D) := by rw [hD]; trivial
              obtain ⟨E5, S5, k5⟩ := E4.other (o := .dK (putK us k w)) dD hc (fun o u z => by rw [hD] at z; cases z)
              exact ⟨us, k, keyA_rv R3 ek, hD, by rw [r.len]; exact DP.smallL_lt hz, hn ι4 _ E5 ((S3.trans S4).toD.trans S5) ⟨dD, _, upd_same, (r.kp k5).put k (R4.kp k5)⟩⟩
            · cases e
    · have hD0 : H D = none := S1.live D hD
      have S0 : Stp ι H ι' H' := S1.trans ((((Stp.ext (ext_of hD)).toD).trans S' : StpD D ι1 H1 ι' H').stp hD)
      obtain ⟨dD, us, e, r⟩ := P'
      have A := E'.adopt (c := .dic accF) dD ⟨us, e, r.kp ⟨List.prefix_append _ _, fun _ _ e => e, fun _ _ _ _ e => e⟩⟩
      refine q1 (ι' ++ [D]) H' (.ref D) A ⟨S0.pre.trans (List.prefix_append _ _), S0.kp, fun a m => ?_, S0.live, S0.fz⟩ (.ref ?_)
      · rcases List.mem_append.mp m with m | m
        · exact S0.grow a m
        · rw [List.mem_singleton] at m
          rw [m]
          exact .inr hD0
      · rw [← E'.len, List.getElem?_append_right (Nat.le_refl _)]
        simp
end
end HL
/-! HLE: the operations. -/
namespace HL
open PySem L2
/-! ### data without lists, as values -/
mutual
def flat : PD → Option AV
  | .none => some .non
  | .bool b => some (.bl b)
  | .int i => some (.int i)
  | .str x => some (.str x)
  | .tuple ds => (flats ds).map .tup
  | _ => none
def flats : List PD → Option (List AV)
  | [] => some []
  | d :: ds => (flat d).bind fun x => (flats ds).map (x :: ·)
end
section
variable {K : PySem.W.Frag} {mg : Str → Option Value} {ι : List Addr} {H : Hp}
mutual
theorem flat_rv {A : DP.AS} : ∀ {d : PD} {x : AV} {v : V}, flat d = some x → DP.Rp A H v d → RV K ι H v x
  | .none, _, _, e, r => by cases r; cases e; exact .non
  | .bool b, _, _, e, r => by cases r; cases e; exact .bl b
  | .int b, _, _, e, r => by cases r; cases e; exact .int b
  | .str b, _, _, e, r => by cases r; cases e; exact .str b
  | .tuple ds, x, _, e, r => by
    simp only [flat] at e
    cases e1 : flats ds with
    | none => rw [e1] at e; cases e
    | some xs =>
      rw [e1] at e
      cases e
      cases r with
      | tup h rs => exact .tup h (flats_rv e1 rs)
  | .list _, _, _, e, _ => by simp [flat] at e
  | .dict _, _, _, e, _ => by simp [flat] at e
theorem flats_rv {A : DP.AS} : ∀ {d : List PD} {x : List AV} {v : List V}, flats d = some x → DP.RpAll A H v d → RVs K ι H v x
  | [], _, _, e, r => by cases r; cases e; exact .nil
  | d :: ds, x, _, e, r => by
    simp only [flats] at e
    cases e1 : flat d with
    | none => rw [e1] at e; cases e
    | some y =>
      rw [e1] at e
      cases e2 : flats ds with
      | none => rw [e2] at e; cases e
      | some ys =>
        rw [e2] at e
        cases e
        cases r with
        | cons r rs => exact .cons (flat_rv e1 r) (flats_rv e2 rs)
end
end
def liftRc : Option DP.Rc → Option RA
  | some (.val d) => (flat d).map .val
  | some (.fresh (.list ds)) => (flats ds).map fun xs => .new (.lst xs)
  | _ => none
noncomputable def lift2 (g : PD → PD → Option DP.Rc) : AH → AV → AV → Option RA := fun h a b => (readD h a).bind fun d => (readD h b).bind fun e => liftRc (g d e)
noncomputable def lift1 (g : PD → Option DP.Rc) : AH → AV → Option RA := fun h a => (readD h a).bind fun d => liftRc (g d)
noncomputable def liftN (g : List PD → Option DP.Rc) : AH → List AV → Option RA := fun h a => (readDs h a).bind fun d => liftRc (g d)
section
variable {K : PySem.W.Frag} {mg : Str → Option Value} {ι : List Addr} {H : Hp} {h : AH}
theorem liftRc_new {H' : Hp} {v : V} {o : Option DP.Rc} {c : RA} (e : liftRc o = some c) : ∃ r, o = some r ∧ (DP.NewR (inA ι) H H' v r → NewA K mg ι H H' v c) := by
  unfold liftRc at e
  split at e
  · rename_i d
    cases e1 : flat d with
    | none => rw [e1] at e; cases e
    | some x =>
      rw [e1] at e
      cases e
      exact ⟨_, rfl, fun ⟨n, r⟩ => ⟨n, flat_rv e1 r⟩⟩
  · rename_i ds
    cases e1 : flats ds with
    | none => rw [e1] at e; cases e
    | some x =>
      rw [e1] at e
      cases e
      exact ⟨_, rfl, fun ⟨n, p, hv, hp, xs, e2, r⟩ => ⟨n, p, hv, hp, xs, e2, flats_rv e1 r⟩⟩
  · cases e
theorem Rel.rt (E : Rel K mg ι H h) {x : AV} {d : PD} {v : V} (e : readD h x = some d) (r : RV K ι H v x) : DP.Rt (inA ι) H v d := .inl (E.rp (readD_is e) r)
theorem Rel.rts (E : Rel K mg ι H h) : ∀ {x : List AV} {d : List PD} {v : List V}, IsDs h x d → RVs K ι H v x → DP.Rts (inA ι) H v d
  | _, _, _, .nil, .nil => .nil
  | _, _, _, .cons a b, .cons r s => .cons (.inl (E.rp a r)) (Rel.rts E b s)
theorem op2_lift {r : R2} {g : PD → PD → Option DP.Rc} (o : DP.Op2 r g) : OpA2 K mg r (lift2 g) := ⟨fun ι H h x y a b c Q E R1 R2 e q => by
  unfold lift2 at e
  cases e1 : readD h a with
  | none => rw [e1] at e; cases e
  | some d =>
    rw [e1] at e
    cases e2 : readD h b with
    | none => rw [e2] at e; cases e
    | some d2 =>
      rw [e2] at e
      obtain ⟨c', e3, _⟩ := liftRc_new (K := K) (mg := mg) (ι := ι) (H := H) (H' := H) (v := x) e
      exact o.run (inA ι) H x y d d2 c' Q (fun _ m => E.dom m) (E.rt e1 R1) (E.rt e2 R2) e3 fun v H' n => by
        obtain ⟨c2, e4, k⟩ := liftRc_new (K := K) (mg := mg) (ι := ι) (H := H) (H' := H') (v := v) e
        rw [show (g d d2) = some c' from e3] at e4
        cases e4
        exact q v H' (k n)⟩
theorem op1_lift {r : V → Hp → VK → Prop} {g : PD → Option DP.Rc} (o : DP.Op1 r g) : OpA1 K mg r (lift1 g) := ⟨fun ι H h x a c Q E R1 e q => by
  unfold lift1 at e
  cases e1 : readD h a with
  | none => rw [e1] at e; cases e
  | some d =>
    rw [e1] at e
    obtain ⟨c', e3, _⟩ := liftRc_new (K := K) (mg := mg) (ι := ι) (H := H) (H' := H) (v := x) e
    exact o.run (inA ι) H x d c' Q (fun _ m => E.dom m) (E.rt e1 R1) e3 fun v H' n => by
      obtain ⟨c2, e4, k⟩ := liftRc_new (K := K) (mg := mg) (ι := ι) (H := H) (H' := H') (v := v) e
      rw [show (g d) = some c' from e3] at e4
      cases e4
      exact q v H' (k n)⟩
theorem opN_lift {r : List V → Hp → VK → Prop} {g : List PD → Option DP.Rc} (o : DP.OpN r g) : OpAN K mg r (liftN g) := ⟨fun ι H h x a c Q E R1 e q => by
  unfold liftN at e
  cases e1 : readDs h a with
  | none => rw [e1] at e; cases e
  | some d =>
    rw [e1] at e
    obtain ⟨c', e3, _⟩ := liftRc_new (K := K) (mg := mg) (ι := ι) (H := H) (H' := H) (v := .non) e
    exact o.run (inA ι) H x d c' Q (fun _ m => E.dom m) (E.rts (readDs_is e1) R1) e3 fun v H' n => by
      obtain ⟨c2, e4, k⟩ := liftRc_new (K := K) (mg := mg) (ι := ι) (H := H) (H' := H') (v := v) e
      rw [show (g d) = some c' from e3] at e4
      cases e4
      exact q v H' (k n)⟩
theorem OpA2.or {r r' : R2} {g g' : AH → AV → AV → Option RA} (o : OpA2 K mg r g) (o' : OpA2 K mg r' g') : OpA2 K mg (fun x y H Q => r x y H Q ∨ r' x y H Q) (fun h a b => match g h a b with | some c => some c | none => g' h a b) := ⟨fun ι H h x y a b c Q E R1 R2 e q => by
  cases e1 : g h a b with
  | some c' => rw [e1] at e; cases e; exact .inl (o.run ι H h x y a b c Q E R1 R2 e1 q)
  | none => rw [e1] at e; exact .inr (o'.run ι H h x y a b c Q E R1 R2 e q)⟩
theorem OpA2.imp {r : R2} {g g' : AH → AV → AV → Option RA} (o : OpA2 K mg r g) (e : ∀ h a b c, g' h a b = some c → g h a b = some c) : OpA2 K mg r g' := ⟨fun ι H h x y a b c Q E R1 R2 e1 q => o.run ι H h x y a b c Q E R1 R2 (e _ _ _ _ e1) q⟩
/-! ints -/
def aI (C : Int → Int → Bool) (f : Int → Int → AV) : AH → AV → AV → Option RA := fun _ a b =>
  match a, b with
  | .int i, .int j => if C i j = true then some (.val (f i j)) else none
  | _, _ => none
theorem op2_I {r : R2} {C : Int → Int → Bool} {f0 : Int → Int → PD} {f : Int → Int → AV} (o : DP.Op2 r (DP.gI C f0)) (hf : ∀ i j, flat (f0 i j) = some (f i j)) : OpA2 K mg r (aI C f) := (op2_lift o).imp fun h a b c e => by
  unfold aI at e
  split at e
  · rename_i i j
    split at e
    · rename_i hc
      cases e
      simp only [lift2, readD_int, Option.bind_some, DP.gI, hc, if_true, liftRc, hf, Option.map_some]
    · cases e
  · cases e
end
def gSub := aI DP.yesB fun i j => .int (i - j)
def gFdiv := aI DP.divOk fun i j => .int (i / j)
def gMod := aI (fun _ j => decide (0 < j)) fun i j => .int (i % j)
def gPow := aI DP.powOk fun i j => .int (i ^ j.toNat)
def gShl := aI DP.powOk fun i j => .int (i * 2 ^ j.toNat)
def gLt := aI DP.yesB fun i j => .bl (decide (i < j))
def gLe := aI DP.yesB fun i j => .bl (decide (i ≤ j))
def gGt := aI DP.yesB fun i j => .bl (decide (j < i))
def gGe := aI DP.yesB fun i j => .bl (decide (j ≤ i))
section
variable {K : PySem.W.Frag} {mg : Str → Option Value}
theorem o2_sub : OpA2 K mg (rI0 fun i j => .int (i - j)) gSub := op2_I DP.o2_sub fun _ _ => rfl
theorem o2_fdiv : OpA2 K mg (rI CDivW fun i j => .int (i / j)) gFdiv := op2_I DP.o2_fdiv fun _ _ => rfl
theorem o2_mod : OpA2 K mg (rI (fun _ j => 0 < j) fun i j => .int (i % j)) gMod := op2_I DP.o2_mod fun _ _ => rfl
theorem o2_pow : OpA2 K mg (rI CPow fun i j => .int (i ^ j.toNat)) gPow := op2_I DP.o2_pow fun _ _ => rfl
theorem o2_shl : OpA2 K mg (rI CPow fun i j => .int (i * 2 ^ j.toNat)) gShl := op2_I DP.o2_shl fun _ _ => rfl
theorem o2_lt : OpA2 K mg (rI0 fun i j => .bl (decide (i < j))) gLt := op2_I DP.o2_lt fun _ _ => rfl
theorem o2_le : OpA2 K mg (rI0 fun i j => .bl (decide (i ≤ j))) gLe := op2_I DP.o2_le fun _ _ => rfl
theorem o2_gt : OpA2 K mg (rI0 fun i j => .bl (decide (j < i))) gGt := op2_I DP.o2_gt fun _ _ => rfl
theorem o2_ge : OpA2 K mg (rI0 fun i j => .bl (decide (j ≤ i))) gGe := op2_I DP.o2_ge fun _ _ => rfl
end
/-! lists, tuples, texts: + and * -/
def lstAt (h : AH) (n : Nat) : Option (List AV) :=
  match h[n]? with
  | some (.lst xs) => some xs
  | _ => none
theorem lstAt_eq {h : AH} {n : Nat} {xs : List AV} (e : lstAt h n = some xs) : h[n]? = some (.lst xs) := by
  unfold lstAt at e
  split at e
  · rename_i ys e1; cases e; exact e1
  · cases e
def gAdd : AH → AV → AV → Option RA := fun h a b =>
  match a, b with
  | .int i, .int j => some (.val (.int (i + j)))
  | .ref n, .ref m => match lstAt h n, lstAt h m with
    | some xs, some ys => if DP.smallL (xs.length + ys.length) = true then some (.new (.lst (xs ++ ys))) else none
    | _, _ => none
  | .tup xs, .tup ys => if DP.smallL (xs.length + ys.length) = true then some (.val (.tup (xs ++ ys))) else none
  | .str x, .str y => if DP.smallL (x.length + y.length) = true then some (.val (.str (x ++ y))) else none
  | _, _ => none
def gMul : AH → AV → AV → Option RA := fun h a b =>
  match a, b with
  | .int i, .int j => if DP.mulOk i j = true then some (.val (.int (i * j))) else none
  | .ref n, .int k => match lstAt h n with
    | some xs => if (decide (-(2 ^ 63) ≤ k ∧ k < 2 ^ 63) && DP.smallL (xs.length * k.toNat)) = true then some (.new (.lst (List.replicate k.toNat xs).flatten)) else none
    | none => none
  | _, _ => none
section
variable {K : PySem.W.Frag} {mg : Str → Option Value} {ι : List Addr} {H : Hp}
theorem RVs.nilD {vs : List V} (r : RVs K ι H vs []) : vs = [] := by cases r; rfl
theorem RVs.nilV {ds : List AV} (r : RVs K ι H [] ds) : ds = [] := by cases r; rfl
theorem o2_add : OpA2 K mg (DP.rAddAll K) gAdd := ⟨fun ι H h x y a b c Q E R1 R2 e q => by
  unfold gAdd at e
  split at e
  · cases e
    exact .inl ⟨_, _, R1.int', R2.int', q _ _ (na_val (.int _))⟩
  · rename_i n m
    split at e
    · rename_i xs ys e1 e2
      split at e
      · rename_i hz
        cases e
        obtain ⟨l, us, rfl, _, h1, r1⟩ := E.lst R1 (lstAt_eq e1)
        obtain ⟨k, ws, rfl, _, h2, r2⟩ := E.lst R2 (lstAt_eq e2)
        exact .inr (.inl ⟨l, k, us, ws, rfl, rfl, h1, h2, by rw [r1.length, r2.length]; exact DP.smallL_le hz, fun p hp => q _ _ (na_lst hp (r1.append r2))⟩)
      · cases e
    · cases e
  · rename_i xs ys
    split at e
    · rename_i hz
      cases e
      obtain ⟨l, us, rfl, h1, r1⟩ := R1.tup'
      obtain ⟨b, ws, rfl, h2, r2⟩ := R2.tup'
      refine .inr (.inr (.inl ⟨l, b, us, ws, rfl, rfl, SqT.of h1, SqT.of h2, by rw [r1.length, r2.length]; exact DP.smallL_le hz, fun z => ?_, fun _ z => ?_, fun _ _ p hp => q _ _ (na_tup hp (r1.append r2))⟩))
      · subst z
        have := r1.nilV
        subst this
        exact q _ _ (na_val (.tup h2 r2))
      · subst z
        have := r2.nilV
        subst this
        rw [List.append_nil] at q
        exact q _ _ (na_val (.tup h1 r1))
    · cases e
  · split at e
    · rename_i hz
      cases e
      exact .inr (.inr (.inr ⟨_, _, R1.str', R2.str', DP.smallL_le hz, q _ _ (na_val (.str _))⟩))
    · cases e
  · cases e⟩
theorem RVs.rep {vs : List V} {ds : List AV} (r : RVs K ι H vs ds) : ∀ n : Nat, RVs K ι H (List.replicate n vs).flatten (List.replicate n ds).flatten
  | 0 => .nil
  | n + 1 => by
    rw [List.replicate_succ, List.replicate_succ, List.flatten_cons, List.flatten_cons]
    exact r.append (RVs.rep r n)
theorem o2_mul : OpA2 K mg DP.rMulAll gMul := ⟨fun ι H h x y a b c Q E R1 R2 e q => by
  unfold gMul at e
  split at e
  · split at e
    · rename_i i j hc
      cases e
      simp only [DP.mulOk, Bool.or_eq_true, decide_eq_true_eq] at hc
      exact .inl ⟨_, _, R1.int', R2.int', hc, q _ _ (na_val (.int _))⟩
    · cases e
  · rename_i n k
    split at e
    · rename_i xs e1
      split at e
      · rename_i hz
        cases e
        simp only [Bool.and_eq_true, decide_eq_true_eq] at hz
        obtain ⟨l, us, rfl, _, h1, r1⟩ := E.lst R1 (lstAt_eq e1)
        exact .inr ⟨l, k, us, rfl, R2.int', h1, hz.1.1, hz.1.2, by rw [r1.length]; exact DP.smallL_le hz.2, fun p hp => q _ _ (na_lst hp (r1.rep _))⟩
      · cases e
    · cases e
  · cases e⟩
end
/-! ==, in -/
noncomputable def gEq (neg : Bool) := lift2 (DP.gEq neg)
noncomputable def gEqS (neg : Bool) := lift2 (DP.gEqS neg)
noncomputable def gIn (neg : Bool) : AH → AV → AV → Option RA := fun h a b =>
  match b with
  | .ref n => match h[n]? with
    | some (.dic kvs) => match keyA a with
      | some k => some (.val (.bl (if neg = true then !(lookA kvs k).isSome else (lookA kvs k).isSome)))
      | none => none
    | _ => lift2 (DP.gIn neg) h a b
  | _ => lift2 (DP.gIn neg) h a b
section
variable {K : PySem.W.Frag} {mg : Str → Option Value} {ι : List Addr} {H : Hp}
theorem o2_eq : OpA2 K mg (rEqD K) (gEq false) := op2_lift (DP.o2_eq K)
theorem o2_ne : OpA2 K mg (rNeD K) (gEq true) := op2_lift (DP.o2_ne K)
theorem look_some {us : List (Key × V)} {kvs : List (Key × AV)} (q : RKs K ι H us kvs) (k : Key) : (valV us k).isSome = (lookA kvs k).isSome := by
  rcases q.look k with ⟨a, b⟩ | ⟨d, v, a, b, _⟩ <;> rw [a, b] <;> rfl
theorem o2_in : OpA2 K mg (DP.rInAll K) (gIn false) := ⟨fun ι H h x y a b c Q E R1 R2 e q => by
  unfold gIn at e
  split at e
  · split at e
    · rename_i n kvs hn
      split at e
      · rename_i k hk
        cases e
        obtain ⟨p, us, rfl, _, h1, r1⟩ := E.dic R2 hn
        refine .inr (.inr ⟨p, k, us, rfl, keyA_rv R1 hk, h1, ?_⟩)
        rw [look_some r1]
        exact q _ _ (na_val (.bl _))
      · cases e
    · exact (op2_lift (DP.o2_in K)).run ι H h x y _ _ c Q E R1 R2 e q
  · exact (op2_lift (DP.o2_in K)).run ι H h x y _ _ c Q E R1 R2 e q⟩
theorem o2_notIn : OpA2 K mg (DP.rNotInAll K) (gIn true) := ⟨fun ι H h x y a b c Q E R1 R2 e q => by
  unfold gIn at e
  split at e
  · split at e
    · rename_i n kvs hn
      split at e
      · rename_i k hk
        cases e
        obtain ⟨p, us, rfl, _, h1, r1⟩ := E.dic R2 hn
        refine .inr (.inr ⟨p, k, us, rfl, keyA_rv R1 hk, h1, ?_⟩)
        rw [look_some r1]
        exact q _ _ (na_val (.bl _))
      · cases e
    · exact (op2_lift (DP.o2_notIn K)).run ι H h x y _ _ c Q E R1 R2 e q
  · exact (op2_lift (DP.o2_notIn K)).run ι H h x y _ _ c Q E R1 R2 e q⟩
end
/-! items -/
def gIx : AH → AV → AV → Option RA := fun h a b =>
  match a, b with
  | .tup ds, .int i => (atI ds i).map .val
  | .scr ns, .int i => (atI ns i).map fun x => .val (.int x)
  | .ref n, k => match h[n]? with
    | some (.lst ds) => match k with
      | .int i => (atI ds i).map .val
      | _ => none
    | some (.dic kvs) => match keyA k with
      | some q => (lookA kvs q).map .val
      | none => none
    | _ => none
  | _, _ => none
section
variable {K : PySem.W.Frag} {mg : Str → Option Value} {ι : List Addr} {H : Hp}
theorem atI_rv {vs : List V} {ds : List AV} {i : Int} {d : AV} (r : RVs K ι H vs ds) (e : atI ds i = some d) : ∃ v, atI vs i = some v ∧ RV K ι H v d := by
  unfold atI at e ⊢
  rw [r.length]
  cases e1 : ixN ds.length i with
  | none => rw [e1] at e; cases e
  | some j =>
    rw [e1] at e
    exact r.get (by simpa using e)
theorem o2_ix : OpA2 K mg (DP.rIxAll K) gIx := ⟨fun ι H h x y a b c Q E R1 R2 e q => by
  unfold gIx at e
  split at e
  · rename_i ds i
    cases e1 : atI ds i with
    | none => rw [e1] at e; cases e
    | some d =>
      rw [e1] at e
      cases e
      obtain ⟨l, us, rfl, h1, r1⟩ := R1.tup'
      obtain ⟨v, e2, r⟩ := atI_rv r1 e1
      exact .inl (.inr (.inl ⟨l, us, i, v, rfl, R2.int', SqT.of h1, e2, q _ _ (na_val r)⟩))
  · rename_i ns i
    cases e1 : atI ns i with
    | none => rw [e1] at e; cases e
    | some d =>
      rw [e1] at e
      cases e
      cases R1 with
      | @scr a0 _ s => exact .inl (.inl ⟨a0, _, i, .int d, rfl, R2.int', s.sq, DP.atI_map V.int e1, q _ _ (na_val (.int d))⟩)
  · rename_i n
    split at e
    · rename_i ds hn
      split at e
      · rename_i i
        cases e1 : atI ds i with
        | none => rw [e1] at e; cases e
        | some d =>
          rw [e1] at e
          cases e
          obtain ⟨l, us, rfl, _, h1, r1⟩ := E.lst R1 hn
          obtain ⟨v, e2, r⟩ := atI_rv r1 e1
          exact .inl (.inl ⟨l, us, i, v, rfl, R2.int', SqL.of h1, e2, q _ _ (na_val r)⟩)
      · cases e
    · rename_i kvs hn
      split at e
      · rename_i k hk
        obtain ⟨p, us, rfl, _, h1, r1⟩ := E.dic R1 hn
        rcases r1.look k with ⟨a, b⟩ | ⟨d, v, a, b, r⟩
        · rw [a] at e; cases e
        · rw [a] at e
          cases e
          exact .inr ⟨p, k, us, v, rfl, keyA_rv R2 hk, h1, b, q _ _ (na_val r)⟩
      · cases e
    · cases e
  · cases e⟩
end
/-! slices -/
def partM : Option (EM AV) → EM (Option Int)
  | none => retM none
  | some f => bnd f fun d => match d with
    | .int i => retM (some i)
    | _ => noM
def SimO (X : Cx) (W : WX) (e : Option Expr) (f : Option (EM AV)) : Prop := ∃ t : TO, PO X e t ∧ ∀ ι H h σ ρ, ER X.K X.mg ι H σ ρ h → ∀ Q : Option Int → Hp → Prop, Pst X.K X.mg W ι H σ (fun _ _ b c => b = c) Q (partM f ρ h) → t σ H Q
def cutA (xs : List AV) (lo hi : Option Int) : List AV := (xs.drop (HT.sIx xs.length 0 lo)).take (HT.sIx xs.length xs.length hi - HT.sIx xs.length 0 lo)
def gSl (d : AV) (lo hi : Option Int) : AH → Option RA := fun h =>
  match d with
  | .ref n => (lstAt h n).map fun ds => .new (.lst (cutA ds lo hi))
  | .tup ds => some (.val (.tup (cutA ds lo hi)))
  | .scr ns => some (.new (.lst (cutA (ns.map .int) lo hi)))
  | _ => none
def eSl (f : EM AV) (lo hi : Option (EM AV)) : EM AV := bnd f fun x => bnd (partM lo) fun l => bnd (partM hi) fun u => opM (gSl x l u)
section
variable {X : Cx} {W : WX} {K : PySem.W.Frag} {mg : Str → Option Value} {ι : List Addr} {H : Hp}
theorem sim_onone : SimO X W none none := ⟨_, po_none, fun ι H h σ ρ E Q q => q ι H none E.rel Stp.refl rfl⟩
theorem sim_osome {e : Expr} {f : EM AV} (q : SimE X W e f) : SimO X W (some e) (some f) := by
  obtain ⟨t, p, q⟩ := q
  refine ⟨_, po_some p, fun ι H h σ ρ E Q hq => ?_⟩
  refine q ι H h σ ρ E _ (Pst.split (m := f) hq fun d ι1 H1 h1 v E1 S1 R1 q1 => ?_)
  cases d with
  | int i => exact ⟨i, R1.int', q1 ι1 H1 _ E1 S1 rfl⟩
  | _ => exact q1.elim
theorem RVs.cut {vs : List V} {ds : List AV} (r : RVs K ι H vs ds) (lo hi : Option Int) : RVs K ι H (cutV vs lo hi) (cutA ds lo hi) := by
  unfold cutV cutA
  rw [r.length]
  exact (r.drop _).take _
theorem rv_ints : ∀ ns : List Int, RVs K ι H (ns.map V.int) (ns.map AV.int)
  | [] => .nil
  | n :: ns => .cons (.int n) (rv_ints ns)
theorem sim_slice {e : Expr} {lo hi : Option Expr} {f : EM AV} {fl fh : Option (EM AV)} {p2 pos : Pos} (he : SimE X W e f) (hl : SimO X W lo fl) (hh : SimO X W hi fh) : SimE X W (.Subscript e (.Slice lo hi none p2) pos) (eSl f fl fh) := by
  obtain ⟨t, p, he⟩ := he
  obtain ⟨tl, pl, hl⟩ := hl
  obtain ⟨th, ph, hh⟩ := hh
  refine ⟨_, pe_slice (sl_list.or sl_tupA) p pl ph, fun ι H h σ ρ E Q q => ?_⟩
  refine he ι H h σ ρ E _ (q.split fun x ι1 H1 h1 v1 E1 S1 R1 q1 => ?_)
  refine hl ι1 H1 h1 σ ρ (E.stp E1 S1) _ ((q1.after S1).split (R1 := fun _ _ b c => b = c) fun l ι2 H2 h2 l' E2 S2 R2 q2 => ?_)
  subst R2
  refine hh ι2 H2 h2 σ ρ ((E.stp E1 S1).stp E2 S2) _ ((q2.after S2).split (R1 := fun _ _ b c => b = c) fun u ι3 H3 h3 u' E3 S3 R3 q3 => ?_)
  subst R3
  obtain ⟨c, e2, q4⟩ := q3.op E3 S3
  have R1' := R1.kp ((S2.trans S3).k E1)
  unfold gSl at e2
  split at e2
  · rename_i n
    cases e3 : lstAt h3 n with
    | none => rw [e3] at e2; cases e2
    | some ds =>
      rw [e3] at e2
      cases e2
      obtain ⟨a, us, rfl, _, g1, r1⟩ := E3.lst R1' (lstAt_eq e3)
      exact .inl ⟨a, us, rfl, SqL.of g1, fun p hp => q4 _ _ (na_lst hp (r1.cut _ _))⟩
  · cases e2
    obtain ⟨a, us, rfl, g1, r1⟩ := R1'.tup'
    refine .inr ⟨a, us, rfl, SqT.of g1, fun hw => ?_, fun _ p hp => q4 _ _ (na_tup hp (r1.cut _ _))⟩
    have := r1.cut l' u'
    unfold cutV at this
    rw [hw.1, hw.2] at this
    simp only [List.drop_zero, Nat.sub_zero, List.take_length] at this
    exact q4 _ _ (na_val (.tup g1 this))
  · rename_i ns
    cases e2
    cases R1' with
    | @scr a0 _ s => exact .inl ⟨a0, _, rfl, s.sq, fun p hp => q4 _ _ (na_lst hp ((rv_ints ns).cut _ _))⟩
  · cases e2
end
/-! ### built-ins -/
def gAbs : AH → List AV → Option RA := fun _ xs =>
  match xs with
  | [.int i] => some (.val (.int (if i < 0 then -i else i)))
  | _ => none
def gMax2 : AH → List AV → Option RA := fun _ xs =>
  match xs with
  | [.int i, .int j] => some (.val (.int (if j > i then j else i)))
  | _ => none
def gMin2 : AH → List AV → Option RA := fun _ xs =>
  match xs with
  | [.int i, .int j] => some (.val (.int (if j < i then j else i)))
  | _ => none
def gNeg : AH → AV → Option RA := fun _ x =>
  match x with
  | .int i => some (.val (.int (-i)))
  | _ => none
def gInt : AH → List AV → Option RA := fun _ xs =>
  match xs with
  | [.int i] => some (.val (.int i))
  | [.bl k] => some (.val (.int (if k then 1 else 0)))
  | _ => none
def gList : AH → List AV → Option RA := fun h xs =>
  match xs with
  | [.ref n] => (lstAt h n).map fun ds => .new (.lst ds)
  | [.tup ds] => some (.new (.lst ds))
  | _ => none
def gTuple : AH → List AV → Option RA := fun h xs =>
  match xs with
  | [.ref n] => (lstAt h n).map fun ds => .val (.tup ds)
  | [.tup ds] => some (.val (.tup ds))
  | _ => none
def gLen : AH → List AV → Option RA := fun h xs =>
  match xs with
  | [.ref n] => (lstAt h n).map fun ds => .val (.int ds.length)
  | [.tup ds] => some (.val (.int ds.length))
  | [.scr ns] => some (.val (.int ns.length))
  | _ => none
def intsA : List AV → Option (List Int)
  | [] => some []
  | .int i :: ds => (intsA ds).map (i :: ·)
  | _ :: _ => none
def blsA : List AV → Option (List Bool)
  | [] => some []
  | .bl i :: ds => (blsA ds).map (i :: ·)
  | _ :: _ => none
def gSum : AH → List AV → Option RA := fun h xs =>
  match xs with
  | [.ref n] => (lstAt h n).bind fun ds => (intsA ds).map fun ns => .val (.int ns.sum)
  | _ => none
def gAll : AH → List AV → Option RA := fun h xs =>
  match xs with
  | [.ref n] => (lstAt h n).bind fun ds => (blsA ds).map fun ns => .val (.bl (ns.all id))
  | _ => none
def gAny : AH → List AV → Option RA := fun h xs =>
  match xs with
  | [.ref n] => (lstAt h n).bind fun ds => (blsA ds).map fun ns => .val (.bl (ns.any id))
  | _ => none
noncomputable def gSorted : AH → List AV → Option RA := fun h xs =>
  match xs with
  | [.ref n] => match h[n]? with
    | some (.dic kvs) => match kvs.mapM fun q => (match q.1 with | .inl i => some i | .inr _ => none : Option Int) with
      | some ks => if ks.length < 64 then some (.new (.lst ((ks.mergeSort DP.leI).map .int))) else none
      | none => none
    | _ => liftN DP.gSorted h xs
  | _ => liftN DP.gSorted h xs
section
variable {K : PySem.W.Frag} {mg : Str → Option Value} {ι : List Addr} {H : Hp}
theorem on_abs : OpAN K mg (fun xs H Q => ∃ i, xs = [.int i] ∧ Q (.int (if i < 0 then -i else i)) H) gAbs := ⟨fun ι H h xs ds c Q E R e q => by
  unfold gAbs at e
  split at e
  · cases e
    obtain ⟨v, rfl, r⟩ := R.one
    exact ⟨_, by rw [r.int'], q _ _ (na_val (.int _))⟩
  · cases e⟩
theorem on_max2 : OpAN K mg (fun xs H Q => ∃ i j, xs = [.int i, .int j] ∧ Q (.int (if j > i then j else i)) H) gMax2 := ⟨fun ι H h xs ds c Q E R e q => by
  unfold gMax2 at e
  split at e
  · cases e
    obtain ⟨v, w, rfl, r, r2⟩ := R.two
    exact ⟨_, _, by rw [r.int', r2.int'], q _ _ (na_val (.int _))⟩
  · cases e⟩
theorem on_min2 : OpAN K mg (fun xs H Q => ∃ i j, xs = [.int i, .int j] ∧ Q (.int (if j < i then j else i)) H) gMin2 := ⟨fun ι H h xs ds c Q E R e q => by
  unfold gMin2 at e
  split at e
  · cases e
    obtain ⟨v, w, rfl, r, r2⟩ := R.two
    exact ⟨_, _, by rw [r.int', r2.int'], q _ _ (na_val (.int _))⟩
  · cases e⟩
theorem o1_neg : OpA1 K mg (rU fun i => .int (-i)) gNeg := ⟨fun ι H h x a c Q E R e q => by
  unfold gNeg at e
  split at e
  · cases e
    exact ⟨_, R.int', q _ _ (na_val (.int _))⟩
  · cases e⟩
theorem on_int : OpAN K mg (fun xs H Q => (∃ i, xs = [.int i] ∧ Q (.int i) H) ∨ ∃ k, xs = [.bl k] ∧ Q (.int (if k then 1 else 0)) H) gInt := ⟨fun ι H h xs ds c Q E R e q => by
  unfold gInt at e
  split at e
  · cases e
    obtain ⟨v, rfl, r⟩ := R.one
    exact .inl ⟨_, by rw [r.int'], q _ _ (na_val (.int _))⟩
  · cases e
    obtain ⟨v, rfl, r⟩ := R.one
    exact .inr ⟨_, by rw [r.bl'], q _ _ (na_val (.int _))⟩
  · cases e⟩
theorem on_list : OpAN K mg (fun xs H Q => ∃ p ys, xs = [.ref p] ∧ (SqL K H p ys ∨ SqT K H p ys) ∧ ∀ l, H l = none → Q (.ref l) (upd H l (.lst ys))) gList := ⟨fun ι H h xs ds c Q E R e q => by
  unfold gList at e
  split at e
  · rename_i n
    cases e1 : lstAt h n with
    | none => rw [e1] at e; cases e
    | some ys =>
      rw [e1] at e
      cases e
      obtain ⟨v, rfl, r⟩ := R.one
      obtain ⟨p, us, rfl, _, h1, rr⟩ := E.lst r (lstAt_eq e1)
      exact ⟨p, us, rfl, .inl (SqL.of h1), fun l hl => q _ _ (na_lst hl rr)⟩
  · cases e
    obtain ⟨v, rfl, r⟩ := R.one
    obtain ⟨p, us, rfl, h1, rr⟩ := r.tup'
    exact ⟨p, us, rfl, .inr (SqT.of h1), fun l hl => q _ _ (na_lst hl rr)⟩
  · cases e⟩
theorem on_tuple : OpAN K mg (fun xs H Q => ∃ p ys, xs = [.ref p] ∧ ((SqL K H p ys ∧ ∀ l, H l = none → Q (.ref l) (upd H l (.tup ys))) ∨ (SqT K H p ys ∧ Q (.ref p) H))) gTuple := ⟨fun ι H h xs ds c Q E R e q => by
  unfold gTuple at e
  split at e
  · rename_i n
    cases e1 : lstAt h n with
    | none => rw [e1] at e; cases e
    | some ys =>
      rw [e1] at e
      cases e
      obtain ⟨v, rfl, r⟩ := R.one
      obtain ⟨p, us, rfl, _, h1, rr⟩ := E.lst r (lstAt_eq e1)
      exact ⟨p, us, rfl, .inl ⟨SqL.of h1, fun l hl => q _ _ (na_tup hl rr)⟩⟩
  · cases e
    obtain ⟨v, rfl, r⟩ := R.one
    obtain ⟨p, us, rfl, h1, rr⟩ := r.tup'
    exact ⟨p, us, rfl, .inr ⟨SqT.of h1, q _ _ (na_val (.tup h1 rr))⟩⟩
  · cases e⟩
theorem on_len : OpAN K mg (fun xs H Q => ∃ x n, xs = [x] ∧ LenV K x H n ∧ Q (.int n) H) gLen := ⟨fun ι H h xs ds c Q E R e q => by
  unfold gLen at e
  split at e
  · rename_i n
    cases e1 : lstAt h n with
    | none => rw [e1] at e; cases e
    | some ys =>
      rw [e1] at e
      cases e
      obtain ⟨v, rfl, r⟩ := R.one
      obtain ⟨p, us, rfl, _, h1, rr⟩ := E.lst r (lstAt_eq e1)
      exact ⟨_, _, rfl, .inl ⟨us, SqL.of h1, rr.length.symm⟩, q _ _ (na_val (.int _))⟩
  · cases e
    obtain ⟨v, rfl, r⟩ := R.one
    obtain ⟨p, us, rfl, h1, rr⟩ := r.tup'
    exact ⟨_, _, rfl, .inr ⟨us, SqT.of h1, rr.length.symm⟩, q _ _ (na_val (.int _))⟩
  · rename_i ns
    cases e
    obtain ⟨v, rfl, r⟩ := R.one
    cases r with
    | @scr a0 _ s => exact ⟨_, _, rfl, .inl ⟨_, s.sq, by rw [List.length_map]⟩, q _ _ (na_val (.int _))⟩
  · cases e⟩
theorem intsA_rv : ∀ {vs : List V} {ds : List AV} {ns : List Int}, RVs K ι H vs ds → intsA ds = some ns → vs = ns.map V.int
  | _, _, _, .nil, e => by cases e; rfl
  | _, _, ns, .cons r h, e => by
    cases r with
    | int i =>
      simp only [intsA] at e
      cases e1 : intsA _ with
      | none => rw [e1] at e; cases e
      | some ms => rw [e1] at e; cases e; rw [intsA_rv h e1]; rfl
    | _ => cases e
theorem blsA_rv : ∀ {vs : List V} {ds : List AV} {ns : List Bool}, RVs K ι H vs ds → blsA ds = some ns → vs = ns.map V.bl
  | _, _, _, .nil, e => by cases e; rfl
  | _, _, ns, .cons r h, e => by
    cases r with
    | bl i =>
      simp only [blsA] at e
      cases e1 : blsA _ with
      | none => rw [e1] at e; cases e
      | some ms => rw [e1] at e; cases e; rw [blsA_rv h e1]; rfl
    | _ => cases e
theorem on_sum : OpAN K mg (rSum K) gSum := ⟨fun ι H h xs ds c Q E R e q => by
  unfold gSum at e
  split at e
  · rename_i n
    cases e1 : lstAt h n with
    | none => rw [e1] at e; cases e
    | some ys =>
      rw [e1] at e
      cases e2 : intsA ys with
      | none => rw [Option.bind_some, e2] at e; cases e
      | some ns =>
        rw [Option.bind_some, e2] at e
        cases e
        obtain ⟨v, rfl, r⟩ := R.one
        obtain ⟨p, us, rfl, _, h1, rr⟩ := E.lst r (lstAt_eq e1)
        exact ⟨p, ns, rfl, by rw [← intsA_rv rr e2]; exact SqL.of h1, q _ _ (na_val (.int _))⟩
  · cases e⟩
theorem on_all : OpAN K mg (rAll K) gAll := ⟨fun ι H h xs ds c Q E R e q => by
  unfold gAll at e
  split at e
  · rename_i n
    cases e1 : lstAt h n with
    | none => rw [e1] at e; cases e
    | some ys =>
      rw [e1] at e
      cases e2 : blsA ys with
      | none => rw [Option.bind_some, e2] at e; cases e
      | some ns =>
        rw [Option.bind_some, e2] at e
        cases e
        obtain ⟨v, rfl, r⟩ := R.one
        obtain ⟨p, us, rfl, _, h1, rr⟩ := E.lst r (lstAt_eq e1)
        exact ⟨p, ns, rfl, by rw [← blsA_rv rr e2]; exact SqL.of h1, q _ _ (na_val (.bl _))⟩
  · cases e⟩
theorem on_any : OpAN K mg (rAny K) gAny := ⟨fun ι H h xs ds c Q E R e q => by
  unfold gAny at e
  split at e
  · rename_i n
    cases e1 : lstAt h n with
    | none => rw [e1] at e; cases e
    | some ys =>
      rw [e1] at e
      cases e2 : blsA ys with
      | none => rw [Option.bind_some, e2] at e; cases e
      | some ns =>
        rw [Option.bind_some, e2] at e
        cases e
        obtain ⟨v, rfl, r⟩ := R.one
        obtain ⟨p, us, rfl, _, h1, rr⟩ := E.lst r (lstAt_eq e1)
        exact ⟨p, ns, rfl, by rw [← blsA_rv rr e2]; exact SqL.of h1, q _ _ (na_val (.bl _))⟩
  · cases e⟩
end
noncomputable def gRepr := liftN DP.gReprA
end HL
/-! HLF: sorted, stores, defs, calls, the law. -/
namespace HL
open PySem L2
/-! ### sorted -/
def keysA : List (Key × AV) → Option (List Int)
  | [] => some []
  | (.inl i, _) :: r => (keysA r).map (i :: ·)
  | (.inr _, _) :: _ => none
noncomputable def gSort : AH → List AV → Option RA := fun h xs =>
  match xs with
  | [.ref n] => match h[n]? with
    | some (.dic kvs) => match keysA kvs with
      | some ks => if ks.length < 64 then some (.new (.lst ((ks.mergeSort DP.leI).map .int))) else none
      | none => none
    | _ => liftN DP.gSorted h xs
  | _ => liftN DP.gSorted h xs
section
variable {K : PySem.W.Frag} {mg : Str → Option Value} {ι : List Addr} {H : Hp}
theorem keysA_eq : ∀ {kvs : List (Key × AV)} {ks : List Int}, keysA kvs = some ks → kvs.map (·.1) = ks.map Sum.inl
  | [], _, e => by cases e; rfl
  | (.inl i, _) :: r, ks, e => by
    simp only [keysA] at e
    cases e1 : keysA r with
    | none => rw [e1] at e; cases e
    | some l => rw [e1] at e; cases e; simp [keysA_eq e1]
  | (.inr _, _) :: _, _, e => by cases e
theorem on_sorted : OpAN K mg (fun vs H Q => DP.rSortedD K vs H Q ∨ DP.rSortedK K vs H Q) gSort := ⟨fun ι H h xs ds c Q E R e q => by
  unfold gSort at e
  split at e
  · split at e
    · rename_i n kvs hn
      split at e
      · rename_i ks hk
        split at e
        · rename_i h64
          cases e
          obtain ⟨v, rfl, r⟩ := R.one
          obtain ⟨p, us, rfl, _, h1, rr⟩ := E.dic r hn
          refine .inr ⟨p, us, ks, rfl, .inl h1, rr.k.trans (keysA_eq hk), h64, fun ys l p1 p2 hl => ?_⟩
          have : ys = ks.mergeSort DP.leI := DP.sorted_unique (p1.trans (List.mergeSort_perm ks DP.leI).symm) p2 (DP.msort_sorted ks)
          subst this
          exact q _ _ (na_lst hl (rv_ints _))
        · cases e
      · cases e
    · exact (opN_lift (DP.on_sorted K)).run ι H h xs _ c Q E R e q
  · exact (opN_lift (DP.on_sorted K)).run ι H h xs _ c Q E R e q⟩
end
/-! ### o[i] = v -/
def setAt (h : AH) (n : Nat) (k v : AV) : Option AH :=
  match h[n]? with
  | some (.lst ds) => match k with
    | .int i => (ixN ds.length i).map fun j => h.set n (.lst (ds.set j v))
    | _ => none
  | some (.dic kvs) => match keyA k with
    | some q => if DP.smallL kvs.length = true then some (h.set n (.dic (putA kvs q v))) else none
    | none => none
  | _ => none
def gSub1 (fo fk : EM AV) : AV → SM := fun d => bndS fo fun o => bndS fk fun k ρ h =>
  match o with
  | .ref n => match setAt h n k d with
    | some h' => .nx ρ h'
    | none => .no
  | _ => .no
section
variable {X : Cx} {W : WX} {K : PySem.W.Frag} {mg : Str → Option Value} {ι : List Addr} {H : Hp} {pos : Pos}
theorem sim_gsub {o ix : Expr} {fo fk : EM AV} (hu : X.A.units + 1 < cLine) (ho : SimE X W o fo) (hi : SimE X W ix fk)
    (ha : ∀ v, assign (.Subscript o ix pos) X.env v = (do
      let ov ← holding [v] (eval o X.env)
      let iv ← holding [v, ov] (eval ix X.env)
      standAt pos
      holding [v, ov, iv] (setItem ov iv v)
      release [v, ov, iv] []) := by intro _; rfl) : SimG X W (.Subscript o ix pos) (gSub1 fo fk) [] := by
  obtain ⟨t, po, ho⟩ := ho
  obtain ⟨u, pk, hi⟩ := hi
  refine ⟨_, pg_sub po pk (DP.set_all hu) ha, fun ι H h σ ρ v d Q E R q => ?_⟩
  have key : ∀ ι H h, ER X.K X.mg ι H σ ρ h → ∀ {QQ : VK} {f : EM AV} {k : AV → SM}, PstG X.K X.mg W [] ι H σ Q (bndS f k ρ h) → (∀ a ι1 H1 h1 b, ER X.K X.mg ι1 H1 σ ρ h1 → Stp ι H ι1 H1 → RV X.K ι1 H1 b a → PstG X.K X.mg W [] ι H σ Q (k a ρ h1) → QQ b H1) → Pst X.K X.mg W ι H σ (RV X.K) QQ (f ρ h) := by
    intro ι H h E QQ f k q hk
    unfold bndS RR.ou at q
    cases e : f ρ h with
    | ok a h1 =>
      rw [e] at q
      exact fun ι1 H1 b E1 S r => hk a ι1 H1 h1 b (E.stp E1 S) S r q
    | ex x h1 =>
      rw [e] at q
      exact fun ι1 H1 cls dd E1 S X => q ι1 H1 σ cls dd (E.stp E1 S) S X
    | no => rw [e] at q; exact q
  have aft : ∀ {ι H ι1 H1 : _} {o : Ou}, Stp ι H ι1 H1 → PstG X.K X.mg W [] ι H σ Q o → PstG X.K X.mg W [] ι1 H1 σ Q o := by
    intro ι H ι1 H1 o S q
    cases o with
    | nx ρ' h' => exact fun ι' H' σ' E l => q ι' H' σ' E (S.trans l)
    | ex x ρ' h' => exact fun ι' H' σ' c d E l => q ι' H' σ' c d E (S.trans l)
    | rt _ _ => exact q
    | bk _ _ => exact q
    | ct _ _ => exact q
    | no => exact q
  refine ho ι H h σ ρ E _ (key ι H h E q fun a ι1 H1 h1 b E1 S1 R1 q1 => ?_)
  refine hi ι1 H1 h1 σ ρ E1 _ (key ι1 H1 h1 E1 (aft S1 q1) fun k ι2 H2 h2 kv E2 S2 R2 q2 => ?_)
  have R' := R.kp ((S1.trans S2).k E.rel)
  have R1' := R1.kp (S2.k E1.rel)
  split at q2
  · rename_i n
    cases es : setAt h2 n k d with
    | none => rw [es] at q2; exact q2.elim
    | some h3 =>
      rw [es] at q2
      have q3 := aft S2 q2
      unfold setAt at es
      split at es
      · rename_i ds hn
        split at es
        · rename_i i
          cases ej : ixN ds.length i with
          | none => rw [ej] at es; cases es
          | some j =>
            rw [ej] at es
            cases es
            obtain ⟨p, xs, rfl, hp, hx, rx⟩ := E2.rel.lst R1' hn
            obtain ⟨E3, S3⟩ := E2.rel.put (c := .lst (ds.set j d)) (o := .lst (xs.set j v)) hp (nofzL hx) fun k => ⟨_, upd_same, (rx.kp k).set (R'.kp k) j⟩
            exact .inl ⟨p, xs, i, j, rfl, R2.int', hx, by rw [rx.length]; exact ej, q3 ι2 _ σ (E2.stp E3 S3) S3 (fun _ _ => rfl) rfl⟩
        · cases es
      · rename_i kvs hn
        split at es
        · rename_i qk hk
          split at es
          · rename_i hz
            cases es
            obtain ⟨p, xs, rfl, hp, hx, rx⟩ := E2.rel.dic R1' hn
            obtain ⟨E3, S3⟩ := E2.rel.put (c := .dic (putA kvs qk d)) (o := .dK (putK xs qk v)) hp (nofzD hx) fun k => ⟨_, upd_same, (rx.kp k).put qk (R'.kp k)⟩
            exact .inr ⟨p, qk, xs, rfl, keyA_rv R2 hk, hx, by rw [rx.len]; exact DP.smallL_lt hz, q3 ι2 _ σ (E2.stp E3 S3) S3 (fun _ _ => rfl) rfl⟩
          · cases es
        · cases es
      · cases es
  · exact q2.elim
end
/-! ### defs -/
def PstF (K : PySem.W.Frag) (mg : Str → Option Value) (ι : List Addr) (H : Hp) (Q : VK) (E : XK) : RR AV → Prop
  | .ok d h' => ∀ ι' H' v, Rel K mg ι' H' h' → Stp ι H ι' H' → RV K ι' H' v d → Q v H'
  | .ex e h' => ∀ ι' H' cls d, Rel K mg ι' H' h' → Stp ι H ι' H' → XR K mg ι' H' e cls d → E cls d H'
  | .no => False
abbrev FM := List AV → AH → RR AV
def spH (K : PySem.W.Frag) (mg : Str → Option Value) (n : Nat) (m : FM) : Sp := fun vs H Q E => ∃ ι h ds, Rel K mg ι H h ∧ RVs K ι H vs ds ∧ ds.length = n ∧ PstF K mg ι H Q E (m ds h)
def startE (n : Nat) (ds : List AV) : Env := ds.map some ++ List.replicate (n - ds.length) none
def Ou.fin (o : Ou) : RR AV :=
  match o with
  | .nx _ h => .ok .non h
  | .rt d h => .ok d h
  | .ex e _ h => .ex e h
  | _ => .no
def runH (n : Nat) (b : SM) : FM := fun ds h => (b (startE n ds) h).fin
def RR.calm {α : Type} (r : RR α) : RR α :=
  match r with
  | .ex _ _ => .no
  | r => r
section
variable {K : PySem.W.Frag} {mg : Str → Option Value} {ι : List Addr} {H : Hp} {h : AH} {vs : List V} {ds : List AV} {N : List Str} {W : WX} {b : SM} {Q : VK} {E : XK}
theorem ER.begin (R : Rel K mg ι H h) (r : RVs K ι H vs ds) : ER K mg ι H (L2.start N vs) (startE N.length ds) h := by
  have hl := r.length
  refine ⟨R, by simp [L2.start, startE, hl], fun i d e => ?_⟩
  unfold startE at e
  by_cases hi : i < ds.length
  · rw [List.getElem?_append_left (by simpa using hi), List.getElem?_map] at e
    cases e1 : ds[i]? with
    | none => rw [e1] at e; cases e
    | some x =>
      rw [e1] at e
      cases e
      obtain ⟨v, e2, r⟩ := r.get e1
      refine ⟨v, ?_, r⟩
      unfold L2.start
      rw [List.getElem?_append_left (by simp [hl]; exact hi), List.getElem?_map, e2]
      rfl
  · rw [List.getElem?_append_right (by simpa using hi), List.getElem?_replicate] at e
    split at e <;> cases e
theorem run_fin {o : Ou} (q : PstF K mg ι H Q E o.fin) (hW : ∀ cls d σ H', E cls d H' → W cls d σ H') : PstS K mg W ι H { nx := fun _ H' => Q .non H', rt := Q } o := by
  cases o with
  | nx ρ h => exact fun ι' H' σ' E' S => q ι' H' .non E'.rel S .non
  | rt d h => exact q
  | ex e ρ h => exact fun ι' H' σ' c d E' S X => hW _ _ _ _ (q ι' H' c d E'.rel S X)
  | bk _ _ => exact (show False from q).elim
  | ct _ _ => exact (show False from q).elim
  | no => exact q
theorem calm_ok {r : RR AV} (q : PstF K mg ι H Q E r.calm) : PstF K mg ι H Q (fun _ _ _ => False) r := by
  cases r with
  | ok d h => exact q
  | ex e h => exact q.elim
  | no => exact q
end
section
variable {P : Program} {w : World} {K : PySem.W.Frag} {mg : Str → Option Value} {base : Heap} {x qual : Str} {ar : Arguments} {bd : List Stmt} {sc : Scope} {f : Addr} {fd : FuncData} {N ps : List Str} {k : Nat} {b : SM} {dvs : List V} {kws : List (Str × V)}
theorem fn_simH (F : FunD K x qual ar bd sc dvs kws f fd) (S : FnScope N ps sc)
    (hb : ∀ (cdv : Value) (A : Around) (outer : List PySem.Env) (s : Shared) (H : Hp) (E : XK), DP.Quiet (A.deeper (PyProof.Rows.envOfC qual sc s.heap.objs.size f cdv)) → Room k (A.deeper (PyProof.Rows.envOfC qual sc s.heap.objs.size f cdv)) → SimB (cxOf CX0 P w K mg base N qual sc f cdv A outer s H E).nox noW bd b) :
    DP.GFn P w K mg base CX0 (k + 1) f fd ps (spH K mg ps.length fun ds h => (runH N.length b ds h).calm) := by
  refine DP.gfn_of F S (fun vs H Q E ⟨ι, h, ds, _, r, l, _⟩ => by rw [r.length, l]) fun cdv A outer s H vs Q E hz hr ⟨ι, h, ds, R, r, l, q⟩ => ?_
  obtain ⟨t, p, hh⟩ := hb cdv A outer s H E hz hr
  exact ⟨t, PSs.nox p, hh ι H h _ _ _ (ER.begin R r) (run_fin (calm_ok q) fun _ _ _ _ z => z)⟩
end
structure CalH (P : Program) (w : World) (K : PySem.W.Frag) (mg : Str → Option Value) (base : Heap) (k : Nat) (x : Str) (ps : List Str) (m : FM) : Prop where
  ex : ∃ (f : Addr) (fd : FuncData), DP.GFn P w K mg base CX0 k f fd ps (spH K mg ps.length m) ∧ mg x = some (.ref f) ∧ PySem.W.keepIn K (.ref f) = true ∧ Binds K fd ps []
structure CalKH (P : Program) (w : World) (K : PySem.W.Frag) (mg : Str → Option Value) (base : Heap) (k : Nat) (x : Str) (ps ks : List Str) (pi : List Nat) (m : FM) : Prop where
  ex : ∃ (f : Addr) (fd : FuncData), DP.GFn P w K mg base CX0 k f fd ps (spH K mg ps.length m) ∧ mg x = some (.ref f) ∧ PySem.W.keepIn K (.ref f) = true ∧ DP.KwB K fd ps ks pi
def eCall (n : Nat) (m : FM) (fa : EM (List AV)) : EM AV := bnd fa fun ds _ h => if ds.length = n then m ds h else .no
def eCallK (n : Nat) (m : FM) (k : Nat) (pi : List Nat) (fa : EM (List AV)) : EM AV := bnd fa fun ds _ h => if ds.length = k ∧ (DP.pick pi ds).length = n then m (DP.pick pi ds) h else .no
def SimK (X : Cx) (W : WX) (kws : List Keyword) (f : EM (List AV)) : Prop := ∃ t : TA, PK X kws t ∧ ∀ ι H h σ ρ, ER X.K X.mg ι H σ ρ h → ∀ Q : List V → Hp → Prop, Pst X.K X.mg W ι H σ (RVs X.K) Q (f ρ h) → t σ H Q
section
variable {X : Cx} {W : WX} {k : Nat} {ps ks : List Str} {pi : List Nat} {x : Str} {p pos : Pos} {e : Expr} {es : List Expr} {kws : List Keyword} {fs : EM (List AV)} {m : FM}
theorem pst_call {n : Nat} {ι0 ι : List Addr} {H0 H : Hp} {h : AH} {σ : L2.St} {ρ : Env} {vs : List V} {ds : List AV} {Q : VK} (E : Rel X.K X.mg ι H h) (S : Stp ι0 H0 ι H) (r : RVs X.K ι H vs ds) (q : Pst X.K X.mg W ι0 H0 σ (RV X.K) Q (if ds.length = n then m ds h else .no)) : spH X.K X.mg n m vs H Q fun cls d H' => W cls d σ H' := by
  split at q
  · rename_i hl
    refine ⟨ι, h, ds, E, r, hl, ?_⟩
    cases e1 : m ds h with
    | ok d h' => rw [e1] at q; exact fun ι' H' v E' S' R' => q ι' H' v E' (S.trans S') R'
    | ex y h' => rw [e1] at q; exact fun ι' H' c d E' S' R' => q ι' H' c d E' (S.trans S') R'
    | no => rw [e1] at q; exact q
  · exact q.elim
theorem sim_call (C : CalH X.prog X.w X.K X.mg X.base k x ps m) (hq : DP.Quiet X.A) (hr : Room k X.A) (hg : Gl X x) (ha : SimA X W (e :: es) fs) {n : Nat} (hn : ps.length = n := by rfl)
    (hdb : (x == ("__debug__" : Str)) = false := by decide) (he : starEach (e :: es) X.env = (false, eval e X.env) :: starEach es X.env := by rfl) (hpl : (backTo pos (starEach es X.env)).any (·.1) = false := by rfl) : SimE X W (.Call (.Name x p) (e :: es) [] pos) (eCall n m fs) := by
  subst hn
  obtain ⟨f, fd, F, h1, h2, h3⟩ := C.ex
  obtain ⟨t, pa, ha⟩ := ha
  refine ⟨_, DP.pe_callG (E := fun σ cls d H => W cls d σ H) F hq hr hg h1 h2 h3 (fun σ => DP.pass0S σ _) pa hdb he hpl, fun ι H h σ ρ E Q q => ?_⟩
  exact ha ι H h σ ρ E _ (q.split fun ds ι1 H1 h1 vs E1 S1 R1 q1 => pst_call (ρ := ρ) E1 S1 R1 q1)
theorem sim_knil : SimK X W [] aNil := ⟨_, pk_nil, fun ι H h σ ρ E Q q => q ι H [] E.rel Stp.refl .nil⟩
theorem sim_kcons {nm : Option Str} {kpos : Pos} {fe : EM AV} (q : SimE X W e fe) (hs : SimK X W kws fs) : SimK X W (⟨nm, e, kpos⟩ :: kws) (aCons fe fs) := by
  obtain ⟨t, pe, q⟩ := q
  obtain ⟨u, pk, hs⟩ := hs
  refine ⟨_, pk_cons pe pk, fun ι H h σ ρ E Q z => ?_⟩
  refine q ι H h σ ρ E _ (z.split fun x ι1 H1 h1 v1 E1 S1 R1 q1 => ?_)
  refine hs ι1 H1 h1 σ ρ (E.stp E1 S1) _ ((q1.after S1).split fun xs ι2 H2 h2 vs E2 S2 R2 q2 => ?_)
  exact q2 ι2 H2 (v1 :: vs) E2 S2 (.cons (R1.kp (S2.k E1)) R2)
theorem rvs_at {K : PySem.W.Frag} {ι : List Addr} {H : Hp} : ∀ {vs : List V} {us : List AV} (i : Nat), RVs K ι H vs us → (vs[i]? = none ∧ us[i]? = none) ∨ ∃ v u, vs[i]? = some v ∧ us[i]? = some u ∧ RV K ι H v u
  | _, _, _, .nil => .inl ⟨rfl, rfl⟩
  | _, _, 0, .cons r _ => .inr ⟨_, _, rfl, rfl, r⟩
  | _, _, i + 1, .cons _ h => by simpa using rvs_at i h
theorem RVs.pick {K : PySem.W.Frag} {ι : List Addr} {H : Hp} {vs : List V} {us : List AV} (r : RVs K ι H vs us) : ∀ pi : List Nat, RVs K ι H (DP.pick pi vs) (DP.pick pi us)
  | [] => .nil
  | i :: pi => by
    unfold DP.pick
    rw [List.filterMap_cons, List.filterMap_cons]
    rcases rvs_at i r with ⟨e1, e2⟩ | ⟨v, u, e1, e2, q⟩
    · rw [e1, e2]; exact RVs.pick r pi
    · rw [e1, e2]; exact .cons q (RVs.pick r pi)
theorem sim_callK {n j : Nat} (C : CalKH X.prog X.w X.K X.mg X.base k x ps ks pi m) (hq : DP.Quiet X.A) (hr : Room k X.A) (hg : Gl X x) (ha : SimK X W kws fs) (hn : kws.length = ks.length) (hlen : ks.length = j) (hpn : ps.length = n)
    (hall : (backToKw pos (keywordEach kws X.env)).all (·.1.isSome) = true := by rfl) (hks : (backToKw pos (keywordEach kws X.env)).filterMap (·.1) = ks := by rfl)
    (hdb : (x == ("__debug__" : Str)) = false := by decide) (hpl : ((backTo pos (starEach [] X.env)).any (·.1) || (backToKw pos (keywordEach kws X.env)).any (·.1.isNone)) = false := by rfl) :
    SimE X W (.Call (.Name x p) [] kws pos) (eCallK n m j pi fs) := by
  subst hlen hpn
  obtain ⟨f, fd, F, h1, h2, h3⟩ := C.ex
  obtain ⟨t, pk, h0⟩ := ha
  refine ⟨_, DP.pe_callK (E := fun σ cls d H => W cls d σ H) F hq hr hg h1 h2 h3 (fun σ => DP.pass0S σ _) pk hn hall hks hdb hpl, fun ι H h σ ρ E Q q => ?_⟩
  refine h0 ι H h σ ρ E _ (q.split fun ds ι1 H1 h1 vs E1 S1 R1 q1 => ?_)
  split at q1
  · rename_i hc
    refine ⟨by rw [R1.length]; exact hc.1, pst_call (n := ps.length) (ρ := ρ) E1 S1 (R1.pick pi) ?_⟩
    rw [if_pos hc.2]
    exact q1
  · exact q1.elim
end
/-! ### the law -/
theorem scr_of {K : PySem.W.Frag} {H : Hp} {a : Addr} {xs : List V} (hO : Only H) (hS : SqL K H a xs) : ScrH K H a xs := by
  rcases hS with hr | hr
  · rcases hO a with e | ⟨o, ys, e⟩
    · rcases hr with q | ⟨o, q⟩ <;> rw [e] at q <;> cases q
    · rcases hr with q | ⟨o', q⟩
      · rw [e] at q; cases q
      · exact .inl ⟨o', q⟩
  · exact .inr fun _ => .inr hr
theorem law_sp {K : PySem.W.Frag} {mg : Str → Option Value} {m : FM} {H : Hp} {a : Addr} {ns : List Int} (hO : Only H) (hS : SqL K H a (ns.map V.int)) (hm : ∃ h', m [.scr ns] [] = .ok (.bl true) h') :
    spH K mg 1 m [.ref a] H (fun v _ => v = .bl true) fun _ _ _ => False := by
  obtain ⟨h', e⟩ := hm
  refine ⟨[], [], [.scr ns], ⟨rfl, List.nodup_nil, fun n c a e _ => by simp at e⟩, .cons (.scr (scr_of hO hS)) .nil, rfl, ?_⟩
  rw [e]
  intro ι' H' v _ _ r
  exact r.bl'
end HL
/-! HLG: isinstance, methods of built-in types, further statements, what is walked. -/
namespace HL
open PySem L2
/-! ### isinstance of built-in types -/
def tyA (h : AH) : AV → Option String
  | .non => some "NoneType"
  | .bl _ => some "bool"
  | .int _ => some "int"
  | .str _ => some "str"
  | .tup _ => some "tuple"
  | .scr _ => none
  | .wt _ => none
  | .ref n => match h[n]? with
    | some (.lst _) => some "list"
    | some (.dic _) => some "dict"
    | some (.set _) => some "set"
    | _ => none
def isiA (T : String) (h : AH) (x : AV) : Option Bool := (tyA h x).bind fun a => kitB a T
def isiA2 (T U : String) (h : AH) (x : AV) : Option Bool := match isiA T h x with
  | some true => some true
  | some false => isiA U h x
  | none => none
def gIsi (T : String) : AH → AV → Option RA := fun h x => (isiA T h x).map fun b => .val (.bl b)
def gIsi2 (T U : String) : AH → AV → Option RA := fun h x => (isiA2 T U h x).map fun b => .val (.bl b)
section
variable {X : Cx} {W : WX} {K : PySem.W.Frag} {mg : Str → Option Value} {ι : List Addr} {H H' : Hp} {h : AH} {e : Expr} {fe : EM AV} {x y : Str} {T U : String} {p p2 p3 p4 pos : Pos} {kt : Nat}
theorem tyA_x (E : Rel K mg ι H h) {v : V} {d : AV} {T : String} (r : RV K ι H v d) (e : tyA h d = some T) (kp : ∀ b o, H b = some o → H' b = some o) : TyX K H' v (.type T) := by
  cases r with
  | non => cases e; exact .base .non
  | bl b => cases e; exact .base (.bl b)
  | int b => cases e; exact .base (.int b)
  | str b => cases e; exact .base (.str b)
  | tup hr r => cases e; exact .base (.tup (kp _ _ hr))
  | scr _ => cases e
  | wt _ _ => cases e
  | @ref a n hn =>
    unfold tyA at e
    split at e
    all_goals try (cases e; done)
    all_goals rename_i hh; try (simp only [AV.ref.injEq] at hh; subst hh)
    all_goals
      first
        | (split at e
           · rename_i xs e1; cases e; obtain ⟨vs, e2, _⟩ := E.cell _ _ _ e1 hn; exact .base (.lst (kp _ _ e2))
           · rename_i xs e1; cases e; obtain ⟨vs, e2, _⟩ := E.cell _ _ _ e1 hn; exact .base (.dK (kp _ _ e2))
           · rename_i xs e1; cases e; obtain ⟨e2, _⟩ := E.cell _ _ _ e1 hn; exact .set (kp _ _ e2)
           · cases e)
        | cases hh
theorem isi_ty {v : V} {d : AV} {b : Bool} (E : Rel K mg ι H h) (r : RV K ι H v d) (e : isiA T h d = some b) (kp : ∀ b o, H b = some o → H' b = some o) : ∃ a, TyX K H' v (.type a) ∧ kitB a T = some b := by
  unfold isiA at e
  cases e1 : tyA h d with
  | none => rw [e1] at e; cases e
  | some a => rw [e1] at e; exact ⟨a, tyA_x E r e1 kp, e⟩
theorem sim_isi (hgl : Gl X "isinstance") (hm : X.mg "isinstance" = none) (hv : bootBuiltins "isinstance" = some (.builtin "isinstance")) (hgl2 : Gl X x) (hm2 : X.mg x = none) (hv2 : bootBuiltins x = some (.type T)) (q : SimE X W e fe)
    (hn : x ≠ "__name__" := by decide) (hd : (x == ("__debug__" : Str)) = false := by decide) (he : starEach (e :: [.Name x p2]) X.env = (false, eval e X.env) :: starEach [.Name x p2] X.env := by rfl) (he2 : starEach (.Name x p2 :: []) X.env = (false, eval (.Name x p2) X.env) :: starEach [] X.env := by rfl) (hpl : (backTo pos (starEach [.Name x p2] X.env)).any (·.1) = false := by rfl) :
    SimE X W (.Call (.Name "isinstance" p) [e, .Name x p2] [] pos) (eOp1 (gIsi T) fe) := by
  obtain ⟨t, pe, h0⟩ := q
  refine ⟨_, pe_callB call_isi hgl hm hv (pa_cons pe (pa_cons (pe_bltn (v := .ty T) hgl2 hm2 hv2 rfl hn hd) pa_nil he2) he) (by decide) (by decide) he hpl, fun ι H h σ ρ E Q q => ?_⟩
  refine h0 ι H h σ ρ E _ (q.split fun d ι1 H1 h1 v E1 S1 R1 q1 => ?_)
  obtain ⟨c, e4, q3⟩ := q1.op E1 S1
  unfold gIsi at e4
  cases hk : isiA T h1 d with
  | none => rw [hk] at e4; cases e4
  | some b =>
    rw [hk] at e4
    cases e4
    obtain ⟨a, ty, hb⟩ := isi_ty (H' := H1) E1 R1 hk fun _ _ z => z
    exact ⟨v, .ty T, .type a, .type T, b, rfl, .ty T, ty, kit_ty hb, q3 _ _ (na_val (.bl b))⟩
theorem sim_isi2 (hgl : Gl X "isinstance") (hm : X.mg "isinstance" = none) (hv : bootBuiltins "isinstance" = some (.builtin "isinstance")) (hgl2 : Gl X x) (hm2 : X.mg x = none) (hv2 : bootBuiltins x = some (.type T)) (hgl3 : Gl X y) (hm3 : X.mg y = none) (hv3 : bootBuiltins y = some (.type U)) (q : SimE X W e fe)
    (hn : x ≠ "__name__" := by decide) (hd : (x == ("__debug__" : Str)) = false := by decide) (hn3 : y ≠ "__name__" := by decide) (hd3 : (y == ("__debug__" : Str)) = false := by decide)
    (he : starEach (e :: [.Tuple [.Name x p2, .Name y p3] kt p4]) X.env = (false, eval e X.env) :: starEach [.Tuple [.Name x p2, .Name y p3] kt p4] X.env := by rfl) (he2 : starEach (.Tuple [.Name x p2, .Name y p3] kt p4 :: []) X.env = (false, eval (.Tuple [.Name x p2, .Name y p3] kt p4) X.env) :: starEach [] X.env := by rfl)
    (hpl : (backTo pos (starEach [.Tuple [.Name x p2, .Name y p3] kt p4] X.env)).any (·.1) = false := by rfl)
    (hi : starEach (.Name x p2 :: [.Name y p3]) X.env = (false, eval (.Name x p2) X.env) :: starEach [.Name y p3] X.env := by rfl) (hi2 : starEach (.Name y p3 :: []) X.env = (false, eval (.Name y p3) X.env) :: starEach [] X.env := by rfl) :
    SimE X W (.Call (.Name "isinstance" p) [e, .Tuple [.Name x p2, .Name y p3] kt p4] [] pos) (eOp1 (gIsi2 T U) fe) := by
  obtain ⟨t, pe, h0⟩ := q
  refine ⟨_, pe_callB call_isiT hgl hm hv (pa_cons pe (pa_cons (pe_tup (pa_cons (pe_bltn (v := .ty T) hgl2 hm2 hv2 rfl hn hd) (pa_cons (pe_bltn (v := .ty U) hgl3 hm3 hv3 rfl hn3 hd3) pa_nil hi2) hi)) pa_nil he2) he) (by decide) (by decide) he hpl, fun ι H h σ ρ E Q q => ?_⟩
  refine h0 ι H h σ ρ E _ (q.split fun d ι1 H1 h1 v E1 S1 R1 q1 => ?_)
  obtain ⟨c, e4, q3⟩ := q1.op E1 S1
  unfold gIsi2 at e4
  cases hk : isiA2 T U h1 d with
  | none => rw [hk] at e4; cases e4
  | some b =>
    rw [hk] at e4
    cases e4
    refine ⟨(by show 2 ≤ sizeLine; decide), fun q hq => ?_⟩
    have kp : ∀ b o, H1 b = some o → (upd H1 q (.tup [V.ty T, V.ty U])) b = some o := ext_of hq
    cases et : tyA h1 d with
    | none => simp only [isiA2, isiA, et, Option.bind_none] at hk; cases hk
    | some a =>
      simp only [isiA2, isiA, et, Option.bind_some] at hk
      have ty := tyA_x (H' := upd H1 q (.tup [V.ty T, V.ty U])) E1 R1 et kp
      refine ⟨v, q, [.ty T, .ty U], .type a, [.type T, .type U], b, rfl, upd_same, .cons (.ty T) (.cons (.ty U) .nil), ty, ?_, q3 _ _ ⟨kp, .bl b⟩⟩
      split at hk
      · rename_i z1
        cases hk
        exact kitAny_cons (kit_ty z1) (fun z => by cases z) fun _ => rfl
      · rename_i z1
        exact kitAny_cons (kit_ty z1) (fun _ => by
          cases b with
          | true => exact kitAny_cons (kit_ty hk) (fun z => by cases z) fun _ => rfl
          | false => exact kitAny_cons (kit_ty hk) (fun _ => kitAny_nil) fun z => by cases z) fun z => by cases z
      · cases hk
end
/-! ### methods of built-in types -/
abbrev MR := AH → AV → List AV → Option (AV × AH)
structure OpM (K : PySem.W.Frag) (mg : Str → Option Value) (r : V → List V → Hp → VK → Prop) (g : MR) : Prop where
  run : ∀ ι H h x xs a as d h' (Q : VK), Rel K mg ι H h → RV K ι H x a → RVs K ι H xs as → g h a as = some (d, h') → (∀ ι' H' v, Rel K mg ι' H' h' → Stp ι H ι' H' → RV K ι' H' v d → Q v H') → r x xs H Q
def tyM (T : String) (h : AH) (a : AV) : Bool :=
  match a with
  | .str _ => decide (T = "str")
  | .ref n => match h[n]? with
    | some (.lst _) => decide (T = "list")
    | some (.dic _) => decide (T = "dict")
    | some (.set _) => decide (T = "set")
    | _ => false
  | _ => false
def eMeth (T : String) (g : MR) (fo : EM AV) (fa : EM (List AV)) : EM AV := bnd fo fun x => fun ρ h => if tyM T h x = true then bnd fa (fun xs _ h => match g h x xs with
  | some (d, h') => .ok d h'
  | none => .no) ρ h else .no
section
variable {X : Cx} {W : WX} {K : PySem.W.Frag} {mg : Str → Option Value} {ι : List Addr} {H H' : Hp} {h : AH} {o e : Expr} {es : List Expr} {fo : EM AV} {fs : EM (List AV)} {name : Str} {apos cpos : Pos} {T id : String} {r : V → List V → Hp → VK → Prop} {g : MR}
theorem tyM_v (E : Rel K mg ι H h) {v : V} {a : AV} (R : RV K ι H v a) (e : tyM T h a = true) : tyV K T v H := by
  cases R with
  | str x => exact (of_decide_eq_true (p := T = "str") e)
  | @ref p n hn =>
    unfold tyM at e
    dsimp only at e
    split at e
    · rename_i xs e1
      obtain ⟨vs, e2, _⟩ := E.cell _ _ _ e1 hn
      exact .inl ⟨of_decide_eq_true e, vs, SqL.of e2⟩
    · rename_i xs e1
      obtain ⟨vs, e2, _⟩ := E.cell _ _ _ e1 hn
      exact .inr (.inr (.inl ⟨of_decide_eq_true e, .inl ⟨vs, e2⟩⟩))
    · rename_i xs e1
      obtain ⟨e2, _⟩ := E.cell _ _ _ e1 hn
      exact .inr (.inr (.inr ⟨of_decide_eq_true e, _, _, e2⟩))
    · cases e
  | _ => cases e
theorem sim_bm (pa : PlainAttrs T) (slot : Slot T name id) (hty : typeOf (.builtin id) = pure (.type "method_descriptor")) (hm : MtR X id r) (hg : OpM X.K X.mg r g) (ho : SimE X W o fo) (ha : SimA X W (e :: es) fs)
    (hbase : attributeBase o name X.env (eval o X.env) = eval o X.env := by rfl)
    (hfew : ((backTo cpos (starEach (e :: es) X.env)).all (fun x => !x.1) && (backToKw cpos (keywordEach [] X.env)).all (fun x => x.1.isSome)
      && decide ((e :: es).length + ([] : List Keyword).length + (if ([] : List Keyword).isEmpty then 0 else 1) < 30)) = true := by rfl)
    (hline : (apos.endLine == cpos.line) = true := by rfl) (hs : starEach (e :: es) X.env = (false, eval e X.env) :: starEach es X.env := by rfl) (hplain : (backTo cpos (starEach es X.env)).any (·.1) = false := by rfl) :
    SimE X W (.Call (.Attribute o name apos) (e :: es) [] cpos) (eMeth T g fo fs) := by
  obtain ⟨t, po, ho⟩ := ho
  obtain ⟨u, pa', ha⟩ := ha
  refine ⟨_, pe_bm pa slot hty hm po pa' hbase hfew hline hs hplain, fun ι H h σ ρ E Q q => ?_⟩
  refine ho ι H h σ ρ E _ (q.split fun x ι1 H1 h1 v E1 S1 R1 q1 => ?_)
  split at q1
  · rename_i hc
    refine ⟨tyM_v E1 R1 hc, ha ι1 H1 h1 σ ρ (E.stp E1 S1) _ ((q1.after S1).split fun xs ι2 H2 h2 vs E2 S2 R2 q2 => ?_)⟩
    cases eg : g h2 x xs with
    | none => rw [eg] at q2; exact q2.elim
    | some p =>
      obtain ⟨d, h3⟩ := p
      rw [eg] at q2
      exact hg.run ι2 H2 h2 v vs x xs d h3 Q E2 (R1.kp (S2.k E1)) R2 eg fun ι' H' w E' S' R' => q2 ι' H' w E' (S2.trans S') R'
  · exact q1.elim
theorem sim_bm0 (pa : PlainAttrs T) (slot : Slot T name id) (hty : typeOf (.builtin id) = pure (.type "method_descriptor")) (hm : MtR X id r) (hg : OpM X.K X.mg r g) (ho : SimE X W o fo)
    (hbase : attributeBase o name X.env (eval o X.env) = eval o X.env := by rfl) (hline : (apos.endLine == cpos.line) = true := by rfl) :
    SimE X W (.Call (.Attribute o name apos) [] [] cpos) (eMeth T g fo aNil) := by
  obtain ⟨t, po, ho⟩ := ho
  refine ⟨_, pe_bm0 pa slot hty hm po hbase hline, fun ι H h σ ρ E Q q => ?_⟩
  refine ho ι H h σ ρ E _ (q.split fun x ι1 H1 h1 v E1 S1 R1 q1 => ?_)
  split at q1
  · rename_i hc
    refine ⟨tyM_v E1 R1 hc, ?_⟩
    unfold bnd RR.bind aNil retM at q1
    dsimp only at q1
    cases eg : g h1 x [] with
    | none => rw [eg] at q1; exact q1.elim
    | some p =>
      obtain ⟨d, h3⟩ := p
      rw [eg] at q1
      exact hg.run ι1 H1 h1 v [] x [] d h3 Q E1 R1 .nil eg fun ι' H' w E' S' R' => q1 ι' H' w E' (S1.trans S') R'
  · exact q1.elim
/-! lists -/
def mAppend : MR := fun h a as =>
  match a, as with
  | .ref n, [d] => (lstAt h n).bind fun xs => if DP.smallL xs.length = true then some (.non, h.set n (.lst (xs ++ [d]))) else none
  | _, _ => none
theorem om_append : OpM K mg rAppend mAppend := ⟨fun ι H h x xs a as d h' Q E R Rs e q => by
  unfold mAppend at e
  split at e
  · rename_i n d
    cases e1 : lstAt h n with
    | none => rw [e1] at e; cases e
    | some ys =>
      rw [e1, Option.bind_some] at e
      split at e
      · rename_i hz
        cases e
        obtain ⟨p, us, rfl, hp, h1, rr⟩ := E.lst R (lstAt_eq e1)
        obtain ⟨w, rfl, rw'⟩ := Rs.one
        obtain ⟨E3, S3⟩ := E.put (c := .lst (ys ++ [d])) (o := .lst (us ++ [w])) hp (nofzL h1) fun k => ⟨_, upd_same, (rr.kp k).snoc (rw'.kp k)⟩
        exact ⟨p, us, w, rfl, rfl, h1, by rw [rr.length]; exact DP.smallL_lt hz, q ι _ _ E3 S3 .non⟩
      · cases e
  · cases e⟩
def mExtend : MR := fun h a as =>
  match a, as with
  | .ref n, [.ref m] => (lstAt h n).bind fun xs => (lstAt h m).bind fun ys => if DP.smallL (xs.length + ys.length) = true then some (.non, h.set n (.lst (xs ++ ys))) else none
  | _, _ => none
theorem om_extend : OpM K mg rExtend mExtend := ⟨fun ι H h x xs a as d h' Q E R Rs e q => by
  unfold mExtend at e
  split at e
  · rename_i n m
    cases e1 : lstAt h n with
    | none => rw [e1] at e; cases e
    | some ys =>
      cases e2 : lstAt h m with
      | none => rw [e1, Option.bind_some, e2] at e; cases e
      | some zs =>
        rw [e1, Option.bind_some, e2, Option.bind_some] at e
        split at e
        · rename_i hz
          cases e
          obtain ⟨p, us, rfl, hp, h1, rr⟩ := E.lst R (lstAt_eq e1)
          obtain ⟨w, rfl, rw'⟩ := Rs.one
          obtain ⟨b, ws, rfl, hb, h2, r2⟩ := E.lst rw' (lstAt_eq e2)
          obtain ⟨E3, S3⟩ := E.put (c := .lst (ys ++ zs)) (o := .lst (us ++ ws)) hp (nofzL h1) fun k => ⟨_, upd_same, (rr.kp k).append (r2.kp k)⟩
          exact ⟨p, b, us, ws, rfl, rfl, h1, h2, by rw [rr.length, r2.length]; exact DP.smallL_le hz, q ι _ _ E3 S3 .non⟩
        · cases e
  · cases e⟩
def mClear : MR := fun h a as =>
  match a, as with
  | .ref n, [] => (lstAt h n).map fun _ => (.non, h.set n (.lst []))
  | _, _ => none
theorem om_clear : OpM K mg rClear mClear := ⟨fun ι H h x xs a as d h' Q E R Rs e q => by
  unfold mClear at e
  split at e
  · rename_i n
    cases e1 : lstAt h n with
    | none => rw [e1] at e; cases e
    | some ys =>
      rw [e1] at e
      cases e
      obtain ⟨p, us, rfl, hp, h1, rr⟩ := E.lst R (lstAt_eq e1)
      cases Rs
      obtain ⟨E3, S3⟩ := E.put (c := .lst []) (o := .lst []) hp (nofzL h1) fun k => ⟨_, upd_same, .nil⟩
      exact ⟨p, us, rfl, rfl, h1, q ι _ _ E3 S3 .non⟩
  · cases e⟩
def mReverse : MR := fun h a as =>
  match a, as with
  | .ref n, [] => (lstAt h n).map fun xs => (.non, h.set n (.lst xs.reverse))
  | _, _ => none
theorem om_reverse : OpM K mg rReverse mReverse := ⟨fun ι H h x xs a as d h' Q E R Rs e q => by
  unfold mReverse at e
  split at e
  · rename_i n
    cases e1 : lstAt h n with
    | none => rw [e1] at e; cases e
    | some ys =>
      rw [e1] at e
      cases e
      obtain ⟨p, us, rfl, hp, h1, rr⟩ := E.lst R (lstAt_eq e1)
      cases Rs
      obtain ⟨E3, S3⟩ := E.put (c := .lst ys.reverse) (o := .lst us.reverse) hp (nofzL h1) fun k => ⟨_, upd_same, (rr.kp k).reverse⟩
      exact ⟨p, us, rfl, rfl, h1, q ι _ _ E3 S3 .non⟩
  · cases e⟩
theorem RVs.dropLast : ∀ {vs : List V} {ds : List AV}, RVs K ι H vs ds → RVs K ι H vs.dropLast ds.dropLast
  | _, _, .nil => .nil
  | _, _, .cons r .nil => .nil
  | _, _, .cons r (.cons r2 h) => by
    simp only [List.dropLast_cons₂]
    exact .cons r (RVs.dropLast (.cons r2 h))
def mPop : MR := fun h a as =>
  match a, as with
  | .ref n, [] => (lstAt h n).bind fun xs => (xs[xs.length - 1]?).map fun d => (d, h.set n (.lst xs.dropLast))
  | _, _ => none
theorem om_pop : OpM K mg rPop mPop := ⟨fun ι H h x xs a as d h' Q E R Rs e q => by
  unfold mPop at e
  split at e
  · rename_i n
    cases e1 : lstAt h n with
    | none => rw [e1] at e; cases e
    | some ys =>
      rw [e1, Option.bind_some] at e
      cases e2 : ys[ys.length - 1]? with
      | none => rw [e2] at e; cases e
      | some dd =>
        rw [e2] at e
        cases e
        obtain ⟨p, us, rfl, hp, h1, rr⟩ := E.lst R (lstAt_eq e1)
        cases Rs
        obtain ⟨w, e3, r3⟩ := rr.get e2
        obtain ⟨E3, S3⟩ := E.put (c := .lst ys.dropLast) (o := .lst us.dropLast) hp (nofzL h1) fun k => ⟨_, upd_same, (rr.kp k).dropLast⟩
        exact ⟨p, us, w, rfl, rfl, h1, by rw [rr.length]; exact e3, q ι _ _ E3 S3 (r3.kp (S3.k E))⟩
  · cases e⟩
def mPopAt : MR := fun h a as =>
  match a, as with
  | .ref n, [.int i] => (lstAt h n).bind fun xs => if -(2 ^ 63) ≤ i ∧ i < 2 ^ 63 then (seqIndex? i xs.length).bind fun k => (xs[k]?).map fun d => (d, h.set n (.lst (xs.eraseIdx k))) else none
  | _, _ => none
theorem om_popAt : OpM K mg rPopAt mPopAt := ⟨fun ι H h x xs a as d h' Q E R Rs e q => by
  unfold mPopAt at e
  split at e
  · rename_i n i
    cases e1 : lstAt h n with
    | none => rw [e1] at e; cases e
    | some ys =>
      rw [e1, Option.bind_some] at e
      split at e
      · rename_i hi
        cases e4 : seqIndex? i ys.length with
        | none => rw [e4] at e; cases e
        | some k =>
          rw [e4, Option.bind_some] at e
          cases e2 : ys[k]? with
          | none => rw [e2] at e; cases e
          | some dd =>
            rw [e2] at e
            cases e
            obtain ⟨p, us, rfl, hp, h1, rr⟩ := E.lst R (lstAt_eq e1)
            obtain ⟨w0, rfl, rw'⟩ := Rs.one
            obtain ⟨w, e3, r3⟩ := rr.get e2
            obtain ⟨E3, S3⟩ := E.put (c := .lst (ys.eraseIdx k)) (o := .lst (us.eraseIdx k)) hp (nofzL h1) fun kk => ⟨_, upd_same, (rr.kp kk).eraseIdx k⟩
            exact ⟨p, us, i, k, w, rfl, by rw [rw'.int'], h1, hi.1, hi.2, by rw [rr.length]; exact e4, e3, q ι _ _ E3 S3 (r3.kp (S3.k E))⟩
      · cases e
  · cases e⟩
/-! dicts -/
def eDict0 : EM AV := opM fun _ => some (.new (.dic []))
theorem sim_dict0 {pos : Pos} : SimE X W (.Dict [] [] pos) eDict0 := by
  refine ⟨_, pe_dnewK, fun ι H h σ ρ E Q q => ?_⟩
  obtain ⟨c, e, q1⟩ := q.op E.rel Stp.refl
  cases e
  intro p hp
  exact q1 _ _ (na_new hp fun k => ⟨[], upd_same, .nil⟩)
def isDicA (h : AH) : AV → Bool
  | .ref n => match h[n]? with
    | some (.dic _) => true
    | _ => false
  | _ => false
def getA (h : AH) (o k x : AV) : Option AV :=
  match o with
  | .ref n => match h[n]? with
    | some (.dic kvs) => (keyA k).map fun q => (lookA kvs q).getD x
    | _ => none
  | _ => none
def eGet2 (fo fk fx : EM AV) : EM AV := bnd fo fun o ρ h => if isDicA h o = true then bnd fk (fun k => bnd fx fun x => opM fun h => (getA h o k x).map .val) ρ h else .no
end
end HL
/-! HLI: get; zip, enumerate, turned sequences; several names at once; augmented stores. -/
namespace HL
open PySem L2 RZ
section
variable {X : Cx} {W : WX} {K : PySem.W.Frag} {mg : Str → Option Value} {ι : List Addr} {H H' : Hp} {h : AH} {pos : Pos}
theorem sim_get2 {o k x : Expr} {fo fk fx : EM AV} {apos cpos : Pos} (hu : X.A.units + 1 < cLine) (ho : SimE X W o fo) (hk : SimE X W k fk) (hx : SimE X W x fx) (m : M2 X o "get" apos k x cpos) : SimE X W (.Call (.Attribute o "get" apos) [k, x] [] cpos) (eGet2 fo fk fx) := by
  obtain ⟨t, po, ho⟩ := ho
  obtain ⟨tk, pk, hk⟩ := hk
  obtain ⟨tx, px, hx⟩ := hx
  refine ⟨_, pe_dget2 hu po pk px m, fun ι H h σ ρ E Q q => ?_⟩
  refine ho ι H h σ ρ E _ (q.split fun o ι1 H1 h1 v1 E1 S1 R1 q1 => ?_)
  split at q1
  · rename_i hd
    have hd' : ∃ (n : Nat) (kvs : List (Key × AV)), o = .ref n ∧ h1[n]? = some (.dic kvs) := by
      unfold isDicA at hd
      split at hd
      · split at hd
        · exact ⟨_, _, rfl, by assumption⟩
        · cases hd
      · cases hd
    obtain ⟨n, kvs0, rfl, hn0⟩ := hd'
    obtain ⟨p, us0, rfl, hp0, hpp, _⟩ := E1.dic R1 hn0
    refine ⟨p, rfl, .inl ⟨us0, .inl hpp⟩, ?_⟩
    refine hk ι1 H1 h1 σ ρ (E.stp E1 S1) _ ((q1.after S1).split fun kd ι2 H2 h2 v2 E2 S2 R2 q2 => ?_)
    refine hx ι2 H2 h2 σ ρ ((E.stp E1 S1).stp E2 S2) _ ((q2.after S2).split fun xd ι3 H3 h3 v3 E3 S3 R3 q3 => ?_)
    obtain ⟨c, e4, q4⟩ := q3.op E3 S3
    cases eg : getA h3 (.ref n) kd xd with
    | none => rw [eg] at e4; cases e4
    | some cc =>
      rw [eg] at e4
      cases e4
      unfold getA at eg
      dsimp only at eg
      split at eg
      · rename_i kvs hn
        cases ek : keyA kd with
        | none => rw [ek] at eg; cases eg
        | some qk =>
          rw [ek] at eg
          cases eg
          obtain ⟨p', us, ep, hp', h1', r1⟩ := E3.dic (v := .ref p) (.ref (pre_get (S2.trans S3).pre hp0)) hn
          cases ep
          have ev := keyA_rv (R2.kp (S3.k E2)) ek
          dsimp only at q4
          refine ⟨valV us qk, by rw [ev]; exact DGet.k h1', ?_⟩
          rcases r1.look qk with ⟨a, b⟩ | ⟨d', v', a, b, rr⟩
          · rw [b]; rw [a] at q4; exact q4 v3 H3 (na_val R3)
          · rw [b]; rw [a] at q4; exact q4 v' H3 (na_val rr)
      · cases eg
  · exact q1.elim
/-! zip -/
theorem zip_at {ds es : List AV} {i : Nat} {d : AV} (e : (List.zipWith (fun x y => AV.tup [x, y]) ds es)[i]? = some d) : ∃ x y, ds[i]? = some x ∧ es[i]? = some y ∧ d = .tup [x, y] := by
  rw [List.getElem?_zipWith] at e
  split at e
  · rename_i x y e1 e2; cases e; exact ⟨x, y, e1, e2, rfl⟩
  · cases e
def zipA (ds es : List AV) : List AV := List.zipWith (fun x y => AV.tup [x, y]) ds es
theorem pair_ok {v w : V} {c d : AV} {T : Addr} (hn : H T = none) (r : RV K ι H v c) (q : RV K ι H w d) : (∀ b o, H b = some o → (upd H T (.tup [v, w])) b = some o) ∧ RV K ι (upd H T (.tup [v, w])) (.ref T) (.tup [c, d]) :=
  ⟨ext_of hn, .tup upd_same (.cons (r.kp (Kp.ext (ext_of hn))) (.cons (q.kp (Kp.ext (ext_of hn))) .nil))⟩
theorem It_zip {a b : Addr} {n m : Nat} {ds es : List AV} (ea : ι[n]? = some a) (eb : ι[m]? = some b) : ItR K mg ι H (Itz K a b) ⟨zipA ds es, [(n, .lst ds), (m, .lst es)]⟩ := by
  intro ι' H' h' k fz E kp
  obtain ⟨xs, hx, p1⟩ := E.cell n _ a (kp (n, .lst ds) (by simp)) (pre_get k.pre ea)
  obtain ⟨ys, hy, p2⟩ := E.cell m _ b (kp (m, .lst es) (by simp)) (pre_get k.pre eb)
  have q1 : SqL K H' a xs := SqL.of hx
  have q2 : SqL K H' b ys := SqL.of hy
  refine ⟨⟨xs, ys, q1, q2, by rw [p1.length, p2.length]; unfold zipA; rw [List.length_zipWith]; omega⟩, fun i d hd => ?_⟩
  obtain ⟨dx, dy, e1, e2, rfl⟩ := zip_at hd
  obtain ⟨x, f1, g1⟩ := p1.get e1
  obtain ⟨y, f2, g2⟩ := p2.get e2
  refine ⟨⟨xs, ys, x, y, q1, q2, f1, f2⟩, ?_⟩
  rintro v H'' ⟨T, x', y', rfl, hn, rfl, hx, hy⟩
  have z1 := hx xs q1
  have z2 := hy ys q2
  rw [f1] at z1
  rw [f2] at z2
  cases z1
  cases z2
  exact pair_ok hn g1 g2
theorem It_zipT {a b : Addr} {xs ys : List V} {ds es : List AV} (ha : H a = some (.tup xs)) (r : RVs K ι H xs ds) (hb : H b = some (.tup ys)) (r2 : RVs K ι H ys es) : ItR K mg ι H (ItzT K a b) ⟨zipA ds es, []⟩ := by
  intro ι' H' h' k fz E kp
  have q1 : SqT K H' a xs := SqT.of (k.tup _ _ ha)
  have q2 : SqT K H' b ys := SqT.of (k.tup _ _ hb)
  have p1 := r.kp k
  have p2 := r2.kp k
  refine ⟨⟨xs, ys, q1, q2, by rw [r.length, r2.length]; unfold zipA; rw [List.length_zipWith]; omega⟩, fun i d hd => ?_⟩
  obtain ⟨dx, dy, e1, e2, rfl⟩ := zip_at hd
  obtain ⟨x, f1, g1⟩ := p1.get e1
  obtain ⟨y, f2, g2⟩ := p2.get e2
  refine ⟨⟨xs, ys, x, y, q1, q2, f1, f2⟩, ?_⟩
  rintro v H'' ⟨T, x', y', rfl, hn, rfl, hx, hy⟩
  have z1 := hx xs q1
  have z2 := hy ys q2
  rw [f1] at z1
  rw [f2] at z2
  cases z1
  cases z2
  exact pair_ok hn g1 g2
def zipM : List AV → EM Sr := fun as _ h =>
  match as with
  | [.ref n, .ref m] => match lstAt h n, lstAt h m with
    | some ds, some es => .ok ⟨zipA ds es, [(n, .lst ds), (m, .lst es)]⟩ h
    | _, _ => .no
  | [.tup ds, .tup es] => .ok ⟨zipA ds es, []⟩ h
  | _ => .no
def iZipM (fa : EM (List AV)) : EM Sr := bnd fa zipM
theorem sim_izip {e e2 : Expr} {fs : EM (List AV)} {p tpos : Pos} {elts : List Expr} {kk : Nat} (hg : Gl X "zip") (hm : X.mg "zip" = none) (q : SimA X W [e, e2] fs) (hs : starEach [e, e2] X.env = (false, eval e X.env) :: starEach [e2] X.env := by rfl) (hpl : (backTo pos (starEach [e2] X.env)).any (·.1) = false := by rfl) :
    SimI X W (.Tuple elts kk tpos) (.Call (.Name "zip" p) [e, e2] [] pos) (iZipM fs) := by
  obtain ⟨t, pa, q⟩ := q
  refine ⟨_, pi_zipA hg hm pa hs hpl, fun ι H h σ ρ E R hp => ?_⟩
  refine q ι H h σ ρ E _ (hp.split fun as ι1 H1 h1 vs E1 S1 R1 q1 => ?_)
  unfold zipM at q1
  split at q1
  · rename_i n m
    obtain ⟨v, w, rfl, r1, r2⟩ := R1.two
    split at q1
    · rename_i ds es e1 e2
      obtain ⟨a, us, rfl, ha, ea, ra⟩ := E1.lst r1 (lstAt_eq e1)
      obtain ⟨b, ws, rfl, hb, eb, rb⟩ := E1.lst r2 (lstAt_eq e2)
      exact ⟨_, _, _, _, rfl, .inl ⟨SqL.of ea, SqL.of eb, q1 ι1 H1 _ E1 S1 (It_zip ha hb)⟩⟩
    · exact q1.elim
  · obtain ⟨v, w, rfl, r1, r2⟩ := R1.two
    obtain ⟨a, us, rfl, ea, ra⟩ := r1.tup'
    obtain ⟨b, ws, rfl, eb, rb⟩ := r2.tup'
    exact ⟨_, _, _, _, rfl, .inr ⟨SqT.of ea, SqT.of eb, q1 ι1 H1 _ E1 S1 (It_zipT ea ra eb rb)⟩⟩
  · exact q1.elim
/-! enumerate -/
def enumA (xs : List AV) : List AV := xs.mapIdx fun i x => AV.tup [.int i, x]
def enumM : List AV → EM Sr := fun as _ h =>
  match as with
  | [.ref n] => match lstAt h n with
    | some ds => .ok ⟨enumA ds, [(n, .lst ds)]⟩ h
    | none => .no
  | _ => .no
def iEnumM (fa : EM (List AV)) : EM Sr := bnd fa enumM
theorem It_enum {a : Addr} {n : Nat} {ds : List AV} (ea : ι[n]? = some a) : ItR K mg ι H (Ite K a) ⟨enumA ds, [(n, .lst ds)]⟩ := by
  intro ι' H' h' k fz E kp
  obtain ⟨xs, hx, p1⟩ := E.cell n _ a (kp (n, .lst ds) (by simp)) (pre_get k.pre ea)
  have q1 : SqL K H' a xs := SqL.of hx
  refine ⟨⟨xs, q1, by rw [p1.length]; unfold enumA; simp⟩, fun i d hd => ?_⟩
  simp only [enumA] at hd
  rw [List.getElem?_mapIdx] at hd
  cases e1 : ds[i]? with
  | none => rw [e1] at hd; cases hd
  | some dx =>
    rw [e1] at hd
    obtain rfl : AV.tup [.int i, dx] = d := Option.some.inj hd
    obtain ⟨x, f1, g1⟩ := p1.get e1
    refine ⟨⟨xs, x, q1, f1⟩, ?_⟩
    rintro v H'' ⟨T, x', rfl, hn, rfl, hx⟩
    have z1 := hx xs q1
    rw [f1] at z1
    cases z1
    exact pair_ok hn (.int _) g1
theorem sim_ienum {e : Expr} {fs : EM (List AV)} {p tpos : Pos} {elts : List Expr} {kk : Nat} (hg : Gl X "enumerate") (hm : X.mg "enumerate" = none) (q : SimA X W [e] fs) (hs : starEach [e] X.env = [(false, eval e X.env)] := by rfl) :
    SimI X W (.Tuple elts kk tpos) (.Call (.Name "enumerate" p) [e] [] pos) (iEnumM fs) := by
  obtain ⟨t, pa, q⟩ := q
  refine ⟨_, pi_enum hg hm pa hs, fun ι H h σ ρ E R hp => ?_⟩
  refine q ι H h σ ρ E _ (hp.split fun as ι1 H1 h1 vs E1 S1 R1 q1 => ?_)
  unfold enumM at q1
  split at q1
  · rename_i n
    obtain ⟨v, rfl, r1⟩ := R1.one
    split at q1
    · rename_i ds e1
      obtain ⟨a, us, rfl, ha, ea, ra⟩ := E1.lst r1 (lstAt_eq e1)
      exact ⟨_, _, rfl, SqL.of ea, q1 ι1 H1 _ E1 S1 (It_enum ha)⟩
    · exact q1.elim
  · exact q1.elim
/-! turned -/
def gRevL : AH → AV → Option RA := fun h d =>
  match d with
  | .ref n => (lstAt h n).map fun ds => .new (.lst ds.reverse)
  | _ => none
def gRevT : AH → AV → Option RA := fun _ d =>
  match d with
  | .tup ds => some (.val (.tup ds.reverse))
  | _ => none
theorem sim_revL {e : Expr} {fe : EM AV} {k : Nat} {p1 p2 p3 : Pos} (q : SimE X W e fe) : SimE X W (.Subscript e (.Slice none none (some (.UnaryOp .USub (.Constant (.int 1) k p1) p2)) p3) pos) (eOp1 gRevL fe) := by
  obtain ⟨t, pe, q⟩ := q
  refine ⟨_, pe_revL pe, fun ι H h σ ρ E Q hp => ?_⟩
  refine q ι H h σ ρ E _ (hp.split fun d ι1 H1 h1 v E1 S1 R1 q1 => ?_)
  obtain ⟨c, e, q3⟩ := q1.op E1 S1
  unfold gRevL at e
  split at e
  · rename_i n
    cases e1 : lstAt h1 n with
    | none => rw [e1] at e; cases e
    | some ds =>
      rw [e1] at e
      cases e
      obtain ⟨a, us, rfl, ha, ea, ra⟩ := E1.lst R1 (lstAt_eq e1)
      exact ⟨a, us, rfl, SqL.of ea, fun p hp => q3 _ _ (na_lst hp ra.reverse)⟩
  · cases e
theorem sim_revT {e : Expr} {fe : EM AV} {k : Nat} {p1 p2 p3 : Pos} (q : SimE X W e fe) : SimE X W (.Subscript e (.Slice none none (some (.UnaryOp .USub (.Constant (.int 1) k p1) p2)) p3) pos) (eOp1 gRevT fe) := by
  obtain ⟨t, pe, q⟩ := q
  refine ⟨_, DP.pe_revT pe, fun ι H h σ ρ E Q hp => ?_⟩
  refine q ι H h σ ρ E _ (hp.split fun d ι1 H1 h1 v E1 S1 R1 q1 => ?_)
  obtain ⟨c, e, q3⟩ := q1.op E1 S1
  unfold gRevT at e
  split at e
  · cases e
    obtain ⟨a, us, rfl, ea, ra⟩ := R1.tup'
    exact ⟨a, us, rfl, SqT.of ea, fun p hp => q3 _ _ (na_tup hp ra.reverse)⟩
  · cases e
/-! a, b = x, y -/
def sPar (i j : Nat) (fs : EM (List AV)) : SM := bndS fs fun ds ρ h =>
  match ds with
  | [c, d] => .nx (setE (setE ρ i c) j d) h
  | _ => .no
theorem sim_par {i j : Nat} {x y : Str} {a b : Expr} {fs : EM (List AV)} {px py pt : Pos} {kt k2 pt2} (hc : X.calm = true) (hN : X.N.Nodup) (hi : X.N[i]? = some x) (hj : X.N[j]? = some y) (hij : i ≠ j)
    (hx : X.env.scope.names.lookup x = some .local) (hy : X.env.scope.names.lookup y = some .local) (ha : SimA X W [a, b] fs)
    (hw : swappedStores [.Tuple [.Name x px, .Name y py] kt pt] (.Tuple [a, b] k2 pt2) X.env = pure (some [x, y])) (hs : swapsWithSole [.Tuple [.Name x px, .Name y py] kt pt] (.Tuple [a, b] k2 pt2) pos.line X.env = pure false := by rfl) :
    SimS X W (.Assign [.Tuple [.Name x px, .Name y py] kt pt] (.Tuple [a, b] k2 pt2) pos) (sPar i j fs) := by
  obtain ⟨t, pa, ha⟩ := ha
  refine ⟨_, ps_par hc hN hi hj hij hx hy pa hw hs, fun ι H h σ ρ D E q => ?_⟩
  refine ha ι H h σ ρ E _ (PstS.split E q fun ds ι1 H1 h1 vs E1 S1 R1 q1 => ?_)
  split at q1
  · obtain ⟨v, w, rfl, r1, r2⟩ := R1.two
    exact ⟨v, w, rfl, q1 ι1 H1 _ ((E1.set i r1).set j r2) S1⟩
  · exact q1.elim
/-- a target, as a statement -/
def gOnly (o : Ou) : Ou :=
  match o with
  | .nx ρ h => .nx ρ h
  | .ex e ρ h => .ex e ρ h
  | _ => .no
def sAsg1 (f : EM AV) (g : AV → SM) : SM := bndS f fun d ρ h => gOnly (g d ρ h)
theorem sim_asg1 {tg e : Expr} {fe : EM AV} {g : AV → SM} {is : List Nat} (he : SimE X W e fe) (hg : SimG X W tg g is) (hs : swapsWithSole [tg] e pos.line X.env = pure false := by rfl) (hw : swappedStores [tg] e X.env = pure none := by rfl)
    (h1 : (assignEach [tg] X.env).map (·.2) = [assign tg X.env] := by rfl) : SimS X W (.Assign [tg] e pos) (sAsg1 fe g) := sim_asg he hg hs hw h1
/-! t1 = t2 = e -/
def sAsg2 (f : EM AV) (g g2 : AV → SM) : SM := bndS f fun d ρ h => (gOnly (g d ρ h)).seq fun ρ h => gOnly (g2 d ρ h)
theorem sim_asg2 {e tg tg2 : Expr} {fe : EM AV} {g g2 : AV → SM} {is js : List Nat} (he : SimE X W e fe) (hg : SimG X W tg g is) (hg2 : SimG X W tg2 g2 js) (ha : (assignEach [tg, tg2] X.env).map (·.2) = [assign tg X.env, assign tg2 X.env] := by rfl) (hw : swappedStores [tg, tg2] e X.env = pure none := by rfl) : SimS X W (.Assign [tg, tg2] e pos) (sAsg2 fe g g2) := by
  obtain ⟨t, p, q⟩ := he
  obtain ⟨u, pu, hg⟩ := hg
  obtain ⟨u2, pu2, hg2⟩ := hg2
  refine ⟨_, ps_asg2 p pu pu2 ha hw, fun ι H h σ ρ D E q1 => ?_⟩
  refine q ι H h σ ρ E _ (PstS.split E q1 fun d ι1 H1 h1 v E1 S1 R1 q2 => hg ι1 H1 h1 σ ρ v d _ E1 R1 ?_)
  unfold gOnly Ou.seq at q2
  cases eg : g d ρ h1 with
  | nx ρ' h' =>
    rw [eg] at q2
    intro ι2 H2 σ2 E2 S2 _ _
    refine hg2 ι2 H2 h' σ2 ρ' v d _ E2 (R1.kp (S2.k E1.rel)) ?_
    dsimp only at q2
    cases eg2 : g2 d ρ' h' with
    | nx ρ3 h3 => rw [eg2] at q2; exact fun ι' H' σ' E' S' _ _ => q2 ι' H' σ' E' ((S1.trans S2).trans S')
    | ex x ρ3 h3 => rw [eg2] at q2; exact fun ι' H' σ' c d E' S' => q2 ι' H' σ' c d E' ((S1.trans S2).trans S')
    | rt r h' => rw [eg2] at q2; exact q2
    | bk ρ' h' => rw [eg2] at q2; exact q2
    | ct ρ' h' => rw [eg2] at q2; exact q2
    | no => rw [eg2] at q2; exact q2
  | ex x ρ' h' => rw [eg] at q2; exact fun ι' H' σ' c d E' S' => q2 ι' H' σ' c d E' (S1.trans S')
  | rt r h' => rw [eg] at q2; exact q2
  | bk ρ' h' => rw [eg] at q2; exact q2
  | ct ρ' h' => rw [eg] at q2; exact q2
  | no => rw [eg] at q2; exact q2
/-! x op= e, ints -/
def sAugI (i : Nat) (f : Int → Int → Int) (fe : EM AV) : SM := fun ρ h =>
  match ρ[i]? with
  | some (some (.int a)) => bndS fe (fun d ρ h => match d with
    | .int b => .nx (setE ρ i (.int (f a b))) h
    | _ => .no) ρ h
  | _ => .no
theorem sim_augI {i : Nat} {x : Str} {e : Expr} {fe : EM AV} {op : Operator} {pos' : Pos} {f : Int → Int → Int} (hN : X.N.Nodup) (hi : X.N[i]? = some x) (hx : Loc X.env.scope x) (ho : PIp X op (ipI f)) (he : SimE X W e fe) (hf : X.fn x = true ∨ X.env.scope.names.lookup x = some .local := by first | exact .inl rfl | exact .inr rfl | assumption) :
    SimS X W (.AugAssign (.Name x pos') op e pos) (sAugI i f fe) := by
  obtain ⟨t, p, q⟩ := he
  refine ⟨_, ps_aug hN hi hx p ho hf, fun ι H h σ ρ D E q1 => ?_⟩
  unfold sAugI at q1
  split at q1
  · rename_i a e1
    obtain ⟨v, e2, r⟩ := E.slot i _ e1
    refine ⟨v, e2, ?_⟩
    refine q ι H h σ ρ E _ (PstS.split E q1 fun d ι1 H1 h1 w E1 S1 R1 q2 => ?_)
    split at q2
    · rename_i b
      exact ⟨a, b, r.int', R1.int', q2 ι1 H1 _ (E1.set i (.int (f a b))) S1⟩
    · exact q2.elim
  · exact q1.elim
end
end HL
/-! HLJ: set comprehensions of ints, their length, sorted. -/
namespace HL
open PySem PySem.Spec PyProof.Rows L2 PpSet
abbrev S0 : Int → Bool := fun _ => false
abbrev addS (S : Int → Bool) (c : Int) : Int → Bool := fun j => S j || decide (j = c)
/-- {elt for ..}: elements that are ints -/
def tScI (w : World) (wi : TI) (g : TG) (tt : TT) (te : TE) (vs : List Nat) : TE := fun σ H Q => wi σ H fun J H1 => ∀ D, H1 D = none → ∃ Wv : Nat → Nat → Hp → Prop, (∃ m, Wv 0 m (upd H1 D (SetO w D S0 0))) ∧ ∀ i m H, Wv i m H →
  (J.stop i H ∧ Q (.ref D) H) ∨ (J.go i H ∧ ∃ Nx : Hp → Prop, (∀ H', Nx H' → ∃ m', m' < m ∧ Wv (i + 1) m' H') ∧ ∀ x H', J.yld i H x H' → g x (L2.wipe σ vs) H' fun σ2 H2 => L2.wipe σ2 vs = L2.wipe σ vs ∧ tt σ2 H2 fun b H3 =>
    if b = true then te σ2 H3 fun y H4 => ∃ (c : Int) (S : Int → Bool) (n : Nat), y = .int c ∧ H4 D = some (SetO w D S n) ∧ n + 1 < scanBound ∧ Nx (upd H4 D (SetO w D (addS S c) (if S c = true then n else n + 1))) else Nx H3)
section
variable {X : Cx}
theorem addI_ok {pins : List (Addr × Obj)} {σ : L2.St} {H : Hp} {s : Shared} {E : Value → Shared → Prop} {D : Addr} {S : Int → Bool} {n : Nat} {y : Int} {tk : Tok} {Q : Value → Shared → Prop} (I : Inv X pins σ H s) (hD : H D = some (SetO X.w D S n)) (room : n + 1 < scanBound)
    (hq : ∀ s', Inv X pins σ (upd H D (SetO X.w D (addS S y) (if S y = true then n else n + 1))) s' → Q .none s') : wpAny (model X.prog X.w) X.A (call (.builtin "set.add") [.ref D, .int y tk]) Q E s := by
  refine setR_add (setO_get I hD) room fun h' sb new => ?_
  refine hq _ (I.write (e := D) (t' := s.toks + 1) (by rw [hD]; trivial) (.inl rfl) (fun b u hb hu => (sb.2 b hb).trans hu) ?_ (setO_new new))
  obtain ⟨o, _, _, _, ho, _⟩ := new
  exact ⟨o, ho⟩
variable {elt tg iter : Expr} {ifs : List Expr} {scope : Scope} {own : List (PySem.Str × Nat)} {pos : Pos} {wi : TI} {g : TG} {tt : TT} {te : TE}
theorem pe_sci (hc : X.calm = true) (hN : X.N.Nodup) (hi : PI X tg iter wi) (ok : BlkOk X.N X.env.scope scope own)
    (hg : ∀ (s : Shared) (H : Hp) (C : Addr) (cl : List (PySem.Str × Addr)) (fp : List Addr), PG (X.blk s H scope (compEnvC scope cl C X.env) fp) tg g)
    (ht : ∀ (s : Shared) (H : Hp) (C : Addr) (cl : List (PySem.Str × Addr)) (fp : List Addr), PTs (X.blk s H scope (compEnvC scope cl C X.env) fp) ifs tt)
    (he : ∀ (s : Shared) (H : Hp) (C : Addr) (cl : List (PySem.Str × Addr)) (fp : List Addr), PE (X.blk s H scope (compEnvC scope cl C X.env) fp) elt te) (hs : ∀ x, foldedSetIterable iter X.env x = pure x := by intro _; rfl) :
    PE X (.SetComp elt [⟨tg, iter, ifs, 0⟩] scope pos) (tScI X.w wi g tt te (own.map (·.2))) := by
  refine ⟨fun pins s σ H Q I h => ?_⟩
  rw [eval_SetComp]
  have free' : ∀ y ∈ scope.names, y.2 = .free → ∃ c, X.env.cells.lookup y.1 = some c := fun y hy e => I.ok.has _ ((ok.free y hy e).imp id id)
  refine wpAny_comprehension_free (use := Option.none) rfl hs (closure_ok free') ok.kind (fun y hy e => by rw [ok.uniq y hy, e]) (thn (hi.run pins s σ H _ I h) fun xv s1 hx => thn hx fun itv s2 h2 => ?_)
  obtain ⟨it, fp, tn, J, H2, rfl, I2, T, st2, f2, q⟩ := h2
  refine newSet_ok (newEnv_comp ?_)
  obtain ⟨D, hD⟩ : ∃ D, s2.heap.objs.size = D := ⟨_, rfl⟩
  rw [hD]
  have hDn : H2 D = none := I2.hok.fresh (Nat.le_of_eq hD)
  obtain ⟨Wv, ⟨m0, w0⟩, turn⟩ := q D hDn
  obtain ⟨ob, hob⟩ : ∃ ob : Obj, ob = { cls := .type "set", dict := none, data := .set #[] 0 (.fresh 0 0 (!X.w.params.followText "set-order")) } := ⟨_, rfl⟩
  rw [← hob]
  obtain ⟨s3, hs3⟩ : ∃ s3 : Shared, s3 = { s2 with heap := s2.heap.push ob } := ⟨_, rfl⟩
  have e3 : s3.heap = s2.heap.push ob := by rw [hs3]
  have I3 : Inv X pins σ (upd H2 D (SetO X.w D S0 0)) s3 := by
    subst hs3
    refine I2.laid (t' := s2.toks) (fun b o e => Heap.get?_push_of_some _ e) (Nat.le_of_eq hD) ?_
    subst hD hob
    refine setO_new ⟨_, #[], 0, _, Heap.get?_push_size _ rfl, ⟨rfl, rfl, rfl⟩, rfl, fun e he => by simp at he, by simp, fun k => by simp, by decide, by rfl, rfl, List.Pairwise.nil, ?_⟩
    show _ ∨ (!X.w.params.followText "set-order") = true
    cases X.w.params.followText "set-order"
    · exact .inr rfl
    · exact .inl rfl
  obtain ⟨H3, hH3⟩ : ∃ H3, H3 = upd H2 D (SetO X.w D S0 0) := ⟨_, rfl⟩
  rw [← hH3] at I3 w0
  have lt2 : ∀ b ∈ fp, b < s2.heap.objs.size := fun b hb => let ⟨o, e, _⟩ := T.obj _ _ st2 b hb; Heap.lt_size e
  have f3 : ∀ b ∈ fp, FpOk X pins H3 b ∧ b < s3.heap.objs.size := fun b hb => by
    have l := lt2 b hb
    refine ⟨⟨?_, (f2 b hb).2⟩, by rw [e3, Heap.size_push]; exact Nat.lt_succ_of_lt l⟩
    rw [hH3, upd_ne (by rw [← hD]; exact Nat.ne_of_lt l)]
    exact (f2 b hb).1
  have st3 : tn 0 s3.heap := T.keep _ _ _ st2 fun b _ o e => by rw [e3]; exact Heap.get?_push_of_some _ e
  have I4 := block_start I3 ok hN f3
  obtain ⟨C, hC⟩ : ∃ C, C = s3.heap.objs.size := ⟨_, rfl⟩
  obtain ⟨cl, hcl⟩ : ∃ cl, cl = cellsFrom (s3.heap.objs.size + 1) scope.names (cloFrom X.env.cells scope.names []) := ⟨_, rfl⟩
  have pg := hg s3 H3 C cl fp
  have pt := ht s3 H3 C cl fp
  have pe := he s3 H3 C cl fp
  rw [← hcl, ← hC] at I4
  show codeAny _ _ (.compStart (.SetComp elt [⟨tg, iter, ifs, 0⟩] scope pos) 0 (.ref it) (.ref D) (compEnvC scope (cellsFrom ((s2.heap.push ob).objs.size + 1) scope.names (cloFrom X.env.cells scope.names [])) (s2.heap.push ob).objs.size X.env)) (compPost (model X.prog X.w) X.A X.xe Option.none _ (.ref D) (s2.heap.push ob).objs.size) { s2 with heap := pushCells ((s2.heap.push ob).push { cls := .type "dict", data := .dict #[] }) scope.names }
  rw [← e3, ← hC, show cellsFrom (C + 1) scope.names (cloFrom X.env.cells scope.names []) = cl by rw [hcl, hC]]
  obtain ⟨ce, hce⟩ : ∃ ce, ce = compEnvC scope cl C X.env := ⟨_, rfl⟩
  rw [← hce] at I4 pg pt pe ⊢
  have cL : ce.locals = C := by rw [hce]; rfl
  obtain ⟨s4, hs4⟩ : ∃ s4 : Shared, s4 = { s2 with heap := pushCells (s3.heap.push { cls := .type "dict", data := .dict #[] }) scope.names } := ⟨_, rfl⟩
  have I4' : Inv (X.blk s3 H3 scope ce fp) [] (L2.wipe σ (own.map (·.2))) H3 s4 := by
    rw [hs4]
    have := I4
    rw [hs3] at this ⊢
    exact this
  rw [← hs4]
  have st4 : tn 0 s4.heap := T.keep _ _ _ st3 fun b _ o e => by rw [hs4]; exact pushCells_keeps _ _ _ _ (Heap.get?_push_of_some _ e)
  have nfp : ∀ b ∈ fp, H3 b = none := fun b hb => (f3 b hb).1.1
  have stat : ∀ {σ' : L2.St} {H' : Hp} {s' : Shared}, Inv (X.blk s3 H3 scope ce fp) [] σ' H' s' → (∀ b ∈ fp, H' b = none) → ∀ b ∈ fp, FpOk (X.blk s3 H3 scope ce fp) [] H' b := fun {σ' H' s'} I' hn b hb => by
    have x := I'.ok.exf b hb
    exact ⟨hn b hb, x.1, I'.ok.exfs b hb, .inl hb, fun n c e => x.2 n c e, fun p hp => by cases hp⟩
  refine codeAny_compStart_set ?_ (T.self X.A 0 _ _ _ st4 ?_)
  all_goals
    refine compLoopS_any (fun n s' => ∃ i H', Inv (X.blk s3 H3 scope ce fp) [] (L2.wipe σ (own.map (·.2))) H' s' ∧ tn i s'.heap ∧ (∀ b ∈ fp, H' b = none) ∧ Wv i n H') ?_ m0 ⟨0, H3, I4', st4, nfp, w0⟩
    rintro n s5 ⟨i, H5, I5, st5, n5, w5⟩
    rcases turn i n H5 w5 with ⟨stop, qq⟩ | ⟨go, Nx, hNx, step⟩
    · refine thnF (T.done (X.blk s3 H3 scope ce fp) rfl rfl rfl hc i [] s5 _ H5 (fun _ _ => False) I5 (stat I5 n5) st5 stop) fun r s6 ⟨hr, I6⟩ => ?_
      subst hr
      have I7 : Inv X pins σ H5 s6 := I3.call' (ch := fp) I6.os I6.base I6.hok I6.bare fun b hb => by
        obtain ⟨⟨_, x1, x2, x3, x4, x5⟩, _⟩ := f3 b hb
        exact ⟨x3, x1, x4, x5⟩
      have nC : H5 C = none := cL ▸ (show H5 ce.locals = none from I6.free)
      obtain ⟨m, hn, _⟩ := I6.loc
      have hn' : s6.heap.Ns C m := cL ▸ (show s6.heap.Ns ce.locals m from hn)
      obtain ⟨f0, f1, f2', f3', f4, f5⟩ := I3.fpOk (b := C) (H' := H5) (Nat.le_of_eq hC.symm) nC
      exact ⟨m, hn', fun h'' sb => ⟨.ref D, H5, I7.turned (t' := s6.toks) (fun b o hb e => (sb.2 b hb).trans e) f0 f1 f3' f4 f5, rfl, qq⟩⟩
    · refine thnF (T.item (X.blk s3 H3 scope ce fp) rfl rfl rfl hc i [] s5 _ H5 (fun _ _ => False) I5 (stat I5 n5) st5 go) fun r s6 ⟨u, hr, h6⟩ => ?_
      subst hr
      refine thnF h6 fun _ s7 ⟨x, H7, I7, r7, y7, st7, n7⟩ => ?_
      have I7' := I7.pinned (stat I7 n7) (T.obj _ _ st7)
      refine thnF (pg.run _ s7 _ H7 x u _ I7' r7 (step x H7 y7)) fun _ s8 ⟨σ8, H8, I8, hw8, q8⟩ => thnF (pt.run _ s8 σ8 H8 _ I8 q8) fun b s9 ⟨H9, I9, q9⟩ => ?_
      have fin : ∀ {s' : Shared} {H' : Hp}, Inv (X.blk s3 H3 scope ce fp) ([] ++ pinsAt fp s7.heap) σ8 H' s' → Nx H' → ∃ m, m < n ∧ ∃ i H', Inv (X.blk s3 H3 scope ce fp) [] (L2.wipe σ (own.map (·.2))) H' s' ∧ tn i s'.heap ∧ (∀ b ∈ fp, H' b = none) ∧ Wv i m H' := fun {s' H'} I' nx => by
        obtain ⟨m', hm, w'⟩ := hNx H' nx
        have pn : ∀ b ∈ fp, ∀ o, s7.heap.get? b = some o → s'.heap.get? b = some o ∧ H' b = none := fun b hb o e => by
          have z := I'.pin (b, o) (List.mem_append_right _ (List.mem_append_right _ (mem_pinsAt hb e)))
          exact ⟨z.1, z.2.1⟩
        refine ⟨m', hm, i + 1, H', (I'.unpinned (pins := [])).weak (by rw [← hw8, wipe_length]) (fun j v e => ?_), T.keep _ _ _ st7 fun b hb o e => (pn b hb o e).1, fun b hb => ?_, w'⟩
        · exact (wipe_some (hw8 ▸ e)).1
        · obtain ⟨o, e, _⟩ := T.obj _ _ st7 b hb
          exact (pn b hb o e).2
      cases b with
      | false => simpa using fin I9 (by simpa using q9)
      | true =>
        simp only [if_true] at q9 ⊢
        refine thnF (pe.run _ s9 σ8 H9 _ I9 q9) fun z s10 ⟨yv, H10, I10, r10, cb, S1, n1, ey, hD10, hz10, nx⟩ => ?_
        subst ey
        obtain ⟨tk, rfl⟩ : ∃ t, z = Value.int cb t := r10
        exact addI_ok (X := X.blk s3 H3 scope ce fp) I10 hD10 hz10 fun s11 I11 => fin I11 nx
end
end HL
/-! HLK: dicts walked; sets made and used at once. -/
namespace HL
open PySem L2
def kA : Key → AV
  | .inl i => .int i
  | .inr x => .str x
theorem rv_key {K : PySem.W.Frag} {ι : List Addr} {H : Hp} (k : Key) : RV K ι H (kV k) (kA k) := by
  cases k with
  | inl i => exact .int i
  | inr x => exact .str x
/-- the expression, the dict in slot i locked -/
def eLock (i : Nat) (f : EM AV) : EM AV := fun ρ h =>
  match ρ[i]? with
  | some (some (.ref n)) => match h[n]? with
    | some (.dic kvs) => match f ρ (h.set n (.lock kvs)) with
      | .ok v h' => match h'[n]? with
        | some (.lock kvs') => .ok v (h'.set n (.dic kvs'))
        | _ => .no
      | _ => .no
    | _ => .no
  | _ => .no
/-- a locked dict's keys -/
def keysM : AV → EM Sr := fun d _ h =>
  match d with
  | .ref n => match h[n]? with
    | some (.lock kvs) => .ok ⟨kvs.map fun q => kA q.1, [(n, .lock kvs)]⟩ h
    | _ => .no
  | _ => .no
def iKeysM (f : EM AV) : EM Sr := bnd f keysM
section
variable {X : Cx} {W : WX} {K : PySem.W.Frag} {mg : Str → Option Value} {ι : List Addr} {H H' : Hp} {h : AH} {pos : Pos} {e tg : Expr} {fe : EM AV}
theorem Rel.locked {v : V} {n : Nat} {kvs : List (Key × AV)} (E : Rel K mg ι H h) (r : RV K ι H v (.ref n)) (e : h[n]? = some (.lock kvs)) : ∃ a o us, v = .ref a ∧ ι[n]? = some a ∧ H a = some (.frz o (.dK us)) ∧ RKs K ι H us kvs := by
  obtain ⟨a, rfl, e2⟩ := r.ref'
  obtain ⟨o, us, e3, r⟩ := E.cell n _ a e e2
  exact ⟨a, o, us, rfl, e2, e3, r⟩
theorem sim_lock {i : Nat} (q : SimE X W e fe) : SimE X W e (eLock i fe) := by
  obtain ⟨t, p, q⟩ := q
  refine ⟨_, pe_lock p, fun ι H h σ ρ E Q z => ?_⟩
  unfold eLock at z
  split at z
  · rename_i n e1
    split at z
    · rename_i kvs hn
      obtain ⟨v, e2, r⟩ := E.slot i _ e1
      obtain ⟨a, us, rfl, ha, hd, rr⟩ := E.rel.dic r hn
      refine ⟨a, .dK us, hd, trivial, fun od => ?_⟩
      obtain ⟨E1, S1⟩ := E.rel.put (c := .lock kvs) (o := .frz od (.dK us)) ha (nofzD hd) fun k => ⟨od, us, upd_same, rr.kp k⟩
      refine q ι _ (h.set n (.lock kvs)) σ ρ (E.stp E1 S1) _ ?_
      cases ef : fe ρ (h.set n (.lock kvs)) with
      | no => rw [ef] at z; exact z.elim
      | ex x h' => rw [ef] at z; exact z.elim
      | ok d h' =>
        rw [ef] at z
        dsimp only at z
        split at z
        · rename_i kvs' hn'
          intro ι' H' w E' S' R'
          have hf : H' a = some (.frz od (.dK us)) := S'.fz a od _ upd_same
          have ha' := pre_get S'.pre ha
          obtain ⟨o2, us2, e4, r4⟩ := E'.cell n _ a hn' ha'
          rw [hf] at e4
          cases e4
          refine ⟨hf, ?_⟩
          -- unlocked
          have m : a ∈ ι' := List.mem_of_getElem? ha'
          have kk : Kp ι' H' ι' (upd H' a (.dK us)) := ⟨List.prefix_refl _, fun b xs eb => by
              have hb : b ≠ a := fun z => E'.notup eb (z ▸ m)
              rw [upd_ne hb]; exact eb, fun b o u n eb => by
              have hb : b ≠ a := fun z => E'.nofrz n eb (z ▸ m)
              rw [upd_ne hb]; exact eb⟩
          have EU : Rel X.K X.mg ι' (upd H' a (.dK us)) (h'.set n (.dic kvs')) := by
            refine ⟨by simp [E'.len], E'.nd, fun j c b f1 f2 => ?_⟩
            by_cases hj : n = j
            · subst hj
              rw [ha'] at f2
              cases f2
              have hl := (List.getElem?_eq_some_iff.mp f1).1
              rw [List.length_set] at hl
              rw [List.getElem?_set_self hl] at f1
              cases f1
              exact ⟨us, upd_same, r4.kp kk⟩
            · rw [List.getElem?_set_ne hj] at f1
              refine (E'.cell j c b f1 f2).kp kk ?_
              rw [upd_ne]
              intro hb
              rw [hb] at f2
              obtain ⟨hx, ex⟩ := List.getElem?_eq_some_iff.mp ha'
              obtain ⟨hy, ey⟩ := List.getElem?_eq_some_iff.mp f2
              exact hj ((List.getElem_inj E'.nd).mp (ex.trans ey.symm))
          refine z ι' _ w EU ⟨S'.pre, fun b u eb nb => ?_, fun b mb => ?_, fun b eb => ?_, fun b o u eb => ?_⟩ (R'.kp kk)
          · have hb : b ≠ a := fun z => nb (z ▸ List.mem_of_getElem? ha)
            rw [upd_ne hb]
            exact S'.kp b u (by rw [upd_ne hb]; exact eb) nb
          · rcases S'.grow b mb with y | y
            · exact .inl y
            · by_cases hb : b = a
              · subst hb; exact .inl (List.mem_of_getElem? ha)
              · rw [upd_ne hb] at y; exact .inr y
          · by_cases hb : b = a
            · subst hb; rw [upd_same] at eb; cases eb
            · rw [upd_ne hb] at eb
              have := S'.live b eb
              rw [upd_ne hb] at this
              exact this
          · have hb : b ≠ a := fun z => by rw [z, hd] at eb; cases eb
            rw [upd_ne hb]
            exact S'.fz b o u (by rw [upd_ne hb]; exact eb)
        · exact z.elim
    · exact z.elim
  · exact z.elim
theorem It_keys {a : Addr} {n : Nat} {kvs : List (Key × AV)} {o : Obj} {us : List (Key × V)} (ea : ι[n]? = some a) (hd : H a = some (.frz o (.dK us))) (rr : RKs K ι H us kvs) : ItR K mg ι H (Itk a o us) ⟨kvs.map fun q => kA q.1, [(n, .lock kvs)]⟩ := by
  intro ι' H' h' k fz E kp
  have hd' := fz a o _ hd
  refine ⟨⟨hd', by rw [rr.len]; simp⟩, fun i d hi => ?_⟩
  simp only [List.getElem?_map] at hi
  cases e1 : kvs[i]? with
  | none => rw [e1] at hi; cases hi
  | some q =>
    rw [e1] at hi
    cases hi
    have hlt : i < us.length := by rw [rr.len]; exact (List.getElem?_eq_some_iff.mp e1).1
    refine ⟨⟨hd', hlt⟩, fun x H'' ⟨e2, k', v', e3, e4⟩ => ?_⟩
    subst e2 e4
    have hk : (us.map (·.1))[i]? = (kvs.map (·.1))[i]? := by rw [rr.k]
    rw [List.getElem?_map, List.getElem?_map, e3, e1] at hk
    cases hk
    exact ⟨fun _ _ z => z, rv_key _⟩
theorem sim_ikeys (q : SimE X W e fe) : SimI X W tg e (iKeysM fe) := by
  obtain ⟨t, p, q⟩ := q
  refine ⟨_, pi_keys p, fun ι H h σ ρ E R hp => ?_⟩
  refine q ι H h σ ρ E _ (hp.split fun d ι1 H1 h1 v E1 S1 R1 q1 => ?_)
  unfold keysM at q1
  split at q1
  · split at q1
    · rename_i n kvs hn
      obtain ⟨a, o, us, rfl, ha, hd, rr⟩ := E1.locked R1 hn
      exact ⟨a, o, rfl, .inl ⟨us, hd, q1 ι1 H1 _ E1 S1 (It_keys ha hd rr)⟩⟩
    · exact q1.elim
  · exact q1.elim
end
/-! ### sets of ints -/
def addL (acc : List Int) (c : Int) : List Int := if c ∈ acc then acc else acc ++ [c]
def inSet (elt : EM AV) : Env → List Int → AH → RR (List Int) := fun ρ acc h =>
  match elt ρ h with
  | .ok (.int c) h' => if acc.length < 4000 then .ok (addL acc c) h' else .no
  | _ => .no
def PSet (w : World) (D : Addr) (acc : List Int) (ι : List Addr) (H : Hp) : Prop := D ∉ ι ∧ H D = some (SetO w D (fun j => decide (j ∈ acc)) acc.length)
/-- {elt for ..}, its ints (each once) handed to g -/
noncomputable def eSet (it : EM Sr) (g : AV → SM) (vs : List Nat) (cond : EM Bool) (elt : EM AV) (u : List Int → AH → Option RA) : EM AV := bnd it fun s ρ h =>
  match compG s.keep g cond (inSet elt) (wipeE ρ vs) s.ds [] h with
  | .ok acc h' => opM (u acc) ρ h'
  | _ => .no
section
variable {K : PySem.W.Frag} {w : World} {mg : Str → Option Value} {W : WX} {vs is : List Nat} {it : EM Sr} {g : AV → SM} {cond : EM Bool} {elt : EM AV} {wi : TI} {tg : TG} {tt : TT} {te : TE} {D : Addr}
theorem PSet.p (acc : List Int) (ι : List Addr) (H : Hp) (q : PSet w D acc ι H) : D ∉ ι ∧ isCell (H D) := by
  obtain ⟨a, e⟩ := q
  exact ⟨a, by rw [e]; trivial⟩
theorem PSet.s (acc : List Int) (ι : List Addr) (H : Hp) (ι' : List Addr) (H' : Hp) (q : PSet w D acc ι H) (S : Stp ι H ι' H') (_ : Kp ι H ι' H') : PSet w D acc ι' H' := by
  obtain ⟨a, e⟩ := q
  refine ⟨fun z => ?_, S.kp D _ e a⟩
  rcases S.grow D z with q | q
  · exact a q
  · rw [e] at q; cases q
theorem sc_run {u : List Int → AH → Option RA} {rr : V → Hp → VK → Prop}
    (hu : ∀ ι H h p acc c (Q : VK), Rel K mg ι H h → p ∉ ι → H p = some (SetO w p (fun j => decide (j ∈ acc)) acc.length) → acc.Nodup → u acc h = some c → (∀ v H', NewA K mg ι H H' v c → Q v H') → rr (.ref p) H Q)
    (hi : RunI K mg W wi it) (hg : RunG K mg noW is tg g) (his : ∀ i ∈ is, i ∈ vs) (ht : RunT K mg noW tt cond) (he : RunE K mg noW te elt) : RunE K mg W (fun σ H Q => tScI w wi tg tt te vs σ H fun v H' => rr v H' Q) (eSet it g vs cond elt u) := by
  intro ι H h σ ρ E Q q
  refine hi ι H h σ ρ E _ (q.split (R1 := fun ι' H' J s => ItR K mg ι' H' J s) fun s ι1 H1 h1 J E1 S1 I1 q1 => ?_)
  intro D hD
  cases ec : compG s.keep g cond (inSet elt) (wipeE ρ vs) s.ds [] h1 with
  | no => rw [ec] at q1; exact q1.elim
  | ex x h' => rw [ec] at q1; exact q1.elim
  | ok accF hF =>
    rw [ec] at q1
    refine loopG (D := D) (P := fun acc ι H => PSet w D acc ι H ∧ acc.Nodup) (ρ := ρ) (fun acc ι H q => PSet.p acc ι H q.1) (fun acc ι H ι' H' q S k => ⟨PSet.s acc ι H ι' H' q.1 S k, q.2⟩) hg his ht (I1.kp (Kp.ext (ext_of hD)) fun b o u e => ext_of hD b _ e) (start_D (E.stp E1 S1) hD) (fun Nx ι H h σ2 ρ1 acc acc' h' E P e hn => ?_) ⟨⟨E1.free hD, ?_⟩, List.nodup_nil⟩ ec fun ι' H' E' S' P' => ?_
    · unfold inSet at e
      refine he ι H h σ2 ρ1 E _ ?_
      cases e1 : elt ρ1 h with
      | no => rw [e1] at e; cases e
      | ex x h6 => rw [e1] at e; cases e
      | ok y h3 =>
        rw [e1] at e
        intro ι3 H3 v3 E3 S3 R3
        cases y with
        | int c =>
          dsimp only at e
          split at e
          · rename_i hz
            cases e
            cases R3
            obtain ⟨dD, eD⟩ := PSet.s acc _ _ _ _ P.1 S3 (S3.k E.rel)
            have hc : isCell (H3 D) := by rw [eD]; trivial
            obtain ⟨E5, S5, k5⟩ := E3.other (o := SetO w D (fun j => decide (j ∈ addL acc c)) (addL acc c).length) dD hc (fun o u z => by rw [eD] at z; cases z)
            refine ⟨c, _, _, rfl, eD, by show _ < 4096; omega, ?_⟩
            have e1 : addS (fun j => decide (j ∈ acc)) c = fun j => decide (j ∈ addL acc c) := by
              funext j
              unfold addL
              by_cases hm : c ∈ acc
              · rw [if_pos hm]
                by_cases hj : j = c
                · subst hj; simp [hm]
                · simp [hj]
              · rw [if_neg hm]
                simp [List.mem_append, Bool.decide_or]
            have e2 : (if decide (c ∈ acc) = true then acc.length else acc.length + 1) = (addL acc c).length := by
              unfold addL
              by_cases hm : c ∈ acc
              · simp [hm]
              · simp [hm]
            rw [e1, e2]
            refine hn ι3 _ E5 (S3.toD.trans S5) ⟨⟨dD, upd_same⟩, ?_⟩
            unfold addL
            by_cases hm : c ∈ acc
            · rw [if_pos hm]; exact P.2
            · rw [if_neg hm, List.nodup_append]
              exact ⟨P.2, by simp, fun a ha b hb => by rw [List.mem_singleton] at hb; subst hb; exact fun z => hm (z ▸ ha)⟩
          · cases e
        | _ => cases e
    · rw [upd_same]
      rfl
    · have S0 : Stp ι H ι' H' := S1.trans ((((Stp.ext (ext_of hD)).toD).trans S' : StpD D ι1 H1 ι' H').stp hD)
      obtain ⟨c, ec', q2⟩ := Pst.op E' S0 q1
      obtain ⟨⟨dD, eD⟩, nd⟩ := P'
      exact hu ι' H' hF D accF c Q E' dD eD nd ec' q2
end
/-- len of it, sorted of it -/
def uLen (acc : List Int) : AH → Option RA := fun _ => some (.val (.int acc.length))
def uSort (acc : List Int) : AH → Option RA := fun _ => if acc.length < 64 then some (.new (.lst ((acc.mergeSort DP.leI).map .int))) else none
section
variable {X : Cx}
theorem cr_lenSet : CallR X (.builtin "len") (fun xs H Q => ∃ a S n, xs = [.ref a] ∧ H a = some (SetO X.w a S n) ∧ Q (.int (n : Nat)) H) := by
  intro pins s σ H xs us Q I r ⟨a, S, n, e, ha, q⟩
  subst e
  rw [Vals.ref1 r]
  obtain ⟨o, es, ep, t, ho, hex, hd, _, _, _, hb, hf, hn, _⟩ := setO_get I ha
  refine call_len_set ho hex hd hf ?_ ⟨.int (n : Nat), H, I.tok _, ⟨_, by rw [hn]⟩, q⟩
  have : es.size < 4096 := hb
  omega
end
end HL
/-! HLL: comprehensions as expressions and statements. -/
namespace HL
open PySem L2
section
variable (K : PySem.W.Frag) (mg : Str → Option Value) (W : WX)
def starE (f : EM AV) : TE := fun σ H Q => ∃ ι h ρ, ER K mg ι H σ ρ h ∧ Pst K mg W ι H σ (RV K) Q (f ρ h)
def starT (f : EM Bool) : TT := fun σ H Q => ∃ ι h ρ, ER K mg ι H σ ρ h ∧ Pst K mg W ι H σ RT Q (f ρ h)
def starG (is : List Nat) (g : AV → SM) : TG := fun v σ H Q => ∃ ι h ρ d, ER K mg ι H σ ρ h ∧ RV K ι H v d ∧ PstG K mg W is ι H σ Q (g d ρ h)
def starI (it : EM Sr) : TI := fun σ H R => ∃ ι h ρ, ER K mg ι H σ ρ h ∧ Pst K mg W ι H σ (fun ι' H' J s => ItR K mg ι' H' J s) R (it ρ h)
end
section
variable {K : PySem.W.Frag} {mg : Str → Option Value} {W : WX}
theorem rsE {f : EM AV} : RunE K mg W (starE K mg W f) f := fun ι H h σ ρ E Q q => ⟨ι, h, ρ, E, q⟩
theorem rsT {f : EM Bool} : RunT K mg W (starT K mg W f) f := fun ι H h σ ρ E Q q => ⟨ι, h, ρ, E, q⟩
theorem rsG {is : List Nat} {g : AV → SM} : RunG K mg W is (starG K mg W is g) g := fun ι H h σ ρ v d Q E R q => ⟨ι, h, ρ, d, E, R, q⟩
theorem rsI {it : EM Sr} : RunI K mg W (starI K mg W it) it := fun ι H h σ ρ E Q q => ⟨ι, h, ρ, E, q⟩
end
section
variable {X : Cx} {W : WX} {e tg iter : Expr} {es : List Expr} {f : EM AV} {c : EM Bool} {g : AV → SM} {is : List Nat} {it : EM Sr}
theorem SimE.star (q : SimE X W e f) : PE X e (starE X.K X.mg W f) := by
  obtain ⟨t, p, q⟩ := q
  exact ⟨fun pins s σ H Q I ⟨ι, h, ρ, E, z⟩ => p.run pins s σ H Q I (q ι H h σ ρ E Q z)⟩
theorem SimTs.star (q : SimTs X es c) : PTs X es (starT X.K X.mg noW c) := by
  obtain ⟨t, p, q⟩ := q
  exact ⟨fun pins s σ H Q I ⟨ι, h, ρ, E, z⟩ => p.run pins s σ H Q I (q ι H h σ ρ E Q z)⟩
theorem SimG.star (q : SimG X W tg g is) : PG X tg (starG X.K X.mg W is g) := by
  obtain ⟨t, p, q⟩ := q
  exact ⟨fun pins s σ H v u Q I r ⟨ι, h, ρ, d, E, R, z⟩ => p.run pins s σ H v u Q I r (q ι H h σ ρ v d Q E R z)⟩
theorem SimI.star (q : SimI X W tg iter it) : PI X tg iter (starI X.K X.mg W it) := by
  obtain ⟨t, p, q⟩ := q
  exact ⟨fun pins s σ H R I ⟨ι, h, ρ, E, z⟩ => p.run pins s σ H R I (q ι H h σ ρ E R z)⟩
end
section
variable {X : Cx} {W : WX} {elt kx tg iter tg1 iter1 : Expr} {ifs ifs1 : List Expr} {scope : Scope} {own : List (Str × Nat)} {pos p0 : Pos} {it it1 : EM Sr} {g g1 : AV → SM} {is is1 : List Nat} {cond cond1 : EM Bool} {f fk : EM AV}
abbrev BlkX (X : Cx) (scope : Scope) (P : Cx → Prop) : Prop := ∀ (s : Shared) (H : Hp) (C : Addr) (cl : List (Str × Addr)) (fp : List Addr), P (X.blk s H scope (compEnvC scope cl C X.env) fp)
theorem sim_lc (own : List (Str × Nat)) (hc : X.calm = true) (hN : X.N.Nodup) (hi : SimI X W tg iter it) (ok : BlkOk X.N X.env.scope scope own)
    (hg : BlkX X scope fun Y => SimG Y noW tg g is) (ht : BlkX X scope fun Y => SimTs Y ifs cond) (he : BlkX X scope fun Y => SimE Y noW elt f)
    (his : ∀ i ∈ is, i ∈ own.map (·.2)) (hs : ∀ x, foldedSetIterable iter X.env x = pure x := by intro _; rfl) : SimE X W (.ListComp elt [⟨tg, iter, ifs, 0⟩] scope pos) (eComp it g (own.map (·.2)) cond f) := by
  obtain ⟨w, pi, hi⟩ := hi
  refine ⟨_, pe_lc (g := starG X.K X.mg noW is g) (tt := starT X.K X.mg noW cond) (te := starE X.K X.mg noW f) hc hN pi ok (fun s H C cl fp => (hg s H C cl fp).star) (fun s H C cl fp => (ht s H C cl fp).star) (fun s H C cl fp => (he s H C cl fp).star) hs, ?_⟩
  exact lc_run hi rsG his rsT rsE
theorem sim_setlc (own : List (Str × Nat)) {i : Nat} {y : Str} {py spos : Pos} (hc : X.calm = true) (hN : X.N.Nodup) (hy : X.N[i]? = some y) (hyl : X.env.scope.names.lookup y = some .local)
    (hw : swapsWith (.ListComp elt [⟨tg, iter, ifs, 0⟩] scope pos) (some (.Name y py)) spos.line X.env = pure true) (hi : SimI X W tg iter it) (ok : BlkOk X.N X.env.scope scope own)
    (hg : BlkX X scope fun Y => SimG Y noW tg g is) (ht : BlkX X scope fun Y => SimTs Y ifs cond) (he : BlkX X scope fun Y => SimE Y noW elt f)
    (his : ∀ i ∈ is, i ∈ own.map (·.2)) (hs : ∀ x, foldedSetIterable iter X.env x = pure x := by intro _; rfl) : SimS X W (.Assign [.Name y py] (.ListComp elt [⟨tg, iter, ifs, 0⟩] scope pos) spos) (sSet i (eComp it g (own.map (·.2)) cond f)) := by
  obtain ⟨w, pi, hi⟩ := hi
  refine ⟨_, ps_setLc (g := starG X.K X.mg noW is g) (tt := starT X.K X.mg noW cond) (te := starE X.K X.mg noW f) hc hN hy hyl hw pi ok (fun s H C cl fp => (hg s H C cl fp).star) (fun s H C cl fp => (ht s H C cl fp).star) (fun s H C cl fp => (he s H C cl fp).star) hs, fun ι H h σ ρ D E q => ?_⟩
  exact lc_run hi rsG his rsT rsE ι H h σ ρ E _ (PstS.split E q fun d ι1 H1 h1 v E1 S1 R1 q2 => q2 ι1 H1 _ (E1.set i R1) S1)
theorem sim_lc2 (own own1 : List (Str × Nat)) (hc : X.calm = true) (hN : X.N.Nodup) (hi : SimI X W tg iter it) (ok : BlkOk X.N X.env.scope scope own) (hv : ∀ i ∈ own1.map (·.2), i ∈ own.map (·.2))
    (hg : BlkX X scope fun Y => SimG Y noW tg g is) (ht : BlkX X scope fun Y => SimTs Y ifs cond) (hi1 : BlkX X scope fun Y => SimI Y noW tg1 iter1 it1) (hg1 : BlkX X scope fun Y => SimG Y noW tg1 g1 is1) (ht1 : BlkX X scope fun Y => SimTs Y ifs1 cond1) (he : BlkX X scope fun Y => SimE Y noW elt f)
    (his : ∀ i ∈ is, i ∈ own.map (·.2)) (his1 : ∀ i ∈ is1, i ∈ own1.map (·.2)) (hs : ∀ x, foldedSetIterable iter X.env x = pure x := by intro _; rfl) (hs1 : ∀ env x, foldedSetIterable iter1 env x = pure x := by intro _ _; rfl) :
    SimE X W (.ListComp elt [⟨tg, iter, ifs, 0⟩, ⟨tg1, iter1, ifs1, 0⟩] scope pos) (eComp2 it g (own.map (·.2)) cond it1 g1 (own1.map (·.2)) cond1 f) := by
  obtain ⟨w, pi, hi⟩ := hi
  refine ⟨_, pe_lc2 (vs1 := own1.map (·.2)) (g := starG X.K X.mg noW is g) (tt := starT X.K X.mg noW cond) (wi1 := starI X.K X.mg noW it1) (g1 := starG X.K X.mg noW is1 g1) (tt1 := starT X.K X.mg noW cond1) (te := starE X.K X.mg noW f) hc hN pi ok hv (fun s H C cl fp => (hg s H C cl fp).star) (fun s H C cl fp => (ht s H C cl fp).star)
    (fun s H C cl fp => (hi1 s H C cl fp).star) (fun s H C cl fp => (hg1 s H C cl fp).star) (fun s H C cl fp => (ht1 s H C cl fp).star) (fun s H C cl fp => (he s H C cl fp).star) hs hs1, ?_⟩
  exact lc2_run hi rsG his rsT rsI rsG his1 rsT rsE
theorem sim_setlc2 (own own1 : List (Str × Nat)) {i : Nat} {y : Str} {py spos : Pos} (hc : X.calm = true) (hN : X.N.Nodup) (hy : X.N[i]? = some y) (hyl : X.env.scope.names.lookup y = some .local)
    (hw : swapsWith (.ListComp elt [⟨tg, iter, ifs, 0⟩, ⟨tg1, iter1, ifs1, 0⟩] scope pos) (some (.Name y py)) spos.line X.env = pure true) (hi : SimI X W tg iter it) (ok : BlkOk X.N X.env.scope scope own) (hv : ∀ i ∈ own1.map (·.2), i ∈ own.map (·.2))
    (hg : BlkX X scope fun Y => SimG Y noW tg g is) (ht : BlkX X scope fun Y => SimTs Y ifs cond) (hi1 : BlkX X scope fun Y => SimI Y noW tg1 iter1 it1) (hg1 : BlkX X scope fun Y => SimG Y noW tg1 g1 is1) (ht1 : BlkX X scope fun Y => SimTs Y ifs1 cond1) (he : BlkX X scope fun Y => SimE Y noW elt f)
    (his : ∀ i ∈ is, i ∈ own.map (·.2)) (his1 : ∀ i ∈ is1, i ∈ own1.map (·.2)) (hs : ∀ x, foldedSetIterable iter X.env x = pure x := by intro _; rfl) (hs1 : ∀ env x, foldedSetIterable iter1 env x = pure x := by intro _ _; rfl) :
    SimS X W (.Assign [.Name y py] (.ListComp elt [⟨tg, iter, ifs, 0⟩, ⟨tg1, iter1, ifs1, 0⟩] scope pos) spos) (sSet i (eComp2 it g (own.map (·.2)) cond it1 g1 (own1.map (·.2)) cond1 f)) := by
  obtain ⟨w, pi, hi⟩ := hi
  refine ⟨_, ps_setLc2 (vs1 := own1.map (·.2)) (g := starG X.K X.mg noW is g) (tt := starT X.K X.mg noW cond) (wi1 := starI X.K X.mg noW it1) (g1 := starG X.K X.mg noW is1 g1) (tt1 := starT X.K X.mg noW cond1) (te := starE X.K X.mg noW f) hc hN hy hyl hw pi ok hv (fun s H C cl fp => (hg s H C cl fp).star) (fun s H C cl fp => (ht s H C cl fp).star)
    (fun s H C cl fp => (hi1 s H C cl fp).star) (fun s H C cl fp => (hg1 s H C cl fp).star) (fun s H C cl fp => (ht1 s H C cl fp).star) (fun s H C cl fp => (he s H C cl fp).star) hs hs1, fun ι H h σ ρ D E q => ?_⟩
  exact lc2_run hi rsG his rsT rsI rsG his1 rsT rsE ι H h σ ρ E _ (PstS.split E q fun d ι1 H1 h1 v E1 S1 R1 q2 => q2 ι1 H1 _ (E1.set i R1) S1)
theorem sim_dc (own : List (Str × Nat)) (hc : X.calm = true) (hN : X.N.Nodup) (hi : SimI X W tg iter it) (ok : BlkOk X.N X.env.scope scope own)
    (hg : BlkX X scope fun Y => SimG Y noW tg g is) (ht : BlkX X scope fun Y => SimTs Y ifs cond) (hk : BlkX X scope fun Y => SimE Y noW kx fk) (he : BlkX X scope fun Y => SimE Y noW elt f)
    (his : ∀ i ∈ is, i ∈ own.map (·.2)) (hs : ∀ x, foldedSetIterable iter X.env x = pure x := by intro _; rfl) : SimE X W (.DictComp kx elt [⟨tg, iter, ifs, 0⟩] scope pos) (eDComp it g (own.map (·.2)) cond fk f) := by
  obtain ⟨w, pi, hi⟩ := hi
  refine ⟨_, pe_dc (g := starG X.K X.mg noW is g) (tt := starT X.K X.mg noW cond) (tk := starE X.K X.mg noW fk) (tv := starE X.K X.mg noW f) hc hN pi ok (fun s H C cl fp => (hg s H C cl fp).star) (fun s H C cl fp => (ht s H C cl fp).star) (fun s H C cl fp => (hk s H C cl fp).star) (fun s H C cl fp => (he s H C cl fp).star) hs, ?_⟩
  exact dc_run hi rsG his rsT rsE rsE
theorem sim_setdc (own : List (Str × Nat)) {i : Nat} {y : Str} {py spos : Pos} (hc : X.calm = true) (hN : X.N.Nodup) (hy : X.N[i]? = some y) (hyl : X.env.scope.names.lookup y = some .local)
    (hw : swapsWith (.DictComp kx elt [⟨tg, iter, ifs, 0⟩] scope pos) (some (.Name y py)) spos.line X.env = pure true) (hi : SimI X W tg iter it) (ok : BlkOk X.N X.env.scope scope own)
    (hg : BlkX X scope fun Y => SimG Y noW tg g is) (ht : BlkX X scope fun Y => SimTs Y ifs cond) (hk : BlkX X scope fun Y => SimE Y noW kx fk) (he : BlkX X scope fun Y => SimE Y noW elt f)
    (his : ∀ i ∈ is, i ∈ own.map (·.2)) (hs : ∀ x, foldedSetIterable iter X.env x = pure x := by intro _; rfl) : SimS X W (.Assign [.Name y py] (.DictComp kx elt [⟨tg, iter, ifs, 0⟩] scope pos) spos) (sSet i (eDComp it g (own.map (·.2)) cond fk f)) := by
  obtain ⟨w, pi, hi⟩ := hi
  refine ⟨_, DP.ps_setDc (g := starG X.K X.mg noW is g) (tt := starT X.K X.mg noW cond) (tk := starE X.K X.mg noW fk) (tv := starE X.K X.mg noW f) hc hN hy hyl hw pi ok (fun s H C cl fp => (hg s H C cl fp).star) (fun s H C cl fp => (ht s H C cl fp).star) (fun s H C cl fp => (hk s H C cl fp).star) (fun s H C cl fp => (he s H C cl fp).star) hs, fun ι H h σ ρ D E q => ?_⟩
  exact dc_run hi rsG his rsT rsE rsE ι H h σ ρ E _ (PstS.split E q fun d ι1 H1 h1 v E1 S1 R1 q2 => q2 ι1 H1 _ (E1.set i R1) S1)
/-- len({..}), sorted({..}) -/
theorem sim_lensc {fp : Pos} (own : List (Str × Nat)) (hgl : Gl X "len") (hm : X.mg "len" = none) (hb : bootBuiltins "len" = some (.builtin "len")) (hc : X.calm = true) (hN : X.N.Nodup) (hi : SimI X W tg iter it) (ok : BlkOk X.N X.env.scope scope own)
    (hg : BlkX X scope fun Y => SimG Y noW tg g is) (ht : BlkX X scope fun Y => SimTs Y ifs cond) (he : BlkX X scope fun Y => SimE Y noW elt f)
    (his : ∀ i ∈ is, i ∈ own.map (·.2)) (hs : ∀ x, foldedSetIterable iter X.env x = pure x := by intro _; rfl)
    (hst : starEach (.SetComp elt [⟨tg, iter, ifs, 0⟩] scope pos :: []) X.env = (false, eval (.SetComp elt [⟨tg, iter, ifs, 0⟩] scope pos) X.env) :: starEach [] X.env := by rfl) (hpl : (backTo p0 (starEach [] X.env)).any (·.1) = false := by rfl) :
    SimE X W (.Call (.Name "len" fp) [.SetComp elt [⟨tg, iter, ifs, 0⟩] scope pos] [] p0) (eSet it g (own.map (·.2)) cond f uLen) := by
  obtain ⟨w, pi, hi⟩ := hi
  refine ⟨_, pe_callB cr_lenSet hgl hm hb (pa_cons (pe_sci (g := starG X.K X.mg noW is g) (tt := starT X.K X.mg noW cond) (te := starE X.K X.mg noW f) hc hN pi ok (fun s H C cl fp => (hg s H C cl fp).star) (fun s H C cl fp => (ht s H C cl fp).star) (fun s H C cl fp => (he s H C cl fp).star) hs) pa_nil hst) (by decide) (by decide) hst hpl, ?_⟩
  refine sc_run (w := X.w) (rr := fun v H' Q => ∃ a S n, [v] = [V.ref a] ∧ H' a = some (SetO X.w a S n) ∧ Q (.int (n : Nat)) H') (fun ι H h p acc c Q E np e nd eu q => ?_) hi rsG his rsT rsE
  cases eu
  exact ⟨p, _, _, rfl, e, q _ _ (na_val (.int _))⟩
theorem sim_sortsc {fp : Pos} (own : List (Str × Nat)) (hgl : Gl X "sorted") (hm : X.mg "sorted" = none) (hb : bootBuiltins "sorted" = some (.builtin "sorted")) (hc : X.calm = true) (hN : X.N.Nodup) (hi : SimI X W tg iter it) (ok : BlkOk X.N X.env.scope scope own)
    (hg : BlkX X scope fun Y => SimG Y noW tg g is) (ht : BlkX X scope fun Y => SimTs Y ifs cond) (he : BlkX X scope fun Y => SimE Y noW elt f)
    (his : ∀ i ∈ is, i ∈ own.map (·.2)) (hs : ∀ x, foldedSetIterable iter X.env x = pure x := by intro _; rfl)
    (hst : starEach (.SetComp elt [⟨tg, iter, ifs, 0⟩] scope pos :: []) X.env = (false, eval (.SetComp elt [⟨tg, iter, ifs, 0⟩] scope pos) X.env) :: starEach [] X.env := by rfl) (hpl : (backTo p0 (starEach [] X.env)).any (·.1) = false := by rfl) :
    SimE X W (.Call (.Name "sorted" fp) [.SetComp elt [⟨tg, iter, ifs, 0⟩] scope pos] [] p0) (eSet it g (own.map (·.2)) cond f uSort) := by
  obtain ⟨w, pi, hi⟩ := hi
  refine ⟨_, pe_callB (cr_sortedSet hc) hgl hm hb (pa_cons (pe_sci (g := starG X.K X.mg noW is g) (tt := starT X.K X.mg noW cond) (te := starE X.K X.mg noW f) hc hN pi ok (fun s H C cl fp => (hg s H C cl fp).star) (fun s H C cl fp => (ht s H C cl fp).star) (fun s H C cl fp => (he s H C cl fp).star) hs) pa_nil hst) (by decide) (by decide) hst hpl, ?_⟩
  refine sc_run (w := X.w) (rr := fun v H' Q => rSortedSet X.w [v] H' Q) (fun ι H h p acc c Q E np e nd eu q => ?_) hi rsG his rsT rsE
  unfold uSort at eu
  split at eu
  · rename_i h64
    cases eu
    refine ⟨p, _, _, rfl, e, h64, fun ns l hs hm hl hn => ?_⟩
    have hp : ns.Perm acc := (List.perm_ext_iff_of_nodup (hs.imp (fun h => Int.ne_of_lt h)) nd).mpr fun k => by rw [hm k]; simp
    have : ns = acc.mergeSort DP.leI := DP.sorted_unique (hp.trans (List.mergeSort_perm acc DP.leI).symm) (hs.imp fun h => Int.le_of_lt h) (DP.msort_sorted acc)
    subst this
    exact q _ _ (na_lst hn (rv_ints _))
  · cases eu
end
end HL
namespace HL
open PySem L2
section
variable {K : PySem.W.Frag} {mg : Str → Option Value}
theorem o2_eqS : OpA2 K mg rEq (gEqS false) := op2_lift DP.o2_eqS
theorem o2_neS : OpA2 K mg rNe (gEqS true) := op2_lift DP.o2_neS
theorem on_repr : OpAN K mg (fun xs H Q => DP.rReprD K xs H Q ∨ DP.rReprS xs H Q) gRepr := opN_lift (DP.on_reprA K)
end
def sPar3 (i j l : Nat) (fs : EM (List AV)) : SM := bndS fs fun ds ρ h =>
  match ds with
  | [c, d, e] => .nx (setE (setE (setE ρ i c) j d) l e) h
  | _ => .no
theorem RVs.three {K : PySem.W.Frag} {ι : List Addr} {H : Hp} {vs : List V} {d d' d2 : AV} (h : RVs K ι H vs [d, d', d2]) : ∃ v w u, vs = [v, w, u] ∧ RV K ι H v d ∧ RV K ι H w d' ∧ RV K ι H u d2 := by
  cases h with
  | cons r h =>
    obtain ⟨w, u, rfl, q, q2⟩ := h.two
    exact ⟨_, w, u, rfl, r, q, q2⟩
theorem sim_par3 {X : Cx} {W : WX} {pos : Pos} {i j l : Nat} {x y z : Str} {a b c : Expr} {fs : EM (List AV)} {px py pz pt : Pos} {kt k2 pt2} (hc : X.calm = true) (hN : X.N.Nodup) (hi : X.N[i]? = some x) (hj : X.N[j]? = some y) (hl : X.N[l]? = some z) (hij : i ≠ j) (hil : i ≠ l) (hjl : j ≠ l)
    (hx : X.env.scope.names.lookup x = some .local) (hy : X.env.scope.names.lookup y = some .local) (hz : X.env.scope.names.lookup z = some .local) (ha : SimA X W [a, b, c] fs)
    (hw : swappedStores [.Tuple [.Name x px, .Name y py, .Name z pz] kt pt] (.Tuple [a, b, c] k2 pt2) X.env = pure (some [x, y, z])) (hs : swapsWithSole [.Tuple [.Name x px, .Name y py, .Name z pz] kt pt] (.Tuple [a, b, c] k2 pt2) pos.line X.env = pure false := by rfl) :
    SimS X W (.Assign [.Tuple [.Name x px, .Name y py, .Name z pz] kt pt] (.Tuple [a, b, c] k2 pt2) pos) (sPar3 i j l fs) := by
  obtain ⟨t, pa, ha⟩ := ha
  refine ⟨_, ps_par3 hc hN hi hj hl hij hil hjl hx hy hz pa hw hs, fun ι H h σ ρ D E q => ?_⟩
  refine ha ι H h σ ρ E _ (PstS.split E q fun ds ι1 H1 h1 vs E1 S1 R1 q1 => ?_)
  split at q1
  · obtain ⟨v, w, u, rfl, r1, r2, r3⟩ := R1.three
    exact ⟨v, w, u, rfl, q1 ι1 H1 _ (((E1.set i r1).set j r2).set l r3) S1⟩
  · exact q1.elim
end HL
/-! HLM: calls that leave defaults out; what a default that is a tuple holds, told by the hook. -/
namespace DP
open PySem PySem.Spec PyProof.Rows L2
section
variable {X : Cx} {CX : CXT} {k : Nat} {f : Addr} {fd : FuncData} {ps : List Str} {sp : Sp} {E : L2.St → XK} {x : Str} {p pos : Pos} {e : Expr} {es : List Expr} {t : TA} {dv : List V} {ds : List Value}
theorem vals_app : ∀ {vs ws : List V} {us ts : List Value}, Vals vs us → Vals ws ts → Vals (vs ++ ws) (us ++ ts)
  | _, _, _, _, .nil, h => h
  | _, _, _, _, .cons r h, h' => .cons r (vals_app h h')
theorem pe_callGD (F : GFn X.prog X.w X.K X.mg X.base CX k f fd ps sp) (hq : Quiet X.A) (hr : Room k X.A) (hg : Gl X x) (hm : X.mg x = some (.ref f)) (hk : PySem.W.keepIn X.K (.ref f) = true) (hb : Binds X.K fd ps ds) (hv : Vals dv ds) (hx : ∀ σ, PassesAt CX X σ (E σ))
    (ha : PA X (e :: es) t) (hdb : (x == ("__debug__" : Str)) = false := by decide) (he : starEach (e :: es) X.env = (false, eval e X.env) :: starEach es X.env := by rfl) (hpl : (backTo pos (starEach es X.env)).any (·.1) = false := by rfl) : PE X (.Call (.Name x p) (e :: es) [] pos) (tCallS (fun vs H Q E => sp (vs ++ dv) H Q E) E t) := by
  constructor
  intro pins st σ H Q I h
  refine wpAny_Call_Name_kw (ld_glob I hg hm ?_ hdb)
  refine PySem.W.callWith_K (h₀ := X.base) I.ok.mod.kin hk (thn (ha.run pos pins st σ H _ I h) fun us st1 ⟨vals, H1, J, r, q⟩ => ⟨J.kIn, ?_⟩) he hpl
  have r2 : Vals (vals ++ dv) (us ++ ds) := vals_app r hv
  have n1 : (us ++ ds).length = ps.length := r2.length.symm.trans (F.len _ _ _ _ q)
  have b1 := hb st1 us J.kIn n1
  refine wpAny_call (codeAny_mono (F.run X.A X.stack st1 H1 ⟨us, []⟩ (us ++ ds) (vals ++ dv) Q (E σ) hq hr J.env0 b1 r2 q) fun res st2 z => ?_)
  match res, z with
  | .error ex, z => exact hx σ pins H1 st1 ex st2 J z
  | .ok (.ret u), z => exact J.after z
  | .ok .next, z => exact z.elim
  | .ok .brk, z => exact z.elim
  | .ok .cont, z => exact z.elim
end
end DP
namespace HL
open PySem L2
structure CalHD (P : Program) (w : World) (K : PySem.W.Frag) (mg : Str → Option Value) (base : Heap) (k : Nat) (x : Str) (ps : List Str) (dv : List AV) (m : FM) : Prop where
  ex : ∃ (f : Addr) (fd : FuncData) (vs : List V) (ds : List Value), DP.GFn P w K mg base CX0 k f fd ps (spH K mg ps.length m) ∧ mg x = some (.ref f) ∧ PySem.W.keepIn K (.ref f) = true ∧ Binds K fd ps ds ∧ Vals vs ds ∧ ∀ ι H, RVs K ι H vs dv
def eCallD (n : Nat) (m : FM) (dv : List AV) (fa : EM (List AV)) : EM AV := bnd fa fun ds _ h => if (ds ++ dv).length = n then m (ds ++ dv) h else .no
section
variable {X : Cx} {W : WX} {k : Nat} {ps : List Str} {dv : List AV} {x : Str} {p pos : Pos} {e : Expr} {es : List Expr} {fs : EM (List AV)} {m : FM}
theorem sim_callD (C : CalHD X.prog X.w X.K X.mg X.base k x ps dv m) (hq : DP.Quiet X.A) (hr : Room k X.A) (hg : Gl X x) (ha : SimA X W (e :: es) fs) {n : Nat} (hn : ps.length = n := by rfl)
    (hdb : (x == ("__debug__" : Str)) = false := by decide) (he : starEach (e :: es) X.env = (false, eval e X.env) :: starEach es X.env := by rfl) (hpl : (backTo pos (starEach es X.env)).any (·.1) = false := by rfl) : SimE X W (.Call (.Name x p) (e :: es) [] pos) (eCallD n m dv fs) := by
  subst hn
  obtain ⟨f, fd, us, ds, F, h1, h2, h3, h4, h5⟩ := C.ex
  obtain ⟨t, pa, ha⟩ := ha
  refine ⟨_, DP.pe_callGD (E := fun σ cls d H => W cls d σ H) F hq hr hg h1 h2 h3 h4 (fun σ => DP.pass0S σ _) pa hdb he hpl, fun ι H h σ ρ E Q q => ?_⟩
  exact ha ι H h σ ρ E _ (q.split fun ds ι1 H1 h1 vs E1 S1 R1 q1 => pst_call (ρ := ρ) E1 S1 (R1.append (h5 _ _)) q1)
theorem eCallD_ap {ρ : Env} {h : AH} (n : Nat) (m : FM) (dv : List AV) (fa : EM (List AV)) : eCallD n m dv fa ρ h = (fa ρ h).bind fun ds h => if (ds ++ dv).length = n then m (ds ++ dv) h else .no := rfl
end
/-! list.remove, of ints -/
def mRemove : MR := fun h a as =>
  match a, as with
  | .ref n, [.int i] => (lstAt h n).bind fun xs => (intsA xs).bind fun ns => if i ∈ ns then some (.non, h.set n (.lst ((ns.eraseIdx (ns.idxOf i)).map .int))) else none
  | _, _ => none
theorem rvs_ints {K : PySem.W.Frag} {ι : List Addr} {H : Hp} : ∀ ns : List Int, RVs K ι H (ns.map V.int) (ns.map AV.int)
  | [] => .nil
  | n :: ns => .cons (.int n) (rvs_ints ns)
theorem om_remove {K : PySem.W.Frag} {mg : Str → Option Value} : OpM K mg rRemI mRemove := ⟨fun ι H h x xs a as d h' Q E R Rs e q => by
  unfold mRemove at e
  split at e
  · rename_i n i
    cases e1 : lstAt h n with
    | none => rw [e1] at e; cases e
    | some ys =>
      rw [e1, Option.bind_some] at e
      cases e2 : intsA ys with
      | none => rw [e2] at e; cases e
      | some ns =>
        rw [e2, Option.bind_some] at e
        split at e
        · rename_i hm
          cases e
          obtain ⟨p, us, rfl, hp, h1, rr⟩ := E.lst R (lstAt_eq e1)
          obtain ⟨w, rfl, rw'⟩ := Rs.one
          have eu := intsA_rv rr e2
          subst eu
          obtain ⟨E3, S3⟩ := E.put (c := .lst ((ns.eraseIdx (ns.idxOf i)).map .int)) (o := .lst ((ns.eraseIdx (ns.idxOf i)).map V.int)) hp (nofzL h1) fun k => ⟨_, upd_same, rvs_ints _⟩
          have hlt : ns.idxOf i < ns.length := List.idxOf_lt_length_iff.mpr hm
          refine ⟨p, ns, i, ns.idxOf i, rfl, by rw [rw'.int'], h1, ?_, ?_, q ι _ _ E3 S3 .non⟩
          · rw [List.getElem?_eq_getElem hlt, List.getElem_idxOf hlt]
          · intro m hm2 hc
            obtain ⟨hx, ex⟩ := List.getElem?_eq_some_iff.mp hc
            have := List.not_of_lt_findIdx (p := (· == i)) (xs := ns) (i := m) hm2
            rw [ex] at this
            simp at this
        · cases e
  · cases e⟩
/-! a tuple at an address of the head -/
def tupAt (K : PySem.W.Frag) (a : Addr) (vs : List He.Dv) : Bool := match K.lookup a with
  | some ⟨.type c, _, .seq its _, _⟩ => decide (c = "tuple") && (decide (its.size ≤ sizeLine) && He.relAll (vs.map (He.Dv.v K)) its.toList)
  | _ => false
theorem tupAt_ok {K : PySem.W.Frag} {a : Addr} {vs : List He.Dv} (h : tupAt K a vs = true) : WrT K a (vs.map (He.Dv.v K)) := by
  intro H
  unfold tupAt at h
  split at h
  · rename_i c od its n osl q
    simp only [Bool.and_eq_true, decide_eq_true_eq] at h
    exact .inr ⟨_, its, n, q, congrArg Value.type h.1, rfl, h.2.1, He.relAll_ok h.2.2⟩
  · cases h
/-- the hook, with a further look at the head -/
def hookE (n : Nat) (fa : List He.Fa) (fn : List He.DefD) (ex : PySem.W.Frag → Bool) : PySem.W.Hook where
  α := He.AlD × Bool
  obs := fun s => (He.obsDG n fa fn s.heap.get?, ex (He.frG s.heap.get? (He.asD s.heap.get? n)))
  val := fun _ => (He.valD fn, true)
  says := fun _ h => ∃ K : PySem.W.Frag, K.In h ∧ He.SaysD fa fn K ∧ ex K = true
  of := fun _ _ e => ⟨_, He.frG_in, congrArg Prod.fst e, congrArg Prod.snd e⟩
  keeps := fun _ _ _ ⟨K, hK, c⟩ k => ⟨K, PySem.W.Frag.In.keeps hK k, c⟩
def obE (n : Nat) (fa : List He.Fa) (fn : List He.DefD) (ex : PySem.W.Frag → Bool) (g : Addr → Option Obj) : He.AlD × Bool := (He.obsDG n fa fn g, ex (He.frG g (He.asD g n)))
theorem obE_eq {n : Nat} {fa : List He.Fa} {fn : List He.DefD} {ex : PySem.W.Frag → Bool} {g : Addr → Option Obj} {s : Shared} (h : ∀ a, g a = s.heap.get? a) : obE n fa fn ex g = (hookE n fa fn ex).obs s := by
  have e : g = s.heap.get? := funext h
  rw [e] <;> rfl
end HL
namespace LW
open PySem L2 HL
def top (i : Nat) : Stmt := PySem.Challenge.pw_leastbroken_k13_what_sums_push.main.body.getD i (.Pass ⟨0, 0, 0, 0⟩)

def fu_pushed_1 : Nat := 1000
def fu__law_pushed_1 : Nat := 1000
def fu__law_may_come_1 : Nat := 1000
structure Txt (K : PySem.W.Frag) (mg : Str → Option Value) : Prop where
  b_abs : mg "abs" = none
  b_int : mg "int" = none
  b_isinstance : mg "isinstance" = none
  b_len : mg "len" = none
  b_list : mg "list" = none
  b_max : mg "max" = none
  b_min : mg "min" = none
  b_range : mg "range" = none
  b_repr : mg "repr" = none
  b_sorted : mg "sorted" = none
  b_sum : mg "sum" = none
  b_tuple : mg "tuple" = none
theorem bt_abs : bootBuiltins "abs" = some (.builtin "abs") := by decide +kernel
theorem bt_int : bootBuiltins "int" = some (.type "int") := by decide +kernel
theorem bt_isinstance : bootBuiltins "isinstance" = some (.builtin "isinstance") := by decide +kernel
theorem bt_len : bootBuiltins "len" = some (.builtin "len") := by decide +kernel
theorem bt_list : bootBuiltins "list" = some (.type "list") := by decide +kernel
theorem bt_max : bootBuiltins "max" = some (.builtin "max") := by decide +kernel
theorem bt_min : bootBuiltins "min" = some (.builtin "min") := by decide +kernel
theorem bt_repr : bootBuiltins "repr" = some (.builtin "repr") := by decide +kernel
theorem bt_sorted : bootBuiltins "sorted" = some (.builtin "sorted") := by decide +kernel
theorem bt_sum : bootBuiltins "sum" = some (.builtin "sum") := by decide +kernel
theorem bt_tuple : bootBuiltins "tuple" = some (.type "tuple") := by decide +kernel
section
variable {P : Program} {w : World} {K : PySem.W.Frag} {mg : Str → Option Value} {base : Heap}
/-! _law_pool -/
abbrev st__law_pool : Stmt := top 5
abbrev N__law_pool : List Str := ["_law_script", "_law_k", "_law_cell", "_law_great", "_law_mixed"]
theorem sc__law_pool : FnScope N__law_pool ["_law_script", "_law_k"] (defScope st__law_pool) := ⟨rfl, rfl, rfl, by decide +kernel, rfl, by decide +kernel, by decide +kernel⟩
noncomputable def b__law_pool : SM := (sSeq (sSet 2 (eOp2 gAdd (eOp2 gMul (eC (.int 11)) (eOpN gSum (aCons (eSl (eVar 0) none (some (eC (.int 63)))) aNil))) (eVar 1)))
    (sSeq (sIf (tBool (eOp2 gLt (eVar 1) (eOpN gLen (aCons (eVar 0) aNil)))) (sSet 2 (eOp2 gIx (eVar 0) (eVar 1))) sNil)
    (sSeq (sSet 3 (eOpN gAbs (aCons (eVar 2) aNil)))
    (sSeq (sSet 4 (eOp2 gMod (eOp2 gMul (eOp2 gAdd (eOp2 gAdd (eOp2 gAdd (eOp2 gMod (eVar 3) (eC (.int 2147483629))) (eOp2 gMul (eOp2 gMul (eC (.int 7919)) (eVar 1)) (eVar 1))) (eOp2 gMul (eC (.int 31)) (eVar 1))) (eC (.int 17))) (eC (.int 48271))) (eC (.int 2147483647))))
    (sRet (eLst (aCons (eOp2 gMul (eVar 3) (eOpN gInt (aCons (eOp2 gGe (eVar 3) (eOp2 gPow (eC (.int 10)) (eC (.int 18)))) aNil))) (aCons (eOp2 gMod (eOp2 gMul (eVar 4) (eVar 4)) (eC (.int 2147483629))) aNil))))))))
noncomputable def m__law_pool : FM := fun ds h => (runH N__law_pool.length b__law_pool ds h).calm
theorem me__law_pool (ds : List AV) (h : AH) : m__law_pool ds h = (runH 5 b__law_pool ds h).calm := Eq.trans rfl rfl
theorem ok__law_pool {f : Addr} {fd : FuncData} {dvs : List V} (F : DP.FnP K "_law_pool" st__law_pool dvs f fd) (T : Txt K mg)  : DP.GFn P w K mg base CX0 1 f fd ["_law_script", "_law_k"] (spH K mg 2 m__law_pool) := fn_simH (b := b__law_pool) F sc__law_pool (fun cdv A outer s H E hq hr => (sim_seq (sim_set (i := 2) sc__law_pool.nd rfl (.inl rfl) (sim_op DP.or_add o2_add (sim_op DP.or_mul o2_mul sim_int (sim_callB (cr_sum rfl) on_sum (by rfl) T.b_sum bt_sum (sim_acons (sim_slice (sim_var (pv 0)) sim_onone (sim_osome sim_int)) sim_anil))) (sim_var (pv 1))))
    (sim_seq (sim_if (sim_tcmp op_lt o2_lt (sim_var (pv 1)) (sim_callB call_len on_len (by rfl) T.b_len bt_len (sim_acons (sim_var (pv 0)) sim_anil)) (nomark _)) (sim_one (sim_set (i := 2) sc__law_pool.nd rfl (.inl rfl) (sim_ix (DP.ir_all (hu_of hr)) o2_ix (sim_var (pv 0)) (sim_var (pv 1)) (fun _ _ => rfl)))) sim_nil)
    (sim_seq (sim_set (i := 3) sc__law_pool.nd rfl (.inl rfl) (sim_callB call_abs on_abs (by rfl) T.b_abs bt_abs (sim_acons (sim_var (pv 2)) sim_anil)))
    (sim_seq (sim_set (i := 4) sc__law_pool.nd rfl (.inl rfl) (sim_op op_mod o2_mod (sim_op DP.or_mul o2_mul (sim_op DP.or_add o2_add (sim_op DP.or_add o2_add (sim_op DP.or_add o2_add (sim_op op_mod o2_mod (sim_var (pv 3)) sim_int) (sim_op DP.or_mul o2_mul (sim_op DP.or_mul o2_mul sim_int (sim_var (pv 1))) (sim_var (pv 1)))) (sim_op DP.or_mul o2_mul sim_int (sim_var (pv 1)))) sim_int) sim_int) sim_int))
    (sim_one (sim_ret (sim_lst (sim_acons (sim_op DP.or_mul o2_mul (sim_var (pv 3)) (sim_callTy call_int1 on_int (by rfl) T.b_int bt_int (sim_acons (sim_cmp op_ge o2_ge (sim_var (pv 3)) (sim_op op_pow o2_pow sim_int sim_int) (nomark _)) sim_anil))) (sim_acons (sim_op op_mod o2_mod (sim_op DP.or_mul o2_mul (sim_var (pv 4)) (sim_var (pv 4))) sim_int) sim_anil))))))))))
/-! _law_take -/
abbrev st__law_take : Stmt := top 6
abbrev N__law_take : List Str := ["_law_pool_here", "_law_many", "_law_found"]
theorem sc__law_take : FnScope N__law_take ["_law_pool_here", "_law_many"] (defScope st__law_take) := ⟨rfl, rfl, rfl, by decide +kernel, rfl, by decide +kernel, by decide +kernel⟩
noncomputable def b__law_take : SM := (sSeq (sIf (tBool (eOp2 gGt (eOp2 gIx (eVar 0) (eC (.int 0))) (eC (.int 0)))) (sSeq (sSet 2 (eOp2 gMod (eOp2 gIx (eVar 0) (eC (.int 0))) (eVar 1)))
    (sSeq (sAsg1 (eOp2 gFdiv (eOp2 gIx (eVar 0) (eC (.int 0))) (eVar 1)) (gSub1 (eVar 0) (eC (.int 0))))
    (sRet (eVar 2)))) sNil)
    (sSeq (sAsg1 (eOp2 gMod (eOp2 gAdd (eOp2 gMul (eOp2 gIx (eVar 0) (eC (.int 1))) (eC (.int 48271))) (eC (.int 11))) (eC (.int 2147483647))) (gSub1 (eVar 0) (eC (.int 1))))
    (sRet (eOp2 gMod (eOp2 gFdiv (eOp2 gMod (eOp2 gMul (eOp2 gIx (eVar 0) (eC (.int 1))) (eOp2 gIx (eVar 0) (eC (.int 1)))) (eC (.int 2147483629))) (eC (.int 16))) (eVar 1)))))
noncomputable def m__law_take : FM := fun ds h => (runH N__law_take.length b__law_take ds h).calm
theorem me__law_take (ds : List AV) (h : AH) : m__law_take ds h = (runH 3 b__law_take ds h).calm := Eq.trans rfl rfl
theorem ok__law_take {f : Addr} {fd : FuncData} {dvs : List V} (F : DP.FnP K "_law_take" st__law_take dvs f fd) (T : Txt K mg)  : DP.GFn P w K mg base CX0 1 f fd ["_law_pool_here", "_law_many"] (spH K mg 2 m__law_take) := fn_simH (b := b__law_take) F sc__law_take (fun cdv A outer s H E hq hr => (sim_seq (sim_if (sim_tcmp op_gt o2_gt (sim_ix (DP.ir_all (hu_of hr)) o2_ix (sim_var (pv 0)) sim_int (fun _ _ => rfl)) sim_int (nomark _)) (sim_seq (sim_set (i := 2) sc__law_take.nd rfl (.inl rfl) (sim_op op_mod o2_mod (sim_ix (DP.ir_all (hu_of hr)) o2_ix (sim_var (pv 0)) sim_int (fun _ _ => rfl)) (sim_var (pv 1))))
    (sim_seq (sim_asg1 (sim_op op_fdivW o2_fdiv (sim_ix (DP.ir_all (hu_of hr)) o2_ix (sim_var (pv 0)) sim_int (fun _ _ => rfl)) (sim_var (pv 1))) (sim_gsub (hu_of hr) (sim_var (pv 0)) sim_int))
    (sim_one (sim_ret (sim_var (pv 2)))))) sim_nil)
    (sim_seq (sim_asg1 (sim_op op_mod o2_mod (sim_op DP.or_add o2_add (sim_op DP.or_mul o2_mul (sim_ix (DP.ir_all (hu_of hr)) o2_ix (sim_var (pv 0)) sim_int (fun _ _ => rfl)) sim_int) sim_int) sim_int) (sim_gsub (hu_of hr) (sim_var (pv 0)) sim_int))
    (sim_one (sim_ret (sim_op op_mod o2_mod (sim_op op_fdivW o2_fdiv (sim_op op_mod o2_mod (sim_op DP.or_mul o2_mul (sim_ix (DP.ir_all (hu_of hr)) o2_ix (sim_var (pv 0)) sim_int (fun _ _ => rfl)) (sim_ix (DP.ir_all (hu_of hr)) o2_ix (sim_var (pv 0)) sim_int (fun _ _ => rfl))) sim_int) sim_int) (sim_var (pv 1))))))))
/-! _law_known -/
abbrev st__law_known : Stmt := top 16
abbrev N__law_known : List Str := ["_law_pool_here", "_law_size", "_law_found", "_law_box"]
theorem sc__law_known : FnScope N__law_known ["_law_pool_here", "_law_size"] (defScope st__law_known) := ⟨rfl, rfl, rfl, by decide +kernel, rfl, by decide +kernel, by decide +kernel⟩
noncomputable def b__law_known : SM := (sSeq (sSet 2 (eLst aNil))
    (sSeq (sFor (iRng2M (aCons (eC (.int 1)) (aCons (eOp2 gAdd (eVar 1) (eC (.int 1))) aNil))) (gNm 3) (sIf (tBool (eOp2 (gEq false) (eCall 2 m__law_take (aCons (eVar 0) (aCons (eC (.int 4)) aNil))) (eC (.int 0)))) (sExpr (eMeth "list" mAppend (eVar 2) (aCons (eOp2 gIx (eLst (aCons (eVar 3) (aCons (eOp2 gSub (eC (.int 0)) (eVar 3)) aNil))) (eCall 2 m__law_take (aCons (eVar 0) (aCons (eC (.int 2)) aNil)))) aNil))) sNil))
    (sRet (eVar 2))))
noncomputable def m__law_known : FM := fun ds h => (runH N__law_known.length b__law_known ds h).calm
theorem me__law_known (ds : List AV) (h : AH) : m__law_known ds h = (runH 4 b__law_known ds h).calm := Eq.trans rfl rfl
theorem ok__law_known {f : Addr} {fd : FuncData} {dvs : List V} (F : DP.FnP K "_law_known" st__law_known dvs f fd) (T : Txt K mg) (C__law_take : CalH P w K mg base 1 "_law_take" ["_law_pool_here", "_law_many"] m__law_take) : DP.GFn P w K mg base CX0 2 f fd ["_law_pool_here", "_law_size"] (spH K mg 2 m__law_known) := fn_simH (b := b__law_known) F sc__law_known (fun cdv A outer s H E hq hr => (sim_seq (sim_set (i := 2) sc__law_known.nd rfl (.inl rfl) (sim_lst sim_anil))
    (sim_seq (sim_for PassesOwn.never rfl (sim_irng2 (by rfl) T.b_range (sim_acons sim_int (sim_acons (sim_op DP.or_add o2_add (sim_var (pv 1)) sim_int) sim_anil))) (sim_gname (i := 3) sc__law_known.nd rfl (.inl rfl)) (sim_one (sim_if (sim_tcmp (op_eqD hr.units) o2_eq (sim_call C__law_take hq (hr.mono (by decide)) (by rfl) (sim_acons (sim_var (pv 0)) (sim_acons sim_int sim_anil))) sim_int (nomark _)) (sim_one (sim_expr (sim_bm PySem.F.plainAttrs_list PySem.F.slot_list_append PySem.F.type_list_append mt_append om_append (sim_var (pv 2)) (sim_acons (sim_ix (DP.ir_all (hu_of hr)) o2_ix (sim_lst (sim_acons (sim_var (pv 3)) (sim_acons (sim_op op_sub o2_sub sim_int (sim_var (pv 3))) sim_anil))) (sim_call C__law_take hq (hr.mono (by decide)) (by rfl) (sim_acons (sim_var (pv 0)) (sim_acons sim_int sim_anil))) (fun _ _ => rfl)) sim_anil)))) sim_nil)))
    (sim_one (sim_ret (sim_var (pv 2)))))))
/-! room -/
abbrev st_room : Stmt := top 1
abbrev N_room : List Str := ["one", "known", "terms", "least", "factor", "mark"]
theorem sc_room : FnScope N_room ["one", "known"] (defScope st_room) := ⟨rfl, rfl, rfl, by decide +kernel, rfl, by decide +kernel, by decide +kernel⟩
noncomputable def b_room : SM := (sSeq (sAsg1 (eVar 0) (gTupM 2 (gsCons (gNm 2) (gsCons (gNm 3) gsNil))))
    (sRet (eOp2 gSub (eOpN gSum (aCons (eComp (iSeqM (eVar 2)) (gTupM 2 (gsCons (gNm 4) (gsCons (gNm 5) gsNil))) [4, 5] (tBool (eOp2 (gIn true) (eOp1 gNeg (eVar 5)) (eVar 1))) (eVar 4)) aNil)) (eVar 3))))
noncomputable def m_room : FM := fun ds h => (runH N_room.length b_room ds h).calm
theorem me_room (ds : List AV) (h : AH) : m_room ds h = (runH 6 b_room ds h).calm := Eq.trans rfl rfl
theorem ok_room {f : Addr} {fd : FuncData} {dvs : List V} (F : DP.FnP K "room" st_room dvs f fd) (T : Txt K mg)  : DP.GFn P w K mg base CX0 1 f fd ["one", "known"] (spH K mg 2 m_room) := fn_simH (b := b_room) F sc_room (fun cdv A outer s H E hq hr => (sim_seq (sim_asg1 (sim_var (pv 0)) (sim_gtup rfl (sim_gscons (sim_gname (i := 2) sc_room.nd rfl (.inl rfl)) (sim_gscons (sim_gname (i := 3) sc_room.nd rfl (.inl rfl)) sim_gsnil))))
    (sim_one (sim_ret (sim_op op_sub o2_sub (sim_callB (cr_sum rfl) on_sum (by rfl) T.b_sum bt_sum (sim_acons (sim_lc [("factor", 4), ("mark", 5)] rfl sc_room.nd (sim_iseq (sim_var (pv 2))) (blkOk_by (N := N_room) (sc := defScope st_room) (by decide +kernel)) (fun _ _ _ _ _ => (sim_gtup rfl (sim_gscons (sim_gname (i := 4) sc_room.nd rfl (.inl rfl)) (sim_gscons (sim_gname (i := 5) sc_room.nd rfl (.inl rfl)) sim_gsnil)))) (fun _ _ _ _ _ => (sim_tsone (sim_tcmp (DP.or_notIn (DP.u65 hr)) o2_notIn (sim_un un_neg o1_neg (sim_var (pv 5))) (sim_var (pv 1)) rfl))) (fun _ _ _ _ _ => (sim_var (pv 4))) (by decide)) sim_anil)) (sim_var (pv 3)))))))
/-! pushed_by -/
abbrev st_pushed_by : Stmt := top 2
abbrev N_pushed_by : List Str := ["one", "known", "spare", "found", "factor", "mark"]
theorem sc_pushed_by : FnScope N_pushed_by ["one", "known"] (defScope st_pushed_by) := ⟨rfl, rfl, rfl, by decide +kernel, rfl, by decide +kernel, by decide +kernel⟩
noncomputable def b_pushed_by : SM := (sSeq (sSet 2 (eCall 2 m_room (aCons (eVar 0) (aCons (eVar 1) aNil))))
    (sSeq (sIf (tBool (eOp2 gLt (eVar 2) (eC (.int 0)))) (sRet (eTup (aCons (eLst aNil) (aCons (eC (.bl true)) aNil)))) sNil)
    (sSeq (sSet 3 (eComp (iSeqM (eOp2 gIx (eVar 0) (eC (.int 0)))) (gTupM 2 (gsCons (gNm 4) (gsCons (gNm 5) gsNil))) [4, 5] (tAndM (tBool (eOp2 gGt (eVar 4) (eVar 2))) (tAndM (tBool (eOp2 (gIn true) (eVar 5) (eVar 1))) (tBool (eOp2 (gIn true) (eOp1 gNeg (eVar 5)) (eVar 1))))) (eVar 5)))
    (sRet (eTup (aCons (eVar 3) (aCons (eC (.bl false)) aNil)))))))
noncomputable def m_pushed_by : FM := fun ds h => (runH N_pushed_by.length b_pushed_by ds h).calm
theorem me_pushed_by (ds : List AV) (h : AH) : m_pushed_by ds h = (runH 6 b_pushed_by ds h).calm := Eq.trans rfl rfl
theorem ok_pushed_by {f : Addr} {fd : FuncData} {dvs : List V} (F : DP.FnP K "pushed_by" st_pushed_by dvs f fd) (T : Txt K mg) (C_room : CalH P w K mg base 1 "room" ["one", "known"] m_room) : DP.GFn P w K mg base CX0 2 f fd ["one", "known"] (spH K mg 2 m_pushed_by) := fn_simH (b := b_pushed_by) F sc_pushed_by (fun cdv A outer s H E hq hr => (sim_seq (sim_set (i := 2) sc_pushed_by.nd rfl (.inr rfl) (sim_call C_room hq (hr.mono (by decide)) (by rfl) (sim_acons (sim_var (pv 0)) (sim_acons (sim_var (pv 1)) sim_anil))))
    (sim_seq (sim_if (sim_tcmp op_lt o2_lt (sim_var (pv 2)) sim_int (nomark _)) (sim_one (sim_ret (sim_tup (sim_acons (sim_lst sim_anil) (sim_acons sim_bl sim_anil))))) sim_nil)
    (sim_seq (sim_setlc [("factor", 4), ("mark", 5)] (i := 3) rfl sc_pushed_by.nd rfl rfl (sw_true rfl rfl rfl (by decide +kernel)) (sim_iseq (sim_ix (DP.ir_all (hu_of hr)) o2_ix (sim_var (pv 0)) sim_int (fun _ _ => rfl))) (blkOk_by (N := N_pushed_by) (sc := defScope st_pushed_by) (by decide +kernel)) (fun _ _ _ _ _ => (sim_gtup rfl (sim_gscons (sim_gname (i := 4) sc_pushed_by.nd rfl (.inl rfl)) (sim_gscons (sim_gname (i := 5) sc_pushed_by.nd rfl (.inl rfl)) sim_gsnil)))) (fun _ _ _ _ _ => (sim_tsone (SimW.t (sim_wand (sim_tcmp op_gt o2_gt (sim_var (pv 4)) (sim_var (pv 2)) (nomark _)) (sim_wand (sim_tcmp (DP.or_notIn (DP.u65 hr)) o2_notIn (sim_var (pv 5)) (sim_var (pv 1)) rfl) (sim_wand1 (sim_tcmp (DP.or_notIn (DP.u65 hr)) o2_notIn (sim_un un_neg o1_neg (sim_var (pv 5))) (sim_var (pv 1)) rfl))))))) (fun _ _ _ _ _ => (sim_var (pv 5))) (by decide))
    (sim_one (sim_ret (sim_tup (sim_acons (sim_var (pv 3)) (sim_acons sim_bl sim_anil)))))))))
/-! pushed -/
abbrev st_pushed : Stmt := top 3
abbrev N_pushed : List Str := ["some", "marks", "known", "mark", "again", "one", "found", "is_burst"]
theorem sc_pushed : FnScope N_pushed ["some", "marks"] (defScope st_pushed) := ⟨rfl, rfl, rfl, by decide +kernel, rfl, by decide +kernel, by decide +kernel⟩
noncomputable def b_pushed : SM := (sSeq (sSet 2 (eDComp (iSeqM (eVar 1)) (gNm 3) [3] (retM true) (eVar 3) (eC (.bl true))))
    (sSeq (sSet 4 (eC (.bl true)))
    (sSeq (whL (tBool (eVar 4)) (sSeq (sSet 4 (eC (.bl false)))
    (sFor (iSeqM (eVar 0)) (gNm 5) (sSeq (sAsg1 (eCall 2 m_pushed_by (aCons (eVar 5) (aCons (eVar 2) aNil))) (gTupM 2 (gsCons (gNm 6) (gsCons (gNm 7) gsNil))))
    (sSeq (sIf (tBool (eVar 7)) (sRet (eTup (aCons (eC (.str "bursts")) (aCons (eOpN gSort (aCons (eVar 2) aNil)) aNil)))) sNil)
    (sFor (iSeqM (eVar 6)) (gNm 3) (sAsg2 (eC (.bl true)) (gSub1 (eVar 2) (eVar 3)) (gNm 4))))))) fu_pushed_1)
    (sRet (eTup (aCons (eC (.str "rests")) (aCons (eOpN gSort (aCons (eVar 2) aNil)) aNil)))))))
noncomputable def m_pushed : FM := fun ds h => (runH N_pushed.length b_pushed ds h).calm
theorem me_pushed (ds : List AV) (h : AH) : m_pushed ds h = (runH 8 b_pushed ds h).calm := Eq.trans rfl rfl
theorem ok_pushed {f : Addr} {fd : FuncData} {dvs : List V} (F : DP.FnP K "pushed" st_pushed dvs f fd) (T : Txt K mg) (C_pushed_by : CalH P w K mg base 2 "pushed_by" ["one", "known"] m_pushed_by) : DP.GFn P w K mg base CX0 3 f fd ["some", "marks"] (spH K mg 2 m_pushed) := fn_simH (b := b_pushed) F sc_pushed (fun cdv A outer s H E hq hr => (sim_seq (sim_setdc [("mark", 3)] (i := 2) rfl sc_pushed.nd rfl rfl (DP.sw_trueD rfl rfl rfl (by decide +kernel)) (sim_iseq (sim_var (pv 1))) (blkOk_by (N := N_pushed) (sc := defScope st_pushed) (by decide +kernel)) (fun _ _ _ _ _ => (sim_gname (i := 3) sc_pushed.nd rfl (.inl rfl))) (fun _ _ _ _ _ => sim_tsnil) (fun _ _ _ _ _ => (sim_var (pv 3))) (fun _ _ _ _ _ => sim_bl) (by decide))
    (sim_seq (sim_set (i := 4) sc_pushed.nd rfl (.inl rfl) sim_bl)
    (sim_seq (sim_while fu_pushed_1 PassesOwn.never (sim_tval (sim_var (pv 4))) (sim_seq (sim_set (i := 4) sc_pushed.nd rfl (.inl rfl) sim_bl)
    (sim_one (sim_for PassesOwn.never rfl (sim_iseq (sim_var (pv 0))) (sim_gname (i := 5) sc_pushed.nd rfl (.inl rfl)) (sim_seq (sim_asg1 (sim_call C_pushed_by hq (hr.mono (by decide)) (by rfl) (sim_acons (sim_var (pv 5)) (sim_acons (sim_var (pv 2)) sim_anil))) (sim_gtup rfl (sim_gscons (sim_gname (i := 6) sc_pushed.nd rfl (.inl rfl)) (sim_gscons (sim_gname (i := 7) sc_pushed.nd rfl (.inl rfl)) sim_gsnil))))
    (sim_seq (sim_if (sim_tval (sim_var (pv 7))) (sim_one (sim_ret (sim_tup (sim_acons sim_str (sim_acons (sim_callB ((DP.cr_sortedD hr.units).or (call_sortedDI rfl)) on_sorted (by rfl) T.b_sorted bt_sorted (sim_acons (sim_var (pv 2)) sim_anil)) sim_anil))))) sim_nil)
    (sim_one (sim_for PassesOwn.never rfl (sim_iseq (sim_var (pv 6))) (sim_gname (i := 3) sc_pushed.nd rfl (.inl rfl)) (sim_one (sim_asg2 sim_bl (sim_gsub (hu_of hr) (sim_var (pv 2)) (sim_var (pv 3))) (sim_gname (i := 4) sc_pushed.nd rfl (.inl rfl))))))))))))
    (sim_one (sim_ret (sim_tup (sim_acons sim_str (sim_acons (sim_callB ((DP.cr_sortedD hr.units).or (call_sortedDI rfl)) on_sorted (by rfl) T.b_sorted bt_sorted (sim_acons (sim_var (pv 2)) sim_anil)) sim_anil)))))))))
/-! _law_sum -/
abbrev st__law_sum : Stmt := top 13
abbrev N__law_sum : List Str := ["_law_pool_here", "_law_many", "_law_terms", "_law_box", "_law_factor", "_law_total", "_law_mark", "_law_least"]
theorem sc__law_sum : FnScope N__law_sum ["_law_pool_here", "_law_many"] (defScope st__law_sum) := ⟨rfl, rfl, rfl, by decide +kernel, rfl, by decide +kernel, by decide +kernel⟩
noncomputable def b__law_sum : SM := (sSeq (sSet 2 (eLst aNil))
    (sSeq (sFor (iRng2M (aCons (eC (.int 1)) (aCons (eOp2 gAdd (eVar 1) (eC (.int 1))) aNil))) (gNm 3) (sIf (tBool (eOp2 gGt (eCall 2 m__law_take (aCons (eVar 0) (aCons (eC (.int 3)) aNil))) (eC (.int 0)))) (sSeq (sSet 4 (eOp2 gIx (eLst (aCons (eC (.int 1)) (aCons (eC (.int 1)) (aCons (eC (.int 1)) (aCons (eC (.int 2)) (aCons (eC (.int 3)) (aCons (eC (.int 7)) (aCons (eOp2 gPow (eC (.int 10)) (eC (.int 20))) aNil)))))))) (eCall 2 m__law_take (aCons (eVar 0) (aCons (eC (.int 7)) aNil)))))
    (sExpr (eMeth "list" mAppend (eVar 2) (aCons (eTup (aCons (eVar 4) (aCons (eOp2 gIx (eLst (aCons (eVar 3) (aCons (eOp2 gSub (eC (.int 0)) (eVar 3)) aNil))) (eCall 2 m__law_take (aCons (eVar 0) (aCons (eC (.int 2)) aNil)))) aNil))) aNil)))) sNil))
    (sSeq (sSet 5 (eOpN gSum (aCons (eComp (iSeqM (eVar 2)) (gTupM 2 (gsCons (gNm 4) (gsCons (gNm 6) gsNil))) [4, 6] (retM true) (eVar 4)) aNil)))
    (sSeq (sSet 7 (eOp2 gIx (eLst (aCons (eC (.int 1)) (aCons (eC (.int 1)) (aCons (eC (.int 2)) (aCons (eVar 5) (aCons (eOp2 gAdd (eVar 5) (eC (.int 1))) (aCons (eC (.int 0)) (aCons (eOp1 gNeg (eC (.int 3))) (aCons (eOp2 gAdd (eC (.int 1)) (eOp2 gFdiv (eVar 5) (eC (.int 2)))) aNil))))))))) (eCall 2 m__law_take (aCons (eVar 0) (aCons (eC (.int 8)) aNil)))))
    (sRet (eTup (aCons (eOpN gTuple (aCons (eVar 2) aNil)) (aCons (eVar 7) aNil))))))))
noncomputable def m__law_sum : FM := fun ds h => (runH N__law_sum.length b__law_sum ds h).calm
theorem me__law_sum (ds : List AV) (h : AH) : m__law_sum ds h = (runH 8 b__law_sum ds h).calm := Eq.trans rfl rfl
theorem ok__law_sum {f : Addr} {fd : FuncData} {dvs : List V} (F : DP.FnP K "_law_sum" st__law_sum dvs f fd) (T : Txt K mg) (C__law_take : CalH P w K mg base 1 "_law_take" ["_law_pool_here", "_law_many"] m__law_take) : DP.GFn P w K mg base CX0 2 f fd ["_law_pool_here", "_law_many"] (spH K mg 2 m__law_sum) := fn_simH (b := b__law_sum) F sc__law_sum (fun cdv A outer s H E hq hr => (sim_seq (sim_set (i := 2) sc__law_sum.nd rfl (.inl rfl) (sim_lst sim_anil))
    (sim_seq (sim_for PassesOwn.never rfl (sim_irng2 (by rfl) T.b_range (sim_acons sim_int (sim_acons (sim_op DP.or_add o2_add (sim_var (pv 1)) sim_int) sim_anil))) (sim_gname (i := 3) sc__law_sum.nd rfl (.inl rfl)) (sim_one (sim_if (sim_tcmp op_gt o2_gt (sim_call C__law_take hq (hr.mono (by decide)) (by rfl) (sim_acons (sim_var (pv 0)) (sim_acons sim_int sim_anil))) sim_int (nomark _)) (sim_seq (sim_set (i := 4) sc__law_sum.nd rfl (.inl rfl) (sim_ix (DP.ir_all (hu_of hr)) o2_ix (sim_lst (sim_acons sim_int (sim_acons sim_int (sim_acons sim_int (sim_acons sim_int (sim_acons sim_int (sim_acons sim_int (sim_acons (sim_op op_pow o2_pow sim_int sim_int) sim_anil)))))))) (sim_call C__law_take hq (hr.mono (by decide)) (by rfl) (sim_acons (sim_var (pv 0)) (sim_acons sim_int sim_anil))) (fun _ _ => rfl)))
    (sim_one (sim_expr (sim_bm PySem.F.plainAttrs_list PySem.F.slot_list_append PySem.F.type_list_append mt_append om_append (sim_var (pv 2)) (sim_acons (sim_tup (sim_acons (sim_var (pv 4)) (sim_acons (sim_ix (DP.ir_all (hu_of hr)) o2_ix (sim_lst (sim_acons (sim_var (pv 3)) (sim_acons (sim_op op_sub o2_sub sim_int (sim_var (pv 3))) sim_anil))) (sim_call C__law_take hq (hr.mono (by decide)) (by rfl) (sim_acons (sim_var (pv 0)) (sim_acons sim_int sim_anil))) (fun _ _ => rfl)) sim_anil))) sim_anil))))) sim_nil)))
    (sim_seq (sim_set (i := 5) sc__law_sum.nd rfl (.inl rfl) (sim_callB (cr_sum rfl) on_sum (by rfl) T.b_sum bt_sum (sim_acons (sim_lc [("_law_factor", 4), ("_law_mark", 6)] rfl sc__law_sum.nd (sim_iseq (sim_var (pv 2))) (blkOk_by (N := N__law_sum) (sc := defScope st__law_sum) (by decide +kernel)) (fun _ _ _ _ _ => (sim_gtup rfl (sim_gscons (sim_gname (i := 4) sc__law_sum.nd rfl (.inl rfl)) (sim_gscons (sim_gname (i := 6) sc__law_sum.nd rfl (.inl rfl)) sim_gsnil)))) (fun _ _ _ _ _ => sim_tsnil) (fun _ _ _ _ _ => (sim_var (pv 4))) (by decide)) sim_anil)))
    (sim_seq (sim_set (i := 7) sc__law_sum.nd rfl (.inl rfl) (sim_ix (DP.ir_all (hu_of hr)) o2_ix (sim_lst (sim_acons sim_int (sim_acons sim_int (sim_acons sim_int (sim_acons (sim_var (pv 5)) (sim_acons (sim_op DP.or_add o2_add (sim_var (pv 5)) sim_int) (sim_acons sim_int (sim_acons (sim_un un_neg o1_neg sim_int) (sim_acons (sim_op DP.or_add o2_add sim_int (sim_op op_fdivW o2_fdiv (sim_var (pv 5)) sim_int)) sim_anil))))))))) (sim_call C__law_take hq (hr.mono (by decide)) (by rfl) (sim_acons (sim_var (pv 0)) (sim_acons sim_int sim_anil))) (fun _ _ => rfl)))
    (sim_one (sim_ret (sim_tup (sim_acons (sim_callTy call_tuple_of on_tuple (by rfl) T.b_tuple bt_tuple (sim_acons (sim_var (pv 2)) sim_anil)) (sim_acons (sim_var (pv 7)) sim_anil))))))))))
/-! _law_spare -/
abbrev st__law_spare : Stmt := top 14
abbrev N__law_spare : List Str := ["_law_one", "_law_known_here", "_law_factor", "_law_mark"]
theorem sc__law_spare : FnScope N__law_spare ["_law_one", "_law_known_here"] (defScope st__law_spare) := ⟨rfl, rfl, rfl, by decide +kernel, rfl, by decide +kernel, by decide +kernel⟩
noncomputable def b__law_spare : SM := (sRet (eOp2 gSub (eOpN gSum (aCons (eComp (iSeqM (eOp2 gIx (eVar 0) (eC (.int 0)))) (gTupM 2 (gsCons (gNm 2) (gsCons (gNm 3) gsNil))) [2, 3] (tBool (eOp2 (gIn true) (eOp2 gSub (eC (.int 0)) (eVar 3)) (eVar 1))) (eVar 2)) aNil)) (eOp2 gIx (eVar 0) (eC (.int 1)))))
noncomputable def m__law_spare : FM := fun ds h => (runH N__law_spare.length b__law_spare ds h).calm
theorem me__law_spare (ds : List AV) (h : AH) : m__law_spare ds h = (runH 4 b__law_spare ds h).calm := Eq.trans rfl rfl
theorem ok__law_spare {f : Addr} {fd : FuncData} {dvs : List V} (F : DP.FnP K "_law_spare" st__law_spare dvs f fd) (T : Txt K mg)  : DP.GFn P w K mg base CX0 1 f fd ["_law_one", "_law_known_here"] (spH K mg 2 m__law_spare) := fn_simH (b := b__law_spare) F sc__law_spare (fun cdv A outer s H E hq hr => (sim_one (sim_ret (sim_op op_sub o2_sub (sim_callB (cr_sum rfl) on_sum (by rfl) T.b_sum bt_sum (sim_acons (sim_lc [("_law_factor", 2), ("_law_mark", 3)] rfl sc__law_spare.nd (sim_iseq (sim_ix (DP.ir_all (hu_of hr)) o2_ix (sim_var (pv 0)) sim_int (fun _ _ => rfl))) (blkOk_by (N := N__law_spare) (sc := defScope st__law_spare) (by decide +kernel)) (fun _ _ _ _ _ => (sim_gtup rfl (sim_gscons (sim_gname (i := 2) sc__law_spare.nd rfl (.inl rfl)) (sim_gscons (sim_gname (i := 3) sc__law_spare.nd rfl (.inl rfl)) sim_gsnil)))) (fun _ _ _ _ _ => (sim_tsone (sim_tcmp (DP.or_notIn (DP.u65 hr)) o2_notIn (sim_op op_sub o2_sub sim_int (sim_var (pv 3))) (sim_var (pv 1)) rfl))) (fun _ _ _ _ _ => (sim_var (pv 2))) (by decide)) sim_anil)) (sim_ix (DP.ir_all (hu_of hr)) o2_ix (sim_var (pv 0)) sim_int (fun _ _ => rfl))))))
/-! _law_pushed -/
abbrev st__law_pushed : Stmt := top 15
abbrev N__law_pushed : List Str := ["_law_several", "_law_known_here", "_law_again", "_law_one", "_law_spare_here", "_law_factor", "_law_mark"]
theorem sc__law_pushed : FnScope N__law_pushed ["_law_several", "_law_known_here"] (defScope st__law_pushed) := ⟨rfl, rfl, rfl, by decide +kernel, rfl, by decide +kernel, by decide +kernel⟩
noncomputable def b__law_pushed : SM := (sSeq (sSet 1 (eOpN gList (aCons (eVar 1) aNil)))
    (sSeq (sSet 2 (eC (.bl true)))
    (sSeq (whL (tBool (eVar 2)) (sSeq (sSet 2 (eC (.bl false)))
    (sFor (iSeqM (eVar 0)) (gNm 3) (sSeq (sSet 4 (eCall 2 m__law_spare (aCons (eVar 3) (aCons (eVar 1) aNil))))
    (sSeq (sIf (tBool (eOp2 gLt (eVar 4) (eC (.int 0)))) (sRet (eLst (aCons (eC (.str "bursts")) (aCons (eOpN gSort (aCons (eVar 1) aNil)) aNil)))) sNil)
    (sFor (iSeqM (eOp2 gIx (eVar 3) (eC (.int 0)))) (gTupM 2 (gsCons (gNm 5) (gsCons (gNm 6) gsNil))) (sIf (tAndM (tBool (eOp2 gGt (eVar 5) (eVar 4))) (tAndM (tBool (eOp2 (gIn true) (eVar 6) (eVar 1))) (tBool (eOp2 (gIn true) (eOp2 gSub (eC (.int 0)) (eVar 6)) (eVar 1))))) (sSeq (sExpr (eMeth "list" mAppend (eVar 1) (aCons (eVar 6) aNil)))
    (sSet 2 (eC (.bl true)))) sNil)))))) fu__law_pushed_1)
    (sRet (eLst (aCons (eC (.str "rests")) (aCons (eOpN gSort (aCons (eVar 1) aNil)) aNil)))))))
noncomputable def m__law_pushed : FM := fun ds h => (runH N__law_pushed.length b__law_pushed ds h).calm
theorem me__law_pushed (ds : List AV) (h : AH) : m__law_pushed ds h = (runH 7 b__law_pushed ds h).calm := Eq.trans rfl rfl
theorem ok__law_pushed {f : Addr} {fd : FuncData} {dvs : List V} (F : DP.FnP K "_law_pushed" st__law_pushed dvs f fd) (T : Txt K mg) (C__law_spare : CalH P w K mg base 1 "_law_spare" ["_law_one", "_law_known_here"] m__law_spare) : DP.GFn P w K mg base CX0 2 f fd ["_law_several", "_law_known_here"] (spH K mg 2 m__law_pushed) := fn_simH (b := b__law_pushed) F sc__law_pushed (fun cdv A outer s H E hq hr => (sim_seq (sim_set (i := 1) sc__law_pushed.nd rfl (.inl rfl) (sim_callTy call_list_of on_list (by rfl) T.b_list bt_list (sim_acons (sim_var (pv 1)) sim_anil)))
    (sim_seq (sim_set (i := 2) sc__law_pushed.nd rfl (.inl rfl) sim_bl)
    (sim_seq (sim_while fu__law_pushed_1 PassesOwn.never (sim_tval (sim_var (pv 2))) (sim_seq (sim_set (i := 2) sc__law_pushed.nd rfl (.inl rfl) sim_bl)
    (sim_one (sim_for PassesOwn.never rfl (sim_iseq (sim_var (pv 0))) (sim_gname (i := 3) sc__law_pushed.nd rfl (.inl rfl)) (sim_seq (sim_set (i := 4) sc__law_pushed.nd rfl (.inl rfl) (sim_call C__law_spare hq (hr.mono (by decide)) (by rfl) (sim_acons (sim_var (pv 3)) (sim_acons (sim_var (pv 1)) sim_anil))))
    (sim_seq (sim_if (sim_tcmp op_lt o2_lt (sim_var (pv 4)) sim_int (nomark _)) (sim_one (sim_ret (sim_lst (sim_acons sim_str (sim_acons (sim_callB ((DP.cr_sortedD hr.units).or (call_sortedDI rfl)) on_sorted (by rfl) T.b_sorted bt_sorted (sim_acons (sim_var (pv 1)) sim_anil)) sim_anil))))) sim_nil)
    (sim_one (sim_for PassesOwn.never rfl (sim_iseq (sim_ix (DP.ir_all (hu_of hr)) o2_ix (sim_var (pv 3)) sim_int (fun _ _ => rfl))) (sim_gtup rfl (sim_gscons (sim_gname (i := 5) sc__law_pushed.nd rfl (.inl rfl)) (sim_gscons (sim_gname (i := 6) sc__law_pushed.nd rfl (.inl rfl)) sim_gsnil))) (sim_one (sim_if (SimW.t (sim_wand (sim_tcmp op_gt o2_gt (sim_var (pv 5)) (sim_var (pv 4)) (nomark _)) (sim_wand (sim_tcmp (DP.or_notIn (DP.u65 hr)) o2_notIn (sim_var (pv 6)) (sim_var (pv 1)) rfl) (sim_wand1 (sim_tcmp (DP.or_notIn (DP.u65 hr)) o2_notIn (sim_op op_sub o2_sub sim_int (sim_var (pv 6))) (sim_var (pv 1)) rfl))))) (sim_seq (sim_expr (sim_bm PySem.F.plainAttrs_list PySem.F.slot_list_append PySem.F.type_list_append mt_append om_append (sim_var (pv 1)) (sim_acons (sim_var (pv 6)) sim_anil)))
    (sim_one (sim_set (i := 2) sc__law_pushed.nd rfl (.inl rfl) sim_bl))) sim_nil))))))))))
    (sim_one (sim_ret (sim_lst (sim_acons sim_str (sim_acons (sim_callB ((DP.cr_sortedD hr.units).or (call_sortedDI rfl)) on_sorted (by rfl) T.b_sorted bt_sorted (sim_acons (sim_var (pv 1)) sim_anil)) sim_anil)))))))))
/-! _law_may_come -/
abbrev st__law_may_come : Stmt := top 17
abbrev N__law_may_come : List Str := ["_law_several", "_law_marks_here", "_law_told", "_law_left", "_law_mark", "_law_set_now", "_law_again", "_law_one", "_law_spare_here", "_law_factor"]
theorem sc__law_may_come : FnScope N__law_may_come ["_law_several", "_law_marks_here", "_law_told"] (defScope st__law_may_come) := ⟨rfl, rfl, rfl, by decide +kernel, rfl, by decide +kernel, by decide +kernel⟩
noncomputable def b__law_may_come : SM := (sSeq (sSet 3 (eComp (iSeqM (eVar 2)) (gNm 4) [4] (tBool (eOp2 (gIn true) (eVar 4) (eVar 1))) (eVar 4)))
    (sSeq (sSet 5 (eOpN gList (aCons (eVar 1) aNil)))
    (sSeq (sSet 6 (eC (.bl true)))
    (sSeq (whL (tBool (eVar 6)) (sSeq (sSet 6 (eC (.bl false)))
    (sFor (iSeqM (eVar 0)) (gNm 7) (sSeq (sSet 8 (eCall 2 m__law_spare (aCons (eVar 7) (aCons (eVar 5) aNil))))
    (sFor (iSeqM (eOp2 gIx (eVar 7) (eC (.int 0)))) (gTupM 2 (gsCons (gNm 9) (gsCons (gNm 4) gsNil))) (sIf (tAndM (tBool (eOp2 gGt (eVar 9) (eVar 8))) (tBool (eOp2 (gIn false) (eVar 4) (eVar 3)))) (sSeq (sExpr (eMeth "list" mRemove (eVar 3) (aCons (eVar 4) aNil)))
    (sSeq (sExpr (eMeth "list" mAppend (eVar 5) (aCons (eVar 4) aNil)))
    (sSet 6 (eC (.bl true))))) sNil))))) fu__law_may_come_1)
    (sRet (eAndV (eOp2 (gEq false) (eVar 3) (eLst aNil)) (eOp2 (gEq false) (eComp (iSeqM (eVar 1)) (gNm 4) [4] (tBool (eOp2 (gIn true) (eVar 4) (eVar 2))) (eVar 4)) (eLst aNil))))))))
noncomputable def m__law_may_come : FM := fun ds h => (runH N__law_may_come.length b__law_may_come ds h).calm
theorem me__law_may_come (ds : List AV) (h : AH) : m__law_may_come ds h = (runH 10 b__law_may_come ds h).calm := Eq.trans rfl rfl
theorem ok__law_may_come {f : Addr} {fd : FuncData} {dvs : List V} (F : DP.FnP K "_law_may_come" st__law_may_come dvs f fd) (T : Txt K mg) (C__law_spare : CalH P w K mg base 1 "_law_spare" ["_law_one", "_law_known_here"] m__law_spare) : DP.GFn P w K mg base CX0 2 f fd ["_law_several", "_law_marks_here", "_law_told"] (spH K mg 3 m__law_may_come) := fn_simH (b := b__law_may_come) F sc__law_may_come (fun cdv A outer s H E hq hr => (sim_seq (sim_setlc [("_law_mark", 4)] (i := 3) rfl sc__law_may_come.nd rfl rfl (sw_true rfl rfl rfl (by decide +kernel)) (sim_iseq (sim_var (pv 2))) (blkOk_by (N := N__law_may_come) (sc := defScope st__law_may_come) (by decide +kernel)) (fun _ _ _ _ _ => (sim_gname (i := 4) sc__law_may_come.nd rfl (.inl rfl))) (fun _ _ _ _ _ => (sim_tsone (sim_tcmp (DP.or_notIn (DP.u65 hr)) o2_notIn (sim_var (pv 4)) (sim_var (pv 1)) rfl))) (fun _ _ _ _ _ => (sim_var (pv 4))) (by decide))
    (sim_seq (sim_set (i := 5) sc__law_may_come.nd rfl (.inl rfl) (sim_callTy call_list_of on_list (by rfl) T.b_list bt_list (sim_acons (sim_var (pv 1)) sim_anil)))
    (sim_seq (sim_set (i := 6) sc__law_may_come.nd rfl (.inl rfl) sim_bl)
    (sim_seq (sim_while fu__law_may_come_1 PassesOwn.never (sim_tval (sim_var (pv 6))) (sim_seq (sim_set (i := 6) sc__law_may_come.nd rfl (.inl rfl) sim_bl)
    (sim_one (sim_for PassesOwn.never rfl (sim_iseq (sim_var (pv 0))) (sim_gname (i := 7) sc__law_may_come.nd rfl (.inl rfl)) (sim_seq (sim_set (i := 8) sc__law_may_come.nd rfl (.inl rfl) (sim_call C__law_spare hq (hr.mono (by decide)) (by rfl) (sim_acons (sim_var (pv 7)) (sim_acons (sim_var (pv 5)) sim_anil))))
    (sim_one (sim_for PassesOwn.never rfl (sim_iseq (sim_ix (DP.ir_all (hu_of hr)) o2_ix (sim_var (pv 7)) sim_int (fun _ _ => rfl))) (sim_gtup rfl (sim_gscons (sim_gname (i := 9) sc__law_may_come.nd rfl (.inl rfl)) (sim_gscons (sim_gname (i := 4) sc__law_may_come.nd rfl (.inl rfl)) sim_gsnil))) (sim_one (sim_if (SimW.t (sim_wand (sim_tcmp op_gt o2_gt (sim_var (pv 9)) (sim_var (pv 8)) (nomark _)) (sim_wand1 (sim_tcmp (DP.or_in (DP.u65 hr)) o2_in (sim_var (pv 4)) (sim_var (pv 3)) rfl)))) (sim_seq (sim_expr (sim_bm PySem.F.plainAttrs_list PySem.F.slot_list_remove PySem.F.type_list_remove mt_remove om_remove (sim_var (pv 3)) (sim_acons (sim_var (pv 4)) sim_anil)))
    (sim_seq (sim_expr (sim_bm PySem.F.plainAttrs_list PySem.F.slot_list_append PySem.F.type_list_append mt_append om_append (sim_var (pv 5)) (sim_acons (sim_var (pv 4)) sim_anil)))
    (sim_one (sim_set (i := 6) sc__law_may_come.nd rfl (.inl rfl) sim_bl)))) sim_nil)))))))))
    (sim_one (sim_ret (sim_vand (sim_cmp (op_eqD hr.units) o2_eq (sim_var (pv 3)) (sim_lst sim_anil) (nomark _)) (sim_vone (sim_cmp (op_eqD hr.units) o2_eq (sim_lc [("_law_mark", 4)] rfl sc__law_may_come.nd (sim_iseq (sim_var (pv 1))) (blkOk_by (N := N__law_may_come) (sc := defScope st__law_may_come) (by decide +kernel)) (fun _ _ _ _ _ => (sim_gname (i := 4) sc__law_may_come.nd rfl (.inl rfl))) (fun _ _ _ _ _ => (sim_tsone (sim_tcmp (DP.or_notIn (DP.u65 hr)) o2_notIn (sim_var (pv 4)) (sim_var (pv 2)) rfl))) (fun _ _ _ _ _ => (sim_var (pv 4))) (by decide)) (sim_lst sim_anil) (nomark _)))))))))))
/-! _law_right -/
abbrev st__law_right : Stmt := top 18
abbrev N__law_right : List Str := ["_law_several", "_law_marks_here", "_law_kept", "_law_found", "_law_word", "_law_due", "_law_one"]
theorem sc__law_right : FnScope N__law_right ["_law_several", "_law_marks_here"] (defScope st__law_right) := ⟨rfl, rfl, rfl, by decide +kernel, rfl, by decide +kernel, by decide +kernel⟩
noncomputable def b__law_right : SM := (sSeq (sSet 2 (eOpN gRepr (aCons (eLst (aCons (eVar 0) (aCons (eVar 1) aNil))) aNil)))
    (sSeq (sSet 3 (eCall 2 m_pushed (aCons (eVar 0) (aCons (eVar 1) aNil))))
    (sSeq (sAsg1 (eCall 2 m__law_pushed (aCons (eVar 0) (aCons (eVar 1) aNil))) (gTupM 2 (gsCons (gNm 4) (gsCons (gNm 5) gsNil))))
    (sSeq (sIf (tOrM (tNotM (tBool (eOp1 (gIsi "tuple") (eVar 3)))) (tOrM (tBool (eOp2 (gEq true) (eOpN gLen (aCons (eVar 3) aNil)) (eC (.int 2)))) (tBool (eOp2 (gEq true) (eOp2 gIx (eVar 3) (eC (.int 0))) (eVar 4))))) (sRet (eC (.bl false))) sNil)
    (sSeq (sIf (tOrM (tNotM (tBool (eOp1 (gIsi "list") (eOp2 gIx (eVar 3) (eC (.int 1)))))) (tBool (eOp2 (gEq true) (eOp2 gIx (eVar 3) (eC (.int 1))) (eOpN gSort (aCons (eOp2 gIx (eVar 3) (eC (.int 1))) aNil))))) (sRet (eC (.bl false))) sNil)
    (sSeq (sIf (tAndM (tBool (eOp2 (gEq false) (eVar 4) (eC (.str "rests")))) (tBool (eOp2 (gEq true) (eOp2 gIx (eVar 3) (eC (.int 1))) (eVar 5)))) (sRet (eC (.bl false))) sNil)
    (sSeq (sIf (tAndM (tBool (eOp2 (gEq false) (eVar 4) (eC (.str "bursts")))) (tNotM (tBool (eCall 3 m__law_may_come (aCons (eVar 0) (aCons (eVar 1) (aCons (eOp2 gIx (eVar 3) (eC (.int 1))) aNil))))))) (sRet (eC (.bl false))) sNil)
    (sSeq (sIf (tAndM (tBool (eOp2 (gEq false) (eVar 4) (eC (.str "bursts")))) (tBool (eOp2 (gEq false) (eComp (iSeqM (eVar 0)) (gNm 6) [6] (tBool (eOp2 gLt (eCall 2 m__law_spare (aCons (eVar 6) (aCons (eOp2 gIx (eVar 3) (eC (.int 1))) aNil))) (eC (.int 0)))) (eVar 6)) (eLst aNil)))) (sRet (eC (.bl false))) sNil)
    (sRet (eOp2 (gEqS false) (eOpN gRepr (aCons (eLst (aCons (eVar 0) (aCons (eVar 1) aNil))) aNil)) (eVar 2)))))))))))
noncomputable def m__law_right : FM := fun ds h => (runH N__law_right.length b__law_right ds h).calm
theorem me__law_right (ds : List AV) (h : AH) : m__law_right ds h = (runH 7 b__law_right ds h).calm := Eq.trans rfl rfl
theorem ok__law_right {f : Addr} {fd : FuncData} {dvs : List V} (F : DP.FnP K "_law_right" st__law_right dvs f fd) (T : Txt K mg) (C_pushed : CalH P w K mg base 3 "pushed" ["some", "marks"] m_pushed) (C__law_pushed : CalH P w K mg base 2 "_law_pushed" ["_law_several", "_law_known_here"] m__law_pushed) (C__law_may_come : CalH P w K mg base 2 "_law_may_come" ["_law_several", "_law_marks_here", "_law_told"] m__law_may_come) (C__law_spare : CalH P w K mg base 1 "_law_spare" ["_law_one", "_law_known_here"] m__law_spare) : DP.GFn P w K mg base CX0 4 f fd ["_law_several", "_law_marks_here"] (spH K mg 2 m__law_right) := fn_simH (b := b__law_right) F sc__law_right (fun cdv A outer s H E hq hr => (sim_seq (sim_set (i := 2) sc__law_right.nd rfl (.inl rfl) (sim_callB ((DP.cr_repr hq (DP.u65 hr)).or DP.cr_reprS) on_repr (by rfl) T.b_repr bt_repr (sim_acons (sim_lst (sim_acons (sim_var (pv 0)) (sim_acons (sim_var (pv 1)) sim_anil))) sim_anil)))
    (sim_seq (sim_set (i := 3) sc__law_right.nd rfl (.inr rfl) (sim_call C_pushed hq (hr.mono (by decide)) (by rfl) (sim_acons (sim_var (pv 0)) (sim_acons (sim_var (pv 1)) sim_anil))))
    (sim_seq (sim_asg1 (sim_call C__law_pushed hq (hr.mono (by decide)) (by rfl) (sim_acons (sim_var (pv 0)) (sim_acons (sim_var (pv 1)) sim_anil))) (sim_gtup rfl (sim_gscons (sim_gname (i := 4) sc__law_right.nd rfl (.inl rfl)) (sim_gscons (sim_gname (i := 5) sc__law_right.nd rfl (.inl rfl)) sim_gsnil))))
    (sim_seq (sim_if (SimW.t (sim_wor (sim_tnot (sim_tval (sim_isi (by rfl) T.b_isinstance bt_isinstance (by rfl) T.b_tuple bt_tuple (sim_var (pv 3))))) (sim_wor (sim_tcmp (op_neD hr.units) o2_ne (sim_callB call_len on_len (by rfl) T.b_len bt_len (sim_acons (sim_var (pv 3)) sim_anil)) sim_int (nomark _)) (sim_wor1 (sim_tcmp (op_neD hr.units) o2_ne (sim_ix (DP.ir_all (hu_of hr)) o2_ix (sim_var (pv 3)) sim_int (fun _ _ => rfl)) (sim_var (pv 4)) (nomark _)))))) (sim_one (sim_ret sim_bl)) sim_nil)
    (sim_seq (sim_if (SimW.t (sim_wor (sim_tnot (sim_tval (sim_isi (by rfl) T.b_isinstance bt_isinstance (by rfl) T.b_list bt_list (sim_ix (DP.ir_all (hu_of hr)) o2_ix (sim_var (pv 3)) sim_int (fun _ _ => rfl))))) (sim_wor1 (sim_tcmp (op_neD hr.units) o2_ne (sim_ix (DP.ir_all (hu_of hr)) o2_ix (sim_var (pv 3)) sim_int (fun _ _ => rfl)) (sim_callB ((DP.cr_sortedD hr.units).or (call_sortedDI rfl)) on_sorted (by rfl) T.b_sorted bt_sorted (sim_acons (sim_ix (DP.ir_all (hu_of hr)) o2_ix (sim_var (pv 3)) sim_int (fun _ _ => rfl)) sim_anil)) (nomark _))))) (sim_one (sim_ret sim_bl)) sim_nil)
    (sim_seq (sim_if (SimW.t (sim_wand (sim_tcmp (op_eqD hr.units) o2_eq (sim_var (pv 4)) sim_str (nomark _)) (sim_wand1 (sim_tcmp (op_neD hr.units) o2_ne (sim_ix (DP.ir_all (hu_of hr)) o2_ix (sim_var (pv 3)) sim_int (fun _ _ => rfl)) (sim_var (pv 5)) (nomark _))))) (sim_one (sim_ret sim_bl)) sim_nil)
    (sim_seq (sim_if (SimW.t (sim_wand (sim_tcmp (op_eqD hr.units) o2_eq (sim_var (pv 4)) sim_str (nomark _)) (sim_wand1 (sim_tnot (sim_tval (sim_call C__law_may_come hq (hr.mono (by decide)) (by rfl) (sim_acons (sim_var (pv 0)) (sim_acons (sim_var (pv 1)) (sim_acons (sim_ix (DP.ir_all (hu_of hr)) o2_ix (sim_var (pv 3)) sim_int (fun _ _ => rfl)) sim_anil))))))))) (sim_one (sim_ret sim_bl)) sim_nil)
    (sim_seq (sim_if (SimW.t (sim_wand (sim_tcmp (op_eqD hr.units) o2_eq (sim_var (pv 4)) sim_str (nomark _)) (sim_wand1 (sim_tcmp (op_eqD hr.units) o2_eq (sim_lc [("_law_one", 6)] rfl sc__law_right.nd (sim_iseq (sim_var (pv 0))) (blkOk_by (N := N__law_right) (sc := defScope st__law_right) (by decide +kernel)) (fun _ _ _ _ _ => (sim_gname (i := 6) sc__law_right.nd rfl (.inl rfl))) (fun _ _ _ _ _ => (sim_tsone (sim_tcmp op_lt o2_lt (sim_call C__law_spare hq (hr.mono (by decide)) (by rfl) (sim_acons (sim_var (pv 6)) (sim_acons (sim_ix (DP.ir_all (hu_of hr)) o2_ix (sim_var (pv 3)) sim_int (fun _ _ => rfl)) sim_anil))) sim_int (nomark _)))) (fun _ _ _ _ _ => (sim_var (pv 6))) (by decide)) (sim_lst sim_anil) (nomark _))))) (sim_one (sim_ret sim_bl)) sim_nil)
    (sim_one (sim_ret (sim_cmp op_eq o2_eqS (sim_callB ((DP.cr_repr hq (DP.u65 hr)).or DP.cr_reprS) on_repr (by rfl) T.b_repr bt_repr (sim_acons (sim_lst (sim_acons (sim_var (pv 0)) (sim_acons (sim_var (pv 1)) sim_anil))) sim_anil)) (sim_var (pv 2)) (nomark _)))))))))))))
/-! law -/
abbrev st_law : Stmt := top 19
abbrev N_law : List Str := ["_law_script", "_law_k", "_law_pool_here", "_law_size", "_law_several", "_law_marks_here", "_law_signs", "_law_told", "_law_turn"]
theorem sc_law : FnScope N_law ["_law_script"] (defScope st_law) := ⟨rfl, rfl, rfl, by decide +kernel, rfl, by decide +kernel, by decide +kernel⟩
noncomputable def b_law : SM := (sSeq (sFor (iRng1M (aCons (eOpN gMax2 (aCons (eC (.int 1)) (aCons (eOpN gMin2 (aCons (eOpN gLen (aCons (eVar 0) aNil)) (aCons (eC (.int 20)) aNil))) aNil))) aNil)) (gNm 1) (sSeq (sSet 2 (eCall 2 m__law_pool (aCons (eVar 0) (aCons (eVar 1) aNil))))
    (sSeq (sSet 3 (eOp2 gAdd (eC (.int 1)) (eCall 2 m__law_take (aCons (eVar 2) (aCons (eC (.int 6)) aNil)))))
    (sSeq (sSet 4 (eComp (iRng1M (aCons (eCall 2 m__law_take (aCons (eVar 2) (aCons (eC (.int 6)) aNil))) aNil)) (gNm 8) [8] (retM true) (eCall 2 m__law_sum (aCons (eVar 2) (aCons (eVar 3) aNil)))))
    (sSeq (sSet 5 (eCall 2 m__law_known (aCons (eVar 2) (aCons (eVar 3) aNil))))
    (sSeq (sFor (iSeqM (eLst (aCons (eVar 5) (aCons (eLst aNil) aNil)))) (gNm 6) (sIf (tOrM (tNotM (tBool (eCall 2 m__law_right (aCons (eVar 4) (aCons (eOpN gList (aCons (eVar 6) aNil)) aNil))))) (tBool (eOp2 (gEq true) (eOp2 gIx (eCall 2 m_pushed (aCons (eVar 4) (aCons (eVar 6) aNil))) (eC (.int 0))) (eOp2 gIx (eCall 2 m_pushed (aCons (eOp1 gRevL (eVar 4)) (aCons (eVar 6) aNil))) (eC (.int 0)))))) (sRet (eC (.bl false))) sNil))
    (sSeq (sSet 7 (eCall 2 m_pushed (aCons (eVar 4) (aCons (eVar 5) aNil))))
    (sSeq (sExpr (eMeth "list" mAppend (eOp2 gIx (eVar 7) (eC (.int 1))) (aCons (eC (.int 0)) aNil)))
    (sIf (tOrM (tNotM (tBool (eCall 2 m__law_right (aCons (eVar 4) (aCons (eVar 5) aNil))))) (tBool (eOp2 (gEq true) (eOp2 gIx (eCallK 2 m_pushed 2 [1, 0] (aCons (eVar 5) (aCons (eVar 4) aNil))) (eC (.int 0))) (eOp2 gIx (eVar 7) (eC (.int 0)))))) (sRet (eC (.bl false))) sNil)))))))))
    (sRet (eAndV (eOp2 (gEq false) (eCallD 2 m_pushed [.wt []] (aCons (eLst aNil) aNil)) (eTup (aCons (eC (.str "rests")) (aCons (eLst aNil) aNil)))) (eOp2 (gEq false) (eOp2 gIx (eCallD 2 m_pushed [.wt []] (aCons (eLst (aCons (eTup (aCons (eTup aNil) (aCons (eC (.int 1)) aNil))) aNil)) aNil)) (eC (.int 0))) (eC (.str "bursts"))))))
noncomputable def m_law : FM := fun ds h => (runH N_law.length b_law ds h).calm
theorem me_law (ds : List AV) (h : AH) : m_law ds h = (runH 9 b_law ds h).calm := Eq.trans rfl rfl
theorem ok_law {f : Addr} {fd : FuncData} {dvs : List V} (F : DP.FnP K "law" st_law dvs f fd) (T : Txt K mg) (C__law_pool : CalH P w K mg base 1 "_law_pool" ["_law_script", "_law_k"] m__law_pool) (C__law_take : CalH P w K mg base 1 "_law_take" ["_law_pool_here", "_law_many"] m__law_take) (C__law_sum : CalH P w K mg base 2 "_law_sum" ["_law_pool_here", "_law_many"] m__law_sum) (C__law_known : CalH P w K mg base 2 "_law_known" ["_law_pool_here", "_law_size"] m__law_known) (C__law_right : CalH P w K mg base 4 "_law_right" ["_law_several", "_law_marks_here"] m__law_right) (C_pushed : CalH P w K mg base 3 "pushed" ["some", "marks"] m_pushed) (CK0_pushed : CalKH P w K mg base 3 "pushed" ["some", "marks"] ["marks", "some"] [1, 0] m_pushed) (CD1_pushed : CalHD P w K mg base 3 "pushed" ["some", "marks"] [.wt []] m_pushed) : DP.GFn P w K mg base CX0 5 f fd ["_law_script"] (spH K mg 1 m_law) := fn_simH (b := b_law) F sc_law (fun cdv A outer s H E hq hr => (sim_seq (sim_for PassesOwn.never rfl (sim_irng1 (by rfl) T.b_range (sim_acons (sim_callB (call_max2 rfl) on_max2 (by rfl) T.b_max bt_max (sim_acons sim_int (sim_acons (sim_callB (call_min2 rfl) on_min2 (by rfl) T.b_min bt_min (sim_acons (sim_callB call_len on_len (by rfl) T.b_len bt_len (sim_acons (sim_var (pv 0)) sim_anil)) (sim_acons sim_int sim_anil))) sim_anil))) sim_anil)) (sim_gname (i := 1) sc_law.nd rfl (.inl rfl)) (sim_seq (sim_set (i := 2) sc_law.nd rfl (.inr rfl) (sim_call C__law_pool hq (hr.mono (by decide)) (by rfl) (sim_acons (sim_var (pv 0)) (sim_acons (sim_var (pv 1)) sim_anil))))
    (sim_seq (sim_set (i := 3) sc_law.nd rfl (.inr rfl) (sim_op DP.or_add o2_add sim_int (sim_call C__law_take hq (hr.mono (by decide)) (by rfl) (sim_acons (sim_var (pv 2)) (sim_acons sim_int sim_anil)))))
    (sim_seq (sim_setlc [("_law_turn", 8)] (i := 4) rfl sc_law.nd rfl rfl (sw_true rfl rfl rfl (by decide +kernel)) (sim_irng1 (by rfl) T.b_range (sim_acons (sim_call C__law_take hq (hr.mono (by decide)) (by rfl) (sim_acons (sim_var (pv 2)) (sim_acons sim_int sim_anil))) sim_anil)) (blkOk_by (N := N_law) (sc := defScope st_law) (by decide +kernel)) (fun _ _ _ _ _ => (sim_gname (i := 8) sc_law.nd rfl (.inl rfl))) (fun _ _ _ _ _ => sim_tsnil) (fun _ _ _ _ _ => (sim_call C__law_sum hq (hr.mono (by decide)) (by rfl) (sim_acons (sim_var (pv 2)) (sim_acons (sim_var (pv 3)) sim_anil)))) (by decide))
    (sim_seq (sim_set (i := 5) sc_law.nd rfl (.inl rfl) (sim_call C__law_known hq (hr.mono (by decide)) (by rfl) (sim_acons (sim_var (pv 2)) (sim_acons (sim_var (pv 3)) sim_anil))))
    (sim_seq (sim_for PassesOwn.never rfl (sim_iseq (sim_lst (sim_acons (sim_var (pv 5)) (sim_acons (sim_lst sim_anil) sim_anil)))) (sim_gname (i := 6) sc_law.nd rfl (.inl rfl)) (sim_one (sim_if (SimW.t (sim_wor (sim_tnot (sim_tval (sim_call C__law_right hq (hr.mono (by decide)) (by rfl) (sim_acons (sim_var (pv 4)) (sim_acons (sim_callTy call_list_of on_list (by rfl) T.b_list bt_list (sim_acons (sim_var (pv 6)) sim_anil)) sim_anil))))) (sim_wor1 (sim_tcmp (op_neD hr.units) o2_ne (sim_ix (DP.ir_all (hu_of hr)) o2_ix (sim_call C_pushed hq (hr.mono (by decide)) (by rfl) (sim_acons (sim_var (pv 4)) (sim_acons (sim_var (pv 6)) sim_anil))) sim_int (fun _ _ => rfl)) (sim_ix (DP.ir_all (hu_of hr)) o2_ix (sim_call C_pushed hq (hr.mono (by decide)) (by rfl) (sim_acons (sim_revL (sim_var (pv 4))) (sim_acons (sim_var (pv 6)) sim_anil))) sim_int (fun _ _ => rfl)) (nomark _))))) (sim_one (sim_ret sim_bl)) sim_nil)))
    (sim_seq (sim_set (i := 7) sc_law.nd rfl (.inl rfl) (sim_call C_pushed hq (hr.mono (by decide)) (by rfl) (sim_acons (sim_var (pv 4)) (sim_acons (sim_var (pv 5)) sim_anil))))
    (sim_seq (sim_expr (sim_bm PySem.F.plainAttrs_list PySem.F.slot_list_append PySem.F.type_list_append mt_append om_append (sim_ix (DP.ir_all (hu_of hr)) o2_ix (sim_var (pv 7)) sim_int (fun _ _ => rfl)) (sim_acons sim_int sim_anil)))
    (sim_one (sim_if (SimW.t (sim_wor (sim_tnot (sim_tval (sim_call C__law_right hq (hr.mono (by decide)) (by rfl) (sim_acons (sim_var (pv 4)) (sim_acons (sim_var (pv 5)) sim_anil))))) (sim_wor1 (sim_tcmp (op_neD hr.units) o2_ne (sim_ix (DP.ir_all (hu_of hr)) o2_ix (sim_callK CK0_pushed hq (hr.mono (by decide)) (by rfl) (sim_kcons (sim_var (pv 5)) (sim_kcons (sim_var (pv 4)) sim_knil)) rfl rfl rfl) sim_int (fun _ _ => rfl)) (sim_ix (DP.ir_all (hu_of hr)) o2_ix (sim_var (pv 7)) sim_int (fun _ _ => rfl)) (nomark _))))) (sim_one (sim_ret sim_bl)) sim_nil))))))))))
    (sim_one (sim_ret (sim_vand (sim_cmp (op_eqD hr.units) o2_eq (sim_callD CD1_pushed hq (hr.mono (by decide)) (by rfl) (sim_acons (sim_lst sim_anil) sim_anil)) (sim_tup (sim_acons sim_str (sim_acons (sim_lst sim_anil) sim_anil))) (nomark _)) (sim_vone (sim_cmp (op_eqD hr.units) o2_eq (sim_ix (DP.ir_all (hu_of hr)) o2_ix (sim_callD CD1_pushed hq (hr.mono (by decide)) (by rfl) (sim_acons (sim_lst (sim_acons (sim_tup (sim_acons (sim_tup sim_anil) (sim_acons sim_int sim_anil))) sim_anil)) sim_anil)) sim_int (fun _ _ => rfl)) sim_str (nomark _))))))))
end
def dd__law_pool : He.DefD := ⟨("_law_pool", none), "_law_pool", "_law_pool", defArgs st__law_pool, defBody st__law_pool, defScope st__law_pool, [], []⟩
def dd__law_take : He.DefD := ⟨("_law_take", none), "_law_take", "_law_take", defArgs st__law_take, defBody st__law_take, defScope st__law_take, [], []⟩
def dd__law_known : He.DefD := ⟨("_law_known", none), "_law_known", "_law_known", defArgs st__law_known, defBody st__law_known, defScope st__law_known, [], []⟩
def dd_room : He.DefD := ⟨("room", none), "room", "room", defArgs st_room, defBody st_room, defScope st_room, [], []⟩
def dd_pushed_by : He.DefD := ⟨("pushed_by", none), "pushed_by", "pushed_by", defArgs st_pushed_by, defBody st_pushed_by, defScope st_pushed_by, [], []⟩
def dd_pushed : He.DefD := ⟨("pushed", none), "pushed", "pushed", defArgs st_pushed, defBody st_pushed, defScope st_pushed, [.adr (He.dflAt ("pushed", none) 0)], []⟩
def dd__law_sum : He.DefD := ⟨("_law_sum", none), "_law_sum", "_law_sum", defArgs st__law_sum, defBody st__law_sum, defScope st__law_sum, [], []⟩
def dd__law_spare : He.DefD := ⟨("_law_spare", none), "_law_spare", "_law_spare", defArgs st__law_spare, defBody st__law_spare, defScope st__law_spare, [], []⟩
def dd__law_pushed : He.DefD := ⟨("_law_pushed", none), "_law_pushed", "_law_pushed", defArgs st__law_pushed, defBody st__law_pushed, defScope st__law_pushed, [], []⟩
def dd__law_may_come : He.DefD := ⟨("_law_may_come", none), "_law_may_come", "_law_may_come", defArgs st__law_may_come, defBody st__law_may_come, defScope st__law_may_come, [], []⟩
def dd__law_right : He.DefD := ⟨("_law_right", none), "_law_right", "_law_right", defArgs st__law_right, defBody st__law_right, defScope st__law_right, [], []⟩
def dd_law : He.DefD := ⟨("law", none), "law", "law", defArgs st_law, defBody st_law, defScope st_law, [], []⟩
def fn : List He.DefD := [dd__law_pool, dd__law_take, dd__law_known, dd_room, dd_pushed_by, dd_pushed, dd__law_sum, dd__law_spare, dd__law_pushed, dd__law_may_come, dd__law_right, dd_law]
theorem by_and {a b : Bool} (h : (a && b) = true) : a = true ∧ b = true := by cases a <;> cases b <;> simp_all
def exK (K : PySem.W.Frag) : Bool := (tupAt K (He.dflAt ("pushed", none) 0 K) [] && true)
def fa : List He.Fa := [.glo "_law_pool", .glo "_law_take", .glo "_law_known", .glo "room", .glo "pushed_by", .glo "pushed", .glo "_law_sum", .glo "_law_spare", .glo "_law_pushed", .glo "_law_may_come", .glo "_law_right", .glo "law", .free "abs", .free "int", .free "isinstance", .free "len", .free "list", .free "max", .free "min", .free "range", .free "repr", .free "sorted", .free "sum", .free "tuple"]
theorem facts {P : Program} {w : World} {K : PySem.W.Frag} {h : Heap} {mg : Str → Option Value} {f : Addr} (X : K.In h) (G : h.Ns mainGlobals mg) (hfa : mg ("law" : Str) = some (.ref f)) (c : He.SaysD fa fn K) (ce : exK K = true) :
    ∃ fd : FuncData, (∀ (s : Shared) (v : Value), BindsTo s fd ⟨[v], []⟩ [("_law_script", v)]) ∧ ∀ base : Heap, K.In base → base.Ns mainGlobals mg → DP.GFn P w K mg base CX0 5 f fd ["_law_script"] (spH K mg 1 m_law) := by
  obtain ⟨fd__law_pool, F__law_pool⟩ := c.def_ 0 (d := dd__law_pool) rfl
  obtain ⟨fd__law_take, F__law_take⟩ := c.def_ 1 (d := dd__law_take) rfl
  obtain ⟨fd__law_known, F__law_known⟩ := c.def_ 2 (d := dd__law_known) rfl
  obtain ⟨fd_room, F_room⟩ := c.def_ 3 (d := dd_room) rfl
  obtain ⟨fd_pushed_by, F_pushed_by⟩ := c.def_ 4 (d := dd_pushed_by) rfl
  obtain ⟨fd_pushed, F_pushed⟩ := c.def_ 5 (d := dd_pushed) rfl
  obtain ⟨fd__law_sum, F__law_sum⟩ := c.def_ 6 (d := dd__law_sum) rfl
  obtain ⟨fd__law_spare, F__law_spare⟩ := c.def_ 7 (d := dd__law_spare) rfl
  obtain ⟨fd__law_pushed, F__law_pushed⟩ := c.def_ 8 (d := dd__law_pushed) rfl
  obtain ⟨fd__law_may_come, F__law_may_come⟩ := c.def_ 9 (d := dd__law_may_come) rfl
  obtain ⟨fd__law_right, F__law_right⟩ := c.def_ 10 (d := dd__law_right) rfl
  obtain ⟨fd_law, F_law⟩ := c.def_ 11 (d := dd_law) rfl
  have T : Txt K mg := ⟨He.free_ok X G (c.fact 12 (f := .free "abs") rfl), He.free_ok X G (c.fact 13 (f := .free "int") rfl), He.free_ok X G (c.fact 14 (f := .free "isinstance") rfl), He.free_ok X G (c.fact 15 (f := .free "len") rfl), He.free_ok X G (c.fact 16 (f := .free "list") rfl), He.free_ok X G (c.fact 17 (f := .free "max") rfl), He.free_ok X G (c.fact 18 (f := .free "min") rfl), He.free_ok X G (c.fact 19 (f := .free "range") rfl), He.free_ok X G (c.fact 20 (f := .free "repr") rfl), He.free_ok X G (c.fact 21 (f := .free "sorted") rfl), He.free_ok X G (c.fact 22 (f := .free "sum") rfl), He.free_ok X G (c.fact 23 (f := .free "tuple") rfl)⟩
  have g__law_pool := He.glo_ok X G (c.fact 0 (f := .glo "_law_pool") rfl)
  have b__law_pool : Binds K fd__law_pool ["_law_script", "_law_k"] [] := FunD.bindsN F__law_pool fun _ _ _ _ _ _ us hl => match us, hl with | [_, _], _ => rfl
  have g__law_take := He.glo_ok X G (c.fact 1 (f := .glo "_law_take") rfl)
  have b__law_take : Binds K fd__law_take ["_law_pool_here", "_law_many"] [] := FunD.bindsN F__law_take fun _ _ _ _ _ _ us hl => match us, hl with | [_, _], _ => rfl
  have g__law_known := He.glo_ok X G (c.fact 2 (f := .glo "_law_known") rfl)
  have b__law_known : Binds K fd__law_known ["_law_pool_here", "_law_size"] [] := FunD.bindsN F__law_known fun _ _ _ _ _ _ us hl => match us, hl with | [_, _], _ => rfl
  have g_room := He.glo_ok X G (c.fact 3 (f := .glo "room") rfl)
  have b_room : Binds K fd_room ["one", "known"] [] := FunD.bindsN F_room fun _ _ _ _ _ _ us hl => match us, hl with | [_, _], _ => rfl
  have g_pushed_by := He.glo_ok X G (c.fact 4 (f := .glo "pushed_by") rfl)
  have b_pushed_by : Binds K fd_pushed_by ["one", "known"] [] := FunD.bindsN F_pushed_by fun _ _ _ _ _ _ us hl => match us, hl with | [_, _], _ => rfl
  have g_pushed := He.glo_ok X G (c.fact 5 (f := .glo "pushed") rfl)
  have b_pushed : Binds K fd_pushed ["some", "marks"] [] := DP.binds_allD F_pushed 2 (by simp [He.DefD.dvs, dd_pushed]) rfl fun T kV doc pm an cdv ct us its hl hi => match us, hl, its, hi with | [_, _], _, [_], _ => ⟨_, rfl, rfl⟩
  have g__law_sum := He.glo_ok X G (c.fact 6 (f := .glo "_law_sum") rfl)
  have b__law_sum : Binds K fd__law_sum ["_law_pool_here", "_law_many"] [] := FunD.bindsN F__law_sum fun _ _ _ _ _ _ us hl => match us, hl with | [_, _], _ => rfl
  have g__law_spare := He.glo_ok X G (c.fact 7 (f := .glo "_law_spare") rfl)
  have b__law_spare : Binds K fd__law_spare ["_law_one", "_law_known_here"] [] := FunD.bindsN F__law_spare fun _ _ _ _ _ _ us hl => match us, hl with | [_, _], _ => rfl
  have g__law_pushed := He.glo_ok X G (c.fact 8 (f := .glo "_law_pushed") rfl)
  have b__law_pushed : Binds K fd__law_pushed ["_law_several", "_law_known_here"] [] := FunD.bindsN F__law_pushed fun _ _ _ _ _ _ us hl => match us, hl with | [_, _], _ => rfl
  have g__law_may_come := He.glo_ok X G (c.fact 9 (f := .glo "_law_may_come") rfl)
  have b__law_may_come : Binds K fd__law_may_come ["_law_several", "_law_marks_here", "_law_told"] [] := FunD.bindsN F__law_may_come fun _ _ _ _ _ _ us hl => match us, hl with | [_, _, _], _ => rfl
  have g__law_right := He.glo_ok X G (c.fact 10 (f := .glo "_law_right") rfl)
  have b__law_right : Binds K fd__law_right ["_law_several", "_law_marks_here"] [] := FunD.bindsN F__law_right fun _ _ _ _ _ _ us hl => match us, hl with | [_, _], _ => rfl
  have e := hfa.symm.trans (He.glo_ok X G (c.fact 11 (f := .glo "law") rfl))
  cases e
  have b := FunD.bindsA (ps := ["_law_script"]) F_law fun _ _ _ _ _ _ us hl => match us, hl with | [_], _ => rfl
  refine ⟨fd_law, fun s v => b s [v] rfl, fun base _ _ => ?_⟩
  have C__law_pool : CalH P w K mg base 1 "_law_pool" ["_law_script", "_law_k"] m__law_pool := ⟨_, _, ok__law_pool F__law_pool T, g__law_pool, F__law_pool.kp, b__law_pool⟩
  have C__law_take : CalH P w K mg base 1 "_law_take" ["_law_pool_here", "_law_many"] m__law_take := ⟨_, _, ok__law_take F__law_take T, g__law_take, F__law_take.kp, b__law_take⟩
  have C__law_known : CalH P w K mg base 2 "_law_known" ["_law_pool_here", "_law_size"] m__law_known := ⟨_, _, ok__law_known F__law_known T C__law_take, g__law_known, F__law_known.kp, b__law_known⟩
  have C_room : CalH P w K mg base 1 "room" ["one", "known"] m_room := ⟨_, _, ok_room F_room T, g_room, F_room.kp, b_room⟩
  have C_pushed_by : CalH P w K mg base 2 "pushed_by" ["one", "known"] m_pushed_by := ⟨_, _, ok_pushed_by F_pushed_by T C_room, g_pushed_by, F_pushed_by.kp, b_pushed_by⟩
  have C_pushed : CalH P w K mg base 3 "pushed" ["some", "marks"] m_pushed := ⟨_, _, ok_pushed F_pushed T C_pushed_by, g_pushed, F_pushed.kp, b_pushed⟩
  have CK0_pushed : CalKH P w K mg base 3 "pushed" ["some", "marks"] ["marks", "some"] [1, 0] m_pushed := ⟨_, _, ok_pushed F_pushed T C_pushed_by, g_pushed, F_pushed.kp, DP.kwb_ofD F_pushed (by simp [He.DefD.dvs, dd_pushed]) fun T kV doc pm an cdv ct us its hl hi => match us, hl, its, hi with | [_, _], _, [_], _ => ⟨_, rfl, rfl⟩⟩
  obtain ⟨ds_CD1_pushed, v_CD1_pushed, bb_CD1_pushed⟩ := FunD.binds1 (ps := ["some", "marks"]) F_pushed 1 0 (by simp [He.DefD.dvs, dd_pushed]) rfl fun T kV doc pm an cdv ct us its hl hi => match us, hl, its, hi with | [_], _, [_], _ => ⟨_, rfl, rfl⟩
  have CD1_pushed : CalHD P w K mg base 3 "pushed" ["some", "marks"] [.wt []] m_pushed := ⟨_, _, _, _, ok_pushed F_pushed T C_pushed_by, g_pushed, F_pushed.kp, bb_CD1_pushed, v_CD1_pushed, fun _ _ => (.cons (.wt (tupAt_ok (by_and ce).1) .nil) .nil)⟩
  have C__law_sum : CalH P w K mg base 2 "_law_sum" ["_law_pool_here", "_law_many"] m__law_sum := ⟨_, _, ok__law_sum F__law_sum T C__law_take, g__law_sum, F__law_sum.kp, b__law_sum⟩
  have C__law_spare : CalH P w K mg base 1 "_law_spare" ["_law_one", "_law_known_here"] m__law_spare := ⟨_, _, ok__law_spare F__law_spare T, g__law_spare, F__law_spare.kp, b__law_spare⟩
  have C__law_pushed : CalH P w K mg base 2 "_law_pushed" ["_law_several", "_law_known_here"] m__law_pushed := ⟨_, _, ok__law_pushed F__law_pushed T C__law_spare, g__law_pushed, F__law_pushed.kp, b__law_pushed⟩
  have C__law_may_come : CalH P w K mg base 2 "_law_may_come" ["_law_several", "_law_marks_here", "_law_told"] m__law_may_come := ⟨_, _, ok__law_may_come F__law_may_come T C__law_spare, g__law_may_come, F__law_may_come.kp, b__law_may_come⟩
  have C__law_right : CalH P w K mg base 4 "_law_right" ["_law_several", "_law_marks_here"] m__law_right := ⟨_, _, ok__law_right F__law_right T C_pushed C__law_pushed C__law_may_come C__law_spare, g__law_right, F__law_right.kp, b__law_right⟩
  exact ok_law F_law T C__law_pool C__law_take C__law_sum C__law_known C__law_right C_pushed CK0_pushed CD1_pushed
abbrev R : PySem.W.OpenRow := PySem.W.OpenLaw.row PySem.Challenge.rw_leastbroken_k13_what_sums_push
abbrev hk : PySem.W.Hook := hookE 4 fa fn exK
def ob (s : PySem.W.SharedT) : He.AlD × Bool := obE 4 fa fn exK (HandSHeadRun.getT s)
theorem ob_eq (s : PySem.W.SharedT) : ob s = hk.obs s.abs := obE_eq (HandSHeadRun.getT_eq s)
def loose0 : List Str := ["room", "pushed_by", "pushed", "_law_pool", "_law_take", "_law_fillings", "_law_is_so", "_law_holds", "_law_weight", "_law_reach", "_law_is_held", "_law_sum", "_law_spare", "_law_pushed", "_law_known", "_law_may_come", "_law_right"]
def loose : List Str := loose0
theorem run (w : World) : HandSHeadRun.RunEq R (PySem.W.view R.prog [19]) hk ob 4000 loose w := by
  intro os
  kernel_rfl
end LW
/-! PLA: running the mirrors. Each match is a function of its own here: the kernel compares a plain function's arguments, but runs a match. -/
namespace DP
open PySem L2
theorem nrf {α : Sort u} {a b : α} (h : a = b) : a = b := h
section
variable {α β : Type} {ρ : Dn}
def Rs.thn (r : Rs α) (k : α → Dn → Rs β) : Rs β := match r with | .ok a ρ' => k a ρ' | .ex e ρ' => .ex e ρ' | .no => .no
@[simp] theorem thn_ok (a : α) (k : α → Dn → Rs β) : (Rs.ok a ρ).thn k = k a ρ := nrf rfl
@[simp] theorem thn_no (k : α → Dn → Rs β) : (Rs.no).thn k = .no := nrf rfl
@[simp] theorem thn_ex (e : Exn) (k : α → Dn → Rs β) : (Rs.ex e ρ).thn k = .ex e ρ := nrf rfl
def Rs.thnS (r : Rs α) (k : α → Dn → Ou) : Ou := match r with | .ok a ρ' => k a ρ' | .ex e ρ' => .ex e ρ' | .no => .no
@[simp] theorem thnS_ok (a : α) (k : α → Dn → Ou) : (Rs.ok a ρ).thnS k = k a ρ := nrf rfl
@[simp] theorem thnS_no (k : α → Dn → Ou) : (Rs.no).thnS k = .no := nrf rfl
@[simp] theorem thnS_ex (e : Exn) (k : α → Dn → Ou) : (Rs.ex e ρ).thnS k = .ex e ρ := nrf rfl
def Ou.seq (o : Ou) (k : Dn → Ou) : Ou := match o with | .nx ρ' => k ρ' | o => o
@[simp] theorem seq_nx (k : Dn → Ou) : (Ou.nx ρ).seq k = k ρ := nrf rfl
@[simp] theorem seq_rt (r : Rv) (k : Dn → Ou) : (Ou.rt r ρ).seq k = .rt r ρ := nrf rfl
@[simp] theorem seq_bk (k : Dn → Ou) : (Ou.bk ρ).seq k = .bk ρ := nrf rfl
@[simp] theorem seq_ct (k : Dn → Ou) : (Ou.ct ρ).seq k = .ct ρ := nrf rfl
@[simp] theorem seq_ex (e : Exn) (k : Dn → Ou) : (Ou.ex e ρ).seq k = .ex e ρ := nrf rfl
@[simp] theorem seq_no (k : Dn → Ou) : (Ou.no).seq k = .no := nrf rfl
def optR (o : Option α) (ρ : Dn) : Rs α := match o with | some a => .ok a ρ | none => .no
@[simp] theorem optR_some (a : α) : optR (some a) ρ = .ok a ρ := nrf rfl
@[simp] theorem optR_none : optR (none : Option α) ρ = .no := nrf rfl
def varR (i : Nat) (o : Option (Option Sl)) (ρ : Dn) : Rs Rv := match o with | some (some (.imm d)) => .ok (.val d) ρ | some (some (.own _ _)) => .ok (.slot i) ρ | _ => .no
@[simp] theorem varR_imm (i : Nat) (d : PD) : varR i (some (some (.imm d))) ρ = .ok (.val d) ρ := nrf rfl
@[simp] theorem varR_own (i : Nat) (b : Bool) (d : PD) : varR i (some (some (.own b d))) ρ = .ok (.slot i) ρ := nrf rfl
def rdO (o : Option (Option Sl)) : Option PD := match o with | some (some s) => slD s | _ => none
@[simp] theorem rdO_imm (d : PD) : rdO (some (some (.imm d))) = some d := nrf rfl
@[simp] theorem rdO_own (b : Bool) (d : PD) : rdO (some (some (.own b d))) = some d := nrf rfl
def frzO (i : Nat) (o : Option (Option Sl)) (ρ : Dn) : Rs PD := match o with | some (some (.imm d)) => .ok d ρ | some (some (.own false d)) => .ok d (ρ.set i (some (.imm d))) | _ => .no
@[simp] theorem frzO_imm (i : Nat) (d : PD) : frzO i (some (some (.imm d))) ρ = .ok d ρ := nrf rfl
@[simp] theorem frzO_own (i : Nat) (d : PD) : frzO i (some (some (.own false d))) ρ = .ok d (ρ.set i (some (.imm d))) := nrf rfl
def consO (d : Option PD) (ds : Option (List PD)) : Option (List PD) := match d with | some d => ds.map (d :: ·) | none => none
@[simp] theorem consO_some (d : PD) (ds : List PD) : consO (some d) (some ds) = some (d :: ds) := nrf rfl
def boolR (d : PD) (ρ : Dn) : Rs Bool := match d with | .bool b => .ok b ρ | _ => .no
@[simp] theorem boolR_bool (b : Bool) : boolR (.bool b) ρ = .ok b ρ := nrf rfl
def optS (o : Option Dn) : Ou := match o with | some ρ' => .nx ρ' | none => .no
@[simp] theorem optS_some : optS (some ρ) = .nx ρ := nrf rfl
def optD (o : Option Dn) (k : Dn → Option Dn) : Option Dn := match o with | some ρ' => k ρ' | none => none
@[simp] theorem optD_some (k : Dn → Option Dn) : optD (some ρ) k = k ρ := nrf rfl
def freeO : Option Sl → Bool
  | some (.own true _) => false
  | _ => true
@[simp] theorem freeO_none : freeO none = true := nrf rfl
@[simp] theorem freeO_imm (d : PD) : freeO (some (.imm d)) = true := nrf rfl
@[simp] theorem freeO_own (d : PD) : freeO (some (.own false d)) = true := nrf rfl
@[simp] theorem freeO_in (d : PD) : freeO (some (.own true d)) = false := nrf rfl
def freeOO (o : Option (Option Sl)) : Bool := match o with | some o => freeO o | none => false
@[simp] theorem freeOO_some (o : Option Sl) : freeOO (some o) = freeO o := nrf rfl
def putO (i j : Nat) (o : Option (Option Sl)) (ρ : Dn) : Ou := match o with
  | some (some (.imm d)) => .nx (ρ.set i (some (.imm d)))
  | some (some (.own false d)) => .nx ((ρ.set j (some (.imm d))).set i (some (.imm d)))
  | _ => .no
@[simp] theorem putO_imm (i j : Nat) (d : PD) : putO i j (some (some (.imm d))) ρ = .nx (ρ.set i (some (.imm d))) := nrf rfl
@[simp] theorem putO_own (i j : Nat) (d : PD) : putO i j (some (some (.own false d))) ρ = .nx ((ρ.set j (some (.imm d))).set i (some (.imm d))) := nrf rfl
def putV (i : Nat) (r : Rv) (ρ : Dn) : Ou := match r with | .val d => .nx (ρ.set i (some (.imm d))) | .fresh d => .nx (ρ.set i (some (.own false d))) | .slot j => putO i j ρ[j]? ρ
@[simp] theorem putV_val (i : Nat) (d : PD) : putV i (.val d) ρ = .nx (ρ.set i (some (.imm d))) := nrf rfl
@[simp] theorem putV_fresh (i : Nat) (d : PD) : putV i (.fresh d) ρ = .nx (ρ.set i (some (.own false d))) := nrf rfl
@[simp] theorem putV_slot (i j : Nat) : putV i (.slot j) ρ = putO i j ρ[j]? ρ := nrf rfl
@[simp] theorem bnd_ap (m : M α) (k : α → M β) : bnd m k ρ = (m ρ).thn fun a ρ' => k a ρ' := nrf rfl
@[simp] theorem bndS_ap (m : M α) (k : α → SM) : bndS m k ρ = (m ρ).thnS fun a ρ' => k a ρ' := nrf rfl
@[simp] theorem retM_ap (a : α) : retM a ρ = .ok a ρ := nrf rfl
@[simp] theorem noM_ap : (noM : M α) ρ = .no := nrf rfl
@[simp] theorem chk_ap (b : Bool) : chk b ρ = if b = true then .ok () ρ else .no := nrf rfl
@[simp] theorem eVar_ap (i : Nat) : eVar i ρ = varR i ρ[i]? ρ := nrf rfl
@[simp] theorem eC_ap (d : PD) : eC d ρ = .ok (.val d) ρ := nrf rfl
@[simp] theorem rdM_ap (r : Rv) : rdM r ρ = optR (rd r ρ) ρ := by
  refine nrf ?_
  unfold rdM optR
  cases rd r ρ <;> rfl
@[simp] theorem rdsM_ap (r : List Rv) : rdsM r ρ = optR (rds r ρ) ρ := by
  refine nrf ?_
  unfold rdsM optR
  cases rds r ρ <;> rfl
@[simp] theorem rd_val (d : PD) : rd (.val d) ρ = some d := nrf rfl
@[simp] theorem rd_fresh (d : PD) : rd (.fresh d) ρ = some d := nrf rfl
@[simp] theorem rd_slot (i : Nat) : rd (.slot i) ρ = rdO ρ[i]? := nrf rfl
@[simp] theorem rds_nil : rds [] ρ = some [] := nrf rfl
@[simp] theorem rds_cons (r : Rv) (rs : List Rv) : rds (r :: rs) ρ = consO (rd r ρ) (rds rs ρ) := nrf rfl
@[simp] theorem frz_val (d : PD) : frz (.val d) ρ = .ok d ρ := nrf rfl
@[simp] theorem frz_fresh (d : PD) : frz (.fresh d) ρ = .ok d ρ := nrf rfl
@[simp] theorem frz_slot (i : Nat) : frz (.slot i) ρ = frzO i ρ[i]? ρ := nrf rfl
@[simp] theorem frzs_nil : frzs [] ρ = .ok [] ρ := nrf rfl
@[simp] theorem frzs_cons (r : Rv) (rs : List Rv) : frzs (r :: rs) ρ = (frz r ρ).thn fun d ρ' => (frzs rs ρ').thn fun ds ρ'' => .ok (d :: ds) ρ'' := nrf rfl
@[simp] theorem fin_some (c : Rc) : fin (some c) ρ = .ok c.rv ρ := nrf rfl
@[simp] theorem aNil_ap : aNil ρ = .ok [] ρ := nrf rfl
@[simp] theorem aCons_ap (a : M Rv) (b : M (List Rv)) : aCons a b ρ = (a ρ).thn fun x ρ' => (b ρ').thn fun xs ρ'' => .ok (x :: xs) ρ'' := nrf rfl
@[simp] theorem eOp2_ap (g : PD → PD → Option Rc) (a b : M Rv) : eOp2 g a b ρ = (a ρ).thn fun x ρ => (b ρ).thn fun y ρ => (rdM x ρ).thn fun d1 ρ => (rdM y ρ).thn fun d2 ρ => fin (g d1 d2) ρ := nrf rfl
@[simp] theorem eOp1_ap (g : PD → Option Rc) (a : M Rv) : eOp1 g a ρ = (a ρ).thn fun x ρ => (rdM x ρ).thn fun d1 ρ => fin (g d1) ρ := nrf rfl
@[simp] theorem eOpN_ap (g : List PD → Option Rc) (a : M (List Rv)) : eOpN g a ρ = (a ρ).thn fun xs ρ => (rdsM xs ρ).thn fun ds ρ => fin (g ds) ρ := nrf rfl
@[simp] theorem eTup_ap (a : M (List Rv)) : eTup a ρ = (a ρ).thn fun rs ρ => (frzs rs ρ).thn fun ds ρ => (chk (smallL ds.length) ρ).thn fun _ ρ => .ok (.val (.tuple ds)) ρ := nrf rfl
@[simp] theorem eLst_ap (a : M (List Rv)) : eLst a ρ = (a ρ).thn fun rs ρ => (frzs rs ρ).thn fun ds ρ => (chk (smallL ds.length) ρ).thn fun _ ρ => .ok (.fresh (.list ds)) ρ := nrf rfl
@[simp] theorem tBool_ap (f : M Rv) : tBool f ρ = (f ρ).thn fun r ρ => (rdM r ρ).thn fun d ρ => boolR d ρ := by
  refine nrf ?_
  unfold tBool
  rw [bnd_ap]
  congr 1
  funext r ρ1
  rw [bnd_ap]
  congr 1
  funext d ρ2
  cases d <;> rfl
@[simp] theorem tAnd_ap (a b : M Bool) : tAndM a b ρ = (a ρ).thn fun k ρ => if k = true then b ρ else .ok false ρ := by
  refine nrf ?_
  unfold tAndM
  rw [bnd_ap]
  congr 1
  funext k ρ1
  cases k <;> rfl
@[simp] theorem tOr_ap (a b : M Bool) : tOrM a b ρ = (a ρ).thn fun k ρ => if k = true then .ok true ρ else b ρ := by
  refine nrf ?_
  unfold tOrM
  rw [bnd_ap]
  congr 1
  funext k ρ1
  cases k <;> rfl
@[simp] theorem tNot_ap (a : M Bool) : tNotM a ρ = (a ρ).thn fun k ρ => .ok (!k) ρ := nrf rfl
@[simp] theorem eIf_ap (c : M Bool) (a b : M Rv) : eIf c a b ρ = (c ρ).thn fun k ρ => if k = true then a ρ else b ρ := by
  refine nrf ?_
  unfold eIf
  rw [bnd_ap]
  congr 1
  funext k ρ1
  cases k <;> rfl
@[simp] theorem eIsN_ap (a : M Rv) : eIsN a ρ = (a ρ).thn fun x ρ => (rdM x ρ).thn fun d ρ => .ok (.val (.bool (isNone d))) ρ := nrf rfl
@[simp] theorem eNotN_ap (a : M Rv) : eNotN a ρ = (a ρ).thn fun x ρ => (rdM x ρ).thn fun d ρ => .ok (.val (.bool (!isNone d))) ρ := nrf rfl
@[simp] theorem eFz_ap (f : M Rv) : eFz f ρ = (f ρ).thn fun r ρ => (frz r ρ).thn fun d ρ => .ok (.val d) ρ := nrf rfl
@[simp] theorem sSeq_ap (a b : SM) : sSeq a b ρ = (a ρ).seq b := nrf rfl
@[simp] theorem sNil_ap : sNil ρ = .nx ρ := nrf rfl
@[simp] theorem sRet_ap (f : M Rv) : sRet f ρ = (f ρ).thnS fun r ρ => .rt r ρ := nrf rfl
@[simp] theorem sIf_ap (c : M Bool) (a b : SM) : sIf c a b ρ = (c ρ).thnS fun k ρ => if k = true then a ρ else b ρ := by
  refine nrf ?_
  unfold sIf
  rw [bndS_ap]
  congr 1
  funext k ρ1
  cases k <;> rfl
@[simp] theorem sSet_ap (i : Nat) (f : M Rv) : sSet i f ρ = (f ρ).thnS fun r ρ => putR i r ρ := nrf rfl
@[simp] theorem free_ap (i : Nat) : freeSl ρ i = freeOO ρ[i]? := by
  refine nrf ?_
  unfold freeSl
  cases ρ[i]? with
  | none => rfl
  | some o => cases o with
    | none => rfl
    | some s => cases s with
      | own b d => cases b <;> rfl
      | _ => rfl
@[simp] theorem putR_ap (i : Nat) (r : Rv) : putR i r ρ = if freeSl ρ i = true then putV i r ρ else .no := by
  refine nrf ?_
  unfold putR putV
  cases r <;> rfl
@[simp] theorem sAsg_ap (f : M Rv) (g : PD → Dn → Option Dn) : sAsg f g ρ = (f ρ).thnS fun r ρ => (frz r ρ).thnS fun d ρ => optS (g d ρ) := by
  refine nrf ?_
  unfold sAsg
  rw [bndS_ap]
  congr 1
@[simp] theorem gNm_ap (i : Nat) (d : PD) : gNm i d ρ = if freeSl ρ i = true then some (ρ.set i (some (.imm d))) else none := nrf rfl
@[simp] theorem gTupM_ap (gs : List PD → Dn → Option Dn) (ds : List PD) : gTupM gs (.tuple ds) ρ = gs ds ρ := nrf rfl
@[simp] theorem gsNil_ap : gsNil [] ρ = some ρ := nrf rfl
@[simp] theorem gsCons_ap (g : PD → Dn → Option Dn) (gs : List PD → Dn → Option Dn) (d : PD) (ds : List PD) : gsCons g gs (d :: ds) ρ = optD (g d ρ) (gs ds) := nrf rfl
@[simp] theorem sFor_ap (it : M (List PD)) (g : PD → Dn → Option Dn) (body : SM) : sFor it g body ρ = (it ρ).thnS fun ds ρ => forL g body ds ρ := nrf rfl
@[simp] theorem iSeqM_ap (f : M Rv) : iSeqM f ρ = (f ρ).thn fun r ρ => (frz r ρ).thn fun d ρ => itemsOf d ρ := nrf rfl
@[simp] theorem itemsOf_l (ds : List PD) : itemsOf (.list ds) ρ = .ok ds ρ := nrf rfl
@[simp] theorem itemsOf_t (ds : List PD) : itemsOf (.tuple ds) ρ = .ok ds ρ := nrf rfl
/-! a def's body -/
@[simp] theorem startD_ap (n : Nat) (ms : List Bool) (ds : List PD) : startD n ms ds = argD ms ds ++ List.replicate (n - ms.length) none := nrf rfl
@[simp] theorem argD_cons (m : Bool) (ms : List Bool) (d : PD) (ds : List PD) : argD (m :: ms) (d :: ds) = slOf m d :: argD ms ds := nrf rfl
@[simp] theorem argD_nil (ds : List PD) : argD [] ds = [] := nrf rfl
@[simp] theorem slOf_t (d : PD) : slOf true d = some (.own true d) := nrf rfl
@[simp] theorem slOf_f (d : PD) : slOf false d = some (.imm d) := nrf rfl
def outO (o : Option (Option Sl)) (ds : Option (List PD)) : Option (List PD) := match o with | some (some (.own true d)) => ds.map (d :: ·) | _ => none
@[simp] theorem outO_own (d : PD) (ds : List PD) : outO (some (some (.own true d))) (some ds) = some (d :: ds) := nrf rfl
@[simp] theorem outs_nil (i : Nat) : outsAt ρ i [] = some [] := nrf rfl
@[simp] theorem outs_f (i : Nat) (ms : List Bool) : outsAt ρ i (false :: ms) = outsAt ρ (i + 1) ms := nrf rfl
@[simp] theorem outs_t (i : Nat) (ms : List Bool) : outsAt ρ i (true :: ms) = outO ρ[i]? (outsAt ρ (i + 1) ms) := nrf rfl
def resO (o : Option (Option Sl)) : Option Rc := match o with | some (some (.imm d)) => some (.val d) | some (some (.own false d)) => some (.fresh d) | _ => none
@[simp] theorem resO_imm (d : PD) : resO (some (some (.imm d))) = some (.val d) := nrf rfl
@[simp] theorem resO_own (d : PD) : resO (some (some (.own false d))) = some (.fresh d) := nrf rfl
@[simp] theorem res_val (d : PD) : resOf ρ (.val d) = some (.val d) := nrf rfl
@[simp] theorem res_fresh (d : PD) : resOf ρ (.fresh d) = some (.fresh d) := nrf rfl
@[simp] theorem res_slot (i : Nat) : resOf ρ (.slot i) = resO ρ[i]? := nrf rfl
def retF (o : Option (List PD)) (c : Option Rc) : FR := match o, c with | some o, some c => .ok c o | _, _ => .no
@[simp] theorem retF_some (o : List PD) (c : Rc) : retF (some o) (some c) = .ok c o := nrf rfl
def exF (e : Exn) (o : Option (List PD)) : FR := match o with | some o => .ex e o | none => .no
@[simp] theorem exF_some (e : Exn) (o : List PD) : exF e (some o) = .ex e o := nrf rfl
def endF (ms : List Bool) (o : Ou) : FR := match o with
  | .nx ρ => retF (outsAt ρ 0 ms) (some (.val .none))
  | .rt r ρ => retF (outsAt ρ 0 ms) (resOf ρ r)
  | .ex e ρ => exF e (outsAt ρ 0 ms)
  | _ => .no
@[simp] theorem endF_nx (ms : List Bool) : endF ms (.nx ρ) = retF (outsAt ρ 0 ms) (some (.val .none)) := nrf rfl
@[simp] theorem endF_rt (ms : List Bool) (r : Rv) : endF ms (.rt r ρ) = retF (outsAt ρ 0 ms) (resOf ρ r) := nrf rfl
@[simp] theorem endF_ex (ms : List Bool) (e : Exn) : endF ms (.ex e ρ) = exF e (outsAt ρ 0 ms) := nrf rfl
@[simp] theorem runF_ap (n : Nat) (ms : List Bool) (b : SM) (ds : List PD) : runF n ms b ds = endF ms (b (startD n ms ds)) := by
  refine nrf ?_
  unfold runF endF retF exF
  cases b (startD n ms ds) with
  | nx ρ => dsimp only; cases outsAt ρ 0 ms <;> rfl
  | rt r ρ => rfl
  | _ => rfl
@[simp] theorem calm_ok (c : Rc) (o : List PD) : (FR.ok c o).calm = .ok c o := nrf rfl
@[simp] theorem rv_val (d : PD) : (Rc.val d).rv = .val d := nrf rfl
@[simp] theorem rv_fresh (d : PD) : (Rc.fresh d).rv = .fresh d := nrf rfl
end
end DP
/-! PLB: comprehensions and loops, run. -/
namespace DP
open PySem L2
theorem back_wipe {ρ : Dn} : ∀ {vs : List Nat}, okW ρ vs = true → backD ρ (wipeD ρ vs) vs = ρ := by
  intro vs h
  apply List.ext_getElem?
  intro i
  by_cases hi : i ∈ vs
  · have hv := List.all_eq_true.mp h i hi
    cases e : ρ[i]? with
    | none => rw [e] at hv; cases hv
    | some o =>
      have hl : i < ρ.length := (List.getElem?_eq_some_iff.mp e).1
      rw [backD_in (by rw [wipeD_len]; exact hl) hi, e]
      rfl
  · rw [backD_out hi, wipeD_out hi]
/-- a comprehension whose tests and items leave the slots as they are -/
theorem eComp_run {it : M (List PD)} {g : PD → Dn → Option Dn} {vs : List Nat} {cond : M Bool} {elt : M Rv} {ρ ρ1 : Dn} {α : Type} {enc : α → PD} {xs : List α} (p : α → Bool) (f : α → PD)
    (hi : it ρ = .ok (xs.map enc) ρ1) (hw : okW ρ1 vs = true) (hz : xs.length ≤ 10000000)
    (h : ∀ x ∈ xs, ∃ ρ2 ρ3, g (enc x) (wipeD ρ1 vs) = some ρ2 ∧ cond ρ2 = .ok (p x) ρ3 ∧ (p x = false → wipeD ρ3 vs = wipeD ρ1 vs) ∧ (p x = true → ∃ ρ4, bnd elt frz ρ3 = .ok (f x) ρ4 ∧ wipeD ρ4 vs = wipeD ρ1 vs)) :
    eComp it g vs cond elt ρ = .ok (.fresh (.list ((xs.filter p).map f))) ρ1 := by
  have key : ∀ (ys : List α) (acc : List PD), (∀ y ∈ ys, y ∈ xs) → acc.length + ys.length ≤ 10000000 → compL g vs cond (bnd elt frz) (ys.map enc) acc (wipeD ρ1 vs) = .ok (acc ++ (ys.filter p).map f) (wipeD ρ1 vs) := by
    intro ys
    induction ys with
    | nil => intro acc _ _; simp [compL]
    | cons y ys ih =>
      intro acc hy hl
      simp only [List.length_cons] at hl
      obtain ⟨ρ2, ρ3, e1, e2, e3, e4⟩ := h y (hy y (List.mem_cons_self ..))
      simp only [List.map_cons, compL, e1, e2]
      cases hp : p y with
      | false =>
        simp only [e3 hp, List.filter_cons, hp]
        exact ih acc (fun z hz => hy z (List.mem_cons_of_mem _ hz)) (by omega)
      | true =>
        obtain ⟨ρ4, e5, e6⟩ := e4 hp
        have hs : smallL acc.length = true := by simp [smallL]; omega
        simp only [e5, hs, if_true, e6, List.filter_cons, hp, List.map_cons]
        rw [ih (acc ++ [f y]) (fun z hz => hy z (List.mem_cons_of_mem _ hz)) (by simp; omega)]
        simp
  unfold eComp
  rw [bnd_ap, hi]
  simp only [hw, if_true, thn_ok]
  rw [key xs [] (fun _ h => h) (by simpa using hz)]
  simp [back_wipe hw]
/-- what a loop asks of its body's end: P of the frame to go on with, Q of an end -/
def Ou.steps (o : Ou) (P : Dn → Prop) (Q : Ou → Prop) : Prop := match o with
  | .nx ρ2 => P ρ2
  | .ct ρ2 => P ρ2
  | .bk ρ2 => Q (.nx ρ2)
  | .no => False
  | o => Q o
section
variable {P : Dn → Prop} {Q : Ou → Prop} {ρ : Dn}
@[simp] theorem steps_nx : (Ou.nx ρ).steps P Q = P ρ := nrf rfl
@[simp] theorem steps_ct : (Ou.ct ρ).steps P Q = P ρ := nrf rfl
@[simp] theorem steps_bk : (Ou.bk ρ).steps P Q = Q (.nx ρ) := nrf rfl
@[simp] theorem steps_rt (r : Rv) : (Ou.rt r ρ).steps P Q = Q (.rt r ρ) := nrf rfl
@[simp] theorem steps_ex (r : Exn) : (Ou.ex r ρ).steps P Q = Q (.ex r ρ) := nrf rfl
end
/-- a loop by its invariant -/
theorem forL_inv {g : PD → Dn → Option Dn} {body : SM} {α : Type} {enc : α → PD} {Q : Ou → Prop} (I : List α → Dn → Prop) {xs : List α} {ρ : Dn} (h0 : I [] ρ)
    (hs : ∀ ys y zs ρ, xs = ys ++ y :: zs → I ys ρ → ∃ ρ1, g (enc y) ρ = some ρ1 ∧ (body ρ1).steps (I (ys ++ [y])) Q)
    (hn : ∀ ρ, I xs ρ → Q (.nx ρ)) : Q (forL g body (xs.map enc) ρ) := by
  have key : ∀ (zs ys : List α) (ρ : Dn), xs = ys ++ zs → I ys ρ → Q (forL g body (zs.map enc) ρ) := by
    intro zs
    induction zs with
    | nil => intro ys ρ e h; simp at e; subst e; exact hn ρ h
    | cons z zs ih =>
      intro ys ρ e h
      obtain ⟨ρ1, e1, e2⟩ := hs ys z zs ρ e h
      simp only [List.map_cons, forL, e1]
      have e' : xs = (ys ++ [z]) ++ zs := by simp [e]
      cases eb : body ρ1 <;> rw [eb] at e2 <;> simp only [Ou.steps] at e2 ⊢
      · exact ih _ _ e' e2
      · exact e2
      · exact e2
      · exact ih _ _ e' e2
      · exact e2
  exact key xs [] ρ rfl h0
/-- the same, where the loop is a fold -/
theorem forL_fold {g : PD → Dn → Option Dn} {body : SM} {α σ : Type} {enc : α → PD} (S : σ → Dn → Prop) (step : σ → α → σ) {xs : List α} {s : σ} {ρ : Dn} (h0 : S s ρ)
    (hs : ∀ t x ρ, x ∈ xs → S t ρ → ∃ ρ1 ρ2, g (enc x) ρ = some ρ1 ∧ (body ρ1 = .nx ρ2 ∨ body ρ1 = .ct ρ2) ∧ S (step t x) ρ2) : ∃ ρ', forL g body (xs.map enc) ρ = .nx ρ' ∧ S (xs.foldl step s) ρ' := by
  induction xs generalizing s ρ with
  | nil => exact ⟨ρ, rfl, h0⟩
  | cons x xs ih =>
    obtain ⟨ρ1, ρ2, e1, e2, h2⟩ := hs s x ρ (List.mem_cons_self ..) h0
    obtain ⟨ρ', e3, h3⟩ := ih h2 fun t y ρ hy => hs t y ρ (List.mem_cons_of_mem _ hy)
    refine ⟨ρ', ?_, h3⟩
    simp only [List.map_cons, forL, e1]
    rcases e2 with e2 | e2 <;> rw [e2] <;> exact e3
/-! sums, marks -/
abbrev Sm := List (Int × Int) × Int
def dTerm (t : Int × Int) : PD := .tuple [.int t.1, .int t.2]
def dSum (s : Sm) : PD := .tuple [.tuple (s.1.map dTerm), .int s.2]
def dInts (ks : List Int) : PD := .list (ks.map .int)
def dKn (ks : List Int) : PD := .dict (ks.map fun k => (.int k, .bool true))
theorem look_kn (k : Int) : ∀ ks : List Int, look (.inl k) (ks.map fun k => ((.int k, .bool true) : PD × PD)) = if k ∈ ks then some (.bool true) else none
  | [] => rfl
  | x :: ks => by
    simp only [List.map_cons, look, keyIsD, look_kn k ks, List.mem_cons]
    by_cases h : x = k
    · simp [h]
    · have h' : ¬ k = x := fun e => h e.symm
      simp [h, h']
theorem intsOf_map : ∀ ks : List Int, intsOf (ks.map .int) = some ks
  | [] => rfl
  | k :: ks => by simp [intsOf, intsOf_map ks]
theorem intsOf_map' {α : Type} (f : α → Int) : ∀ ks : List α, intsOf (ks.map fun k => .int (f k)) = some (ks.map f)
  | [] => rfl
  | k :: ks => by simp [intsOf, intsOf_map' f ks]
end DP
namespace DP
open PySem L2
theorem eComp_all {it : M (List PD)} {g : PD → Dn → Option Dn} {vs : List Nat} {cond : M Bool} {elt : M Rv} {ρ ρ1 : Dn} {α : Type} {enc : α → PD} {xs : List α} (f : α → PD)
    (hi : it ρ = .ok (xs.map enc) ρ1) (hw : okW ρ1 vs = true) (hz : xs.length ≤ 10000000)
    (h : ∀ x ∈ xs, ∃ ρ2 ρ3, g (enc x) (wipeD ρ1 vs) = some ρ2 ∧ cond ρ2 = .ok true ρ3 ∧ ∃ ρ4, bnd elt frz ρ3 = .ok (f x) ρ4 ∧ wipeD ρ4 vs = wipeD ρ1 vs) :
    eComp it g vs cond elt ρ = .ok (.fresh (.list (xs.map f))) ρ1 := by
  have e : xs.filter (fun _ => true) = xs := by simp
  have := eComp_run (p := fun _ => true) f hi hw hz fun x hx => by
    obtain ⟨a, b, h1, h2, c, h3, h4⟩ := h x hx
    exact ⟨a, b, h1, h2, fun z => (Bool.noConfusion z), fun _ => ⟨c, h3, h4⟩⟩
  rw [e] at this
  exact this
end DP
namespace DP
open PySem L2
def immO (o : Option Sl) : Bool := match o with
  | none => true
  | some (.imm _) => true
  | _ => false
@[simp] theorem immO_none : immO none = true := nrf rfl
@[simp] theorem immO_imm (d : PD) : immO (some (.imm d)) = true := nrf rfl
def immOO (o : Option (Option Sl)) : Bool := match o with | some o => immO o | none => false
@[simp] theorem immOO_some (o : Option Sl) : immOO (some o) = immO o := nrf rfl
@[simp] theorem okW_nil (ρ : Dn) : okW ρ [] = true := nrf rfl
@[simp] theorem okW_cons (ρ : Dn) (v : Nat) (vs : List Nat) : okW ρ (v :: vs) = (immOO ρ[v]? && okW ρ vs) := by
  refine nrf ?_
  unfold okW
  rw [List.all_cons]
  congr 1
  cases ρ[v]? with
  | none => rfl
  | some o => cases o with
    | none => rfl
    | some s => cases s <;> rfl
@[simp] theorem wipeD_nil (ρ : Dn) : wipeD ρ [] = ρ := nrf rfl
@[simp] theorem wipeD_cons (ρ : Dn) (v : Nat) (vs : List Nat) : wipeD ρ (v :: vs) = (wipeD ρ vs).set v none := nrf rfl
theorem immO_free {o : Option Sl} (h : immO o = true) : freeO o = true := by
  cases o with
  | none => rfl
  | some s => cases s with
    | imm d => rfl
    | own b d => cases h
    | scr n => cases h
end DP
/-! PLC: calls, stores, loops over ranges. -/
namespace DP
open PySem L2
section
variable {ρ : Dn}
def callR (os : List Nat) (l k : Bool) (r : FR) (ρ : Dn) : Rs Rv := match r with
  | .ok c outs => if (cleanRc l k c && outs.all (cleanTop l k)) = true then .ok c.rv (setOuts os outs ρ) else .no
  | .ex e outs => if ((e.fs.map (·.2)).all (clean l k) && outs.all (cleanTop l k)) = true then .ex e (setOuts os outs ρ) else .no
  | .no => .no
@[simp] theorem callR_ok (os : List Nat) (l k : Bool) (c : Rc) (outs : List PD) : callR os l k (.ok c outs) ρ = if (cleanRc l k c && outs.all (cleanTop l k)) = true then .ok c.rv (setOuts os outs ρ) else .no := nrf rfl
@[simp] theorem callR_ex (os : List Nat) (l k : Bool) (e : Exn) (outs : List PD) : callR os l k (.ex e outs) ρ = if ((e.fs.map (·.2)).all (clean l k) && outs.all (cleanTop l k)) = true then .ex e (setOuts os outs ρ) else .no := nrf rfl
def callO (m : List PD → FR) (o : Option (List PD × List Nat × List Nat)) (ρ : Dn) : Rs Rv := match o with
  | none => .no
  | some (ds, bs, os) => if okBO bs os = true then callR os (bs.any (isOwnL ρ)) (bs.any (isOwnD ρ)) (m ds) ρ else .no
@[simp] theorem callO_some (m : List PD → FR) (ds : List PD) (bs os : List Nat) : callO m (some (ds, bs, os)) ρ = if okBO bs os = true then callR os (bs.any (isOwnL ρ)) (bs.any (isOwnD ρ)) (m ds) ρ else .no := nrf rfl
@[simp] theorem eCall_ap (ms : List Bool) (m : List PD → FR) (fa : M (List Rv)) : eCall ms m fa ρ = (fa ρ).thn fun rs ρ => callO m (prep ms rs ρ) ρ := by
  refine nrf ?_
  unfold eCall
  rw [bnd_ap]
  congr 1
def prepV (d : PD) (o : Option (List PD × List Nat × List Nat)) : Option (List PD × List Nat × List Nat) := match o with
  | some (ds, bs, os) => some (d :: ds, bs, os)
  | none => none
@[simp] theorem prepV_some (d : PD) (ds : List PD) (bs os : List Nat) : prepV d (some (ds, bs, os)) = some (d :: ds, bs, os) := nrf rfl
def prepS (i : Nat) (w : Bool) (d : Option PD) (o : Option (List PD × List Nat × List Nat)) : Option (List PD × List Nat × List Nat) := match d, o with
  | some d, some (ds, bs, os) => some (d :: ds, (if w = true then i :: bs else bs), os)
  | _, _ => none
@[simp] theorem prepS_some (i : Nat) (w : Bool) (d : PD) (ds : List PD) (bs os : List Nat) : prepS i w (some d) (some (ds, bs, os)) = some (d :: ds, (if w = true then i :: bs else bs), os) := nrf rfl
def prepT (i : Nat) (d : Option (Option Sl)) (o : Option (List PD × List Nat × List Nat)) : Option (List PD × List Nat × List Nat) := match d, o with
  | some (some (.own _ d)), some (ds, bs, os) => if os.contains i = true then none else some (d :: ds, bs, i :: os)
  | _, _ => none
@[simp] theorem prepT_some (i : Nat) (b : Bool) (d : PD) (ds : List PD) (bs os : List Nat) : prepT i (some (some (.own b d))) (some (ds, bs, os)) = if os.contains i = true then none else some (d :: ds, bs, i :: os) := nrf rfl
@[simp] theorem prep_nil : prep [] [] ρ = some ([], [], []) := nrf rfl
@[simp] theorem prep_val (ms : List Bool) (d : PD) (rs : List Rv) : prep (false :: ms) (.val d :: rs) ρ = prepV d (prep ms rs ρ) := by
  refine nrf ?_
  rw [prep]; simp only [rd]; cases prep ms rs ρ <;> rfl
@[simp] theorem prep_fresh (ms : List Bool) (d : PD) (rs : List Rv) : prep (false :: ms) (.fresh d :: rs) ρ = prepV d (prep ms rs ρ) := by
  refine nrf ?_
  rw [prep]; simp only [rd]; cases prep ms rs ρ <;> rfl
@[simp] theorem prep_slot (ms : List Bool) (i : Nat) (rs : List Rv) : prep (false :: ms) (.slot i :: rs) ρ = prepS i (isOwn ρ i) (rd (.slot i) ρ) (prep ms rs ρ) := by
  refine nrf ?_
  rw [prep]
  cases rd (.slot i) ρ <;> cases prep ms rs ρ <;> rfl
@[simp] theorem prep_t (ms : List Bool) (i : Nat) (rs : List Rv) : prep (true :: ms) (.slot i :: rs) ρ = prepT i ρ[i]? (prep ms rs ρ) := by
  refine nrf ?_
  rw [prep]
  unfold prepT
  cases ρ[i]? with
  | none => rfl
  | some o => cases o with
    | none => rfl
    | some s => cases s <;> cases prep ms rs ρ <;> rfl
@[simp] theorem okBO_nil (bs : List Nat) : okBO bs [] = true := nrf rfl
@[simp] theorem okBO_cons (bs : List Nat) (i : Nat) (os : List Nat) : okBO bs (i :: os) = (!bs.contains i && okBO bs os) := nrf rfl
@[simp] theorem setOuts_nil (ds : List PD) : setOuts [] ds ρ = ρ := nrf rfl
@[simp] theorem setOuts_cons (i : Nat) (os : List Nat) (d : PD) (ds : List PD) : setOuts (i :: os) (d :: ds) ρ = setOuts os ds (setOwn ρ i d) := nrf rfl
def setO (i : Nat) (d : PD) (o : Option (Option Sl)) (ρ : Dn) : Dn := match o with | some (some (.own b _)) => ρ.set i (some (.own b d)) | _ => ρ
@[simp] theorem setO_own (i : Nat) (d e : PD) (b : Bool) : setO i d (some (some (.own b e))) ρ = ρ.set i (some (.own b d)) := nrf rfl
@[simp] theorem setOwn_ap (i : Nat) (d : PD) : setOwn ρ i d = setO i d ρ[i]? ρ := by
  refine nrf ?_
  unfold setOwn setO
  rfl
def ownO (o : Option (Option Sl)) : Bool := match o with | some (some (.own _ _)) => true | _ => false
@[simp] theorem ownO_own (b : Bool) (d : PD) : ownO (some (some (.own b d))) = true := nrf rfl
@[simp] theorem ownO_imm (d : PD) : ownO (some (some (.imm d))) = false := nrf rfl
def ownLO (o : Option (Option Sl)) : Bool := match o with | some (some (.own _ (.list _))) => true | _ => false
@[simp] theorem ownLO_l (b : Bool) (d : List PD) : ownLO (some (some (.own b (.list d)))) = true := nrf rfl
@[simp] theorem ownLO_d (b : Bool) (d : List (PD × PD)) : ownLO (some (some (.own b (.dict d)))) = false := nrf rfl
def ownDO (o : Option (Option Sl)) : Bool := match o with | some (some (.own _ (.dict _))) => true | _ => false
@[simp] theorem ownDO_l (b : Bool) (d : List PD) : ownDO (some (some (.own b (.list d)))) = false := nrf rfl
@[simp] theorem ownDO_d (b : Bool) (d : List (PD × PD)) : ownDO (some (some (.own b (.dict d)))) = true := nrf rfl
@[simp] theorem isOwn_ap (i : Nat) : isOwn ρ i = ownO ρ[i]? := nrf (by unfold isOwn ownO; rfl)
@[simp] theorem isOwnL_ap (i : Nat) : isOwnL ρ i = ownLO ρ[i]? := nrf (by unfold isOwnL ownLO; rfl)
@[simp] theorem isOwnD_ap (i : Nat) : isOwnD ρ i = ownDO ρ[i]? := nrf (by unfold isOwnD ownDO; rfl)
mutual
theorem clean_ff : ∀ d : PD, clean false false d = true
  | .list ds => by simp [clean, cleanAll_ff ds]
  | .tuple ds => by simp [clean, cleanAll_ff ds]
  | .dict ds => by simp [clean, cleanKV_ff ds]
  | .none => rfl
  | .bool _ => rfl
  | .int _ => rfl
  | .str _ => rfl
theorem cleanAll_ff : ∀ d : List PD, cleanAll false false d = true
  | [] => rfl
  | d :: ds => by simp [cleanAll, clean_ff d, cleanAll_ff ds]
theorem cleanKV_ff : ∀ d : List (PD × PD), cleanKV false false d = true
  | [] => rfl
  | (_, d) :: ds => by simp [cleanKV, clean_ff d, cleanKV_ff ds]
end
@[simp] theorem cleanff (d : PD) : clean false false d = true := clean_ff d
@[simp] theorem cleanAllff (d : List PD) : cleanAll false false d = true := cleanAll_ff d
@[simp] theorem cleanKVff (d : List (PD × PD)) : cleanKV false false d = true := cleanKV_ff d
@[simp] theorem cleanTopff (d : PD) : cleanTop false false d = true := by cases d <;> simp [cleanTop, cleanAll_ff, cleanKV_ff, clean_ff]
@[simp] theorem cleanRcff (c : Rc) : cleanRc false false c = true := by cases c <;> simp [cleanRc]
@[simp] theorem cleanRc_val (l k : Bool) (d : PD) : cleanRc l k (.val d) = clean l k d := nrf rfl
@[simp] theorem cleanRc_fresh (l k : Bool) (d : PD) : cleanRc l k (.fresh d) = cleanTop l k d := nrf rfl
@[simp] theorem clean_int (l k : Bool) (i : Int) : clean l k (.int i) = true := nrf rfl
@[simp] theorem clean_bool (l k : Bool) (i : Bool) : clean l k (.bool i) = true := nrf rfl
@[simp] theorem clean_str (l k : Bool) (i : Str) : clean l k (.str i) = true := nrf rfl
@[simp] theorem clean_none (l k : Bool) : clean l k .none = true := nrf rfl
@[simp] theorem clean_tup (l k : Bool) (ds : List PD) : clean l k (.tuple ds) = cleanAll l k ds := by simp [clean]
@[simp] theorem clean_lst (l k : Bool) (ds : List PD) : clean l k (.list ds) = (!l && cleanAll l k ds) := by simp [clean]
@[simp] theorem clean_dct (l k : Bool) (ds : List (PD × PD)) : clean l k (.dict ds) = (!k && cleanKV l k ds) := by simp [clean]
@[simp] theorem cleanTop_lst (l k : Bool) (ds : List PD) : cleanTop l k (.list ds) = cleanAll l k ds := by simp [cleanTop]
@[simp] theorem cleanTop_dct (l k : Bool) (ds : List (PD × PD)) : cleanTop l k (.dict ds) = cleanKV l k ds := by simp [cleanTop]
@[simp] theorem cleanAll_nil (l k : Bool) : cleanAll l k [] = true := nrf rfl
@[simp] theorem cleanAll_cons (l k : Bool) (d : PD) (ds : List PD) : cleanAll l k (d :: ds) = (clean l k d && cleanAll l k ds) := by simp [cleanAll]
theorem cleanAll_map {α : Type} {l k : Bool} (f : α → PD) (h : ∀ x, clean l k (f x) = true) : ∀ xs : List α, cleanAll l k (xs.map f) = true
  | [] => rfl
  | x :: xs => by simp [h x, cleanAll_map f h xs]
theorem cleanAll_mem {α : Type} {l k : Bool} (f : α → PD) : ∀ xs : List α, (∀ x ∈ xs, clean l k (f x) = true) → cleanAll l k (xs.map f) = true
  | [], _ => rfl
  | x :: xs, h => by simp [h x (List.mem_cons_self ..), cleanAll_mem f xs fun y hy => h y (List.mem_cons_of_mem _ hy)]
@[simp] theorem cleanAll_ints (l k : Bool) (xs : List Int) : cleanAll l k (xs.map .int) = true := cleanAll_map _ (fun _ => rfl) xs
/-! small -/
theorem smallL_of {n : Nat} (h : n ≤ 10000000) : smallL n = true := by simp [smallL, h]
@[simp] theorem smallL_ap (n : Nat) : smallL n = decide (n ≤ 10000000) := nrf rfl
/-! stores -/
@[simp] theorem sApp_ap (i : Nat) (f : M Rv) : sApp i f ρ = if isOwnLst ρ i = true then (f ρ).thnS (fun r ρ => (frz r ρ).thnS fun d ρ => appAt i d ρ) else .no := nrf rfl
@[simp] theorem isOwnLst_ap (i : Nat) : isOwnLst ρ i = ownLO ρ[i]? := nrf (by unfold isOwnLst ownLO; rfl)
def appO (i : Nat) (d : PD) (o : Option (Option Sl)) (ρ : Dn) : Ou := match o with | some (some (.own b (.list ds))) => if smallL ds.length = true then .nx (ρ.set i (some (.own b (.list (ds ++ [d]))))) else .no | _ => .no
@[simp] theorem appO_own (i : Nat) (d : PD) (b : Bool) (ds : List PD) : appO i d (some (some (.own b (.list ds)))) ρ = if smallL ds.length = true then .nx (ρ.set i (some (.own b (.list (ds ++ [d]))))) else .no := nrf rfl
@[simp] theorem appAt_ap (i : Nat) (d : PD) : appAt i d ρ = appO i d ρ[i]? ρ := nrf (by unfold appAt appO; rfl)
@[simp] theorem sPutIx_ap (i : Nat) (fk : M Rv) (d : PD) : sPutIx i fk d ρ = if isOwn ρ i = true then (fk ρ).thnS (fun r ρ => (rdM r ρ).thnS fun k ρ => putAt i d k ρ) else .no := nrf rfl
def putAO (i : Nat) (d k : PD) (o : Option (Option Sl)) (ρ : Dn) : Ou := match o with | some (some (.own b o)) => optS ((setIx o k d).map fun o' => ρ.set i (some (.own b o'))) | _ => .no
@[simp] theorem putAO_own (i : Nat) (d k o : PD) (b : Bool) : putAO i d k (some (some (.own b o))) ρ = optS ((setIx o k d).map fun o' => ρ.set i (some (.own b o'))) := nrf rfl
@[simp] theorem putAt_ap (i : Nat) (d k : PD) : putAt i d k ρ = putAO i d k ρ[i]? ρ := by
  refine nrf ?_
  unfold putAt putAO
  cases ρ[i]? with
  | none => rfl
  | some o => cases o with
    | none => rfl
    | some s => cases s with
      | own b o => dsimp only; cases setIx o k d <;> rfl
      | _ => rfl
@[simp] theorem sAsgG_ap (f : M Rv) (G : PD → SM) : sAsgG f G ρ = (f ρ).thnS fun r ρ => (frz r ρ).thnS fun d ρ => G d ρ := nrf rfl
@[simp] theorem sAsgG2_ap (f : M Rv) (G G2 : PD → SM) : sAsgG2 f G G2 ρ = (f ρ).thnS fun r ρ => (frz r ρ).thnS fun d ρ => (G d ρ).seq (G2 d) := nrf rfl
@[simp] theorem tgOf_ap (g : PD → Dn → Option Dn) (d : PD) : tgOf g d ρ = optS (g d ρ) := nrf (by unfold tgOf optS; rfl)
@[simp] theorem sPass_ap : sPass ρ = .nx ρ := nrf rfl
@[simp] theorem sBreak_ap : sBreak ρ = .bk ρ := nrf rfl
@[simp] theorem sCont_ap : sCont ρ = .ct ρ := nrf rfl
@[simp] theorem sRetN_ap : sRetN ρ = .rt (.val .none) ρ := nrf rfl
@[simp] theorem sExpr_ap (f : M Rv) : sExpr f ρ = (f ρ).thnS fun _ ρ => .nx ρ := nrf rfl
@[simp] theorem iRng1M_ap (f : M (List Rv)) : iRng1M f ρ = (f ρ).thn fun rs ρ => (rdsM rs ρ).thn fun ds ρ => rng1 ds ρ := nrf rfl
@[simp] theorem iRng2M_ap (f : M (List Rv)) : iRng2M f ρ = (f ρ).thn fun rs ρ => (rdsM rs ρ).thn fun ds ρ => rng2 ds ρ := nrf rfl
@[simp] theorem rng1_ap (j : Int) : rng1 [.int j] ρ = if in62 j = true then .ok (rngL 0 j.toNat) ρ else .no := by
  refine nrf ?_
  show bnd (chk (in62 j)) (fun _ => retM (rngL 0 j.toNat)) ρ = _
  rw [bnd_ap, chk_ap]
  cases in62 j <;> rfl
@[simp] theorem rng2_ap (i j : Int) : rng2 [.int i, .int j] ρ = if (in62 i && in62 j) = true then .ok (rngL i (j - i).toNat) ρ else .no := by
  refine nrf ?_
  show bnd (chk (in62 i && in62 j)) (fun _ => retM (rngL i (j - i).toNat)) ρ = _
  rw [bnd_ap, chk_ap]
  cases (in62 i && in62 j) <;> rfl
theorem in62_of {i : Int} (h0 : 0 ≤ i) (h : i ≤ 1000000000) : in62 i = true := by unfold in62; simp; omega
@[simp] theorem gIx_list (ds : List PD) (i : Int) : gIx (.list ds) (.int i) = (atI ds i).map .val := nrf rfl
@[simp] theorem gIx_tuple (ds : List PD) (i : Int) : gIx (.tuple ds) (.int i) = (atI ds i).map .val := nrf rfl
@[simp] theorem gSub_ap (i j : Int) : DP.gSub (.int i) (.int j) = some (.val (.int (i - j))) := nrf rfl
@[simp] theorem gAdd_int (i j : Int) : gAdd (.int i) (.int j) = some (.val (.int (i + j))) := nrf rfl
@[simp] theorem gLt_ap (i j : Int) : gLt (.int i) (.int j) = some (.val (.bool (decide (i < j)))) := nrf rfl
@[simp] theorem gLe_ap (i j : Int) : gLe (.int i) (.int j) = some (.val (.bool (decide (i ≤ j)))) := nrf rfl
@[simp] theorem gGt_ap (i j : Int) : gGt (.int i) (.int j) = some (.val (.bool (decide (j < i)))) := nrf rfl
@[simp] theorem gGe_ap (i j : Int) : gGe (.int i) (.int j) = some (.val (.bool (decide (j ≤ i)))) := nrf rfl
@[simp] theorem gNeg_ap (i : Int) : gNeg (.int i) = some (.val (.int (-i))) := nrf rfl
@[simp] theorem gSum_ap (ds : List PD) : gSum [.list ds] = (intsOf ds).map fun ns => .val (.int ns.sum) := nrf rfl
@[simp] theorem intsOf_ints (ks : List Int) : intsOf (ks.map .int) = some ks := intsOf_map ks
theorem gMod_ap {i j : Int} (h : 0 < j) : gMod (.int i) (.int j) = some (.val (.int (i % j))) := by simp [gMod, gI, h]
theorem gFdiv_ap {i j : Int} (h : 0 < j) (h2 : j < 2 ^ 200) : gFdiv (.int i) (.int j) = some (.val (.int (i / j))) := by simp [gFdiv, gI, divOk]; omega
end
end DP
namespace DP
open PySem L2
theorem gMul_l {i j : Int} (h : -18446744073709551616 < i ∧ i < 18446744073709551616) : gMul (.int i) (.int j) = some (.val (.int (i * j))) := by
  simp only [gMul]
  rw [if_pos]
  unfold mulOk
  rw [Bool.or_eq_true]
  exact .inl (decide_eq_true ⟨by omega, by omega⟩)
theorem gMul_r {i j : Int} (h : -18446744073709551616 < j ∧ j < 18446744073709551616) : gMul (.int i) (.int j) = some (.val (.int (i * j))) := by
  simp only [gMul]
  rw [if_pos]
  unfold mulOk
  rw [Bool.or_eq_true]
  exact .inr (decide_eq_true ⟨by omega, by omega⟩)
theorem gPow_ap {i j : Int} (h : 0 ≤ j ∧ j ≤ 1000000) (h2 : i.natAbs < 18446744073709551616) : gPow (.int i) (.int j) = some (.val (.int (i ^ j.toNat))) := by
  have e : powOk i j = true := by
    unfold powOk
    rw [Bool.and_eq_true]
    exact ⟨decide_eq_true h, decide_eq_true (by omega)⟩
  simp only [gPow, gI, e, if_true]
@[simp] theorem gAbs_ap (i : Int) : gAbs [.int i] = some (.val (.int (if i < 0 then -i else i))) := nrf rfl
@[simp] theorem gInt_bool (k : Bool) : gInt [.bool k] = some (.val (.int (if k then 1 else 0))) := nrf rfl
@[simp] theorem gInt_int (k : Int) : gInt [.int k] = some (.val (.int k)) := nrf rfl
@[simp] theorem gMax2_ap (i j : Int) : gMax2 [.int i, .int j] = some (.val (.int (max i j))) := by
  refine nrf ?_
  simp only [gMax2, Option.some.injEq, Rc.val.injEq, PyData.int.injEq]
  split <;> omega
@[simp] theorem gMin2_ap (i j : Int) : gMin2 [.int i, .int j] = some (.val (.int (min i j))) := by
  refine nrf ?_
  simp only [gMin2, Option.some.injEq, Rc.val.injEq, PyData.int.injEq]
  split <;> omega
@[simp] theorem gTuple_l (ds : List PD) : gTuple [.list ds] = some (.val (.tuple ds)) := nrf rfl
@[simp] theorem gTuple_t (ds : List PD) : gTuple [.tuple ds] = some (.val (.tuple ds)) := nrf rfl
@[simp] theorem gList_l (ds : List PD) : gList [.list ds] = some (.fresh (.list ds)) := nrf rfl
@[simp] theorem gList_t (ds : List PD) : gList [.tuple ds] = some (.fresh (.list ds)) := nrf rfl
@[simp] theorem gLen_l (ds : List PD) : gLen [.list ds] = some (.val (.int ds.length)) := nrf rfl
@[simp] theorem gLen_t (ds : List PD) : gLen [.tuple ds] = some (.val (.int ds.length)) := nrf rfl
@[simp] theorem setIx_list (ds : List PD) (i : Int) (v : PD) : setIx (.list ds) (.int i) v = (ixN ds.length i).map fun j => .list (ds.set j v) := nrf rfl
end DP
/-! PLD: facts of data. -/
namespace DP
open PySem L2
/-! shape -/
theorem canAll_map {α : Type} {f : α → PD} : ∀ {xs : List α}, (∀ x ∈ xs, (f x).canLay0 = true) → PyData.canLayAll0 (xs.map f) = true
  | [], _ => by simp [PyData.canLayAll0]
  | x :: xs, h => by simp [PyData.canLayAll0, h x (List.mem_cons_self ..), canAll_map (xs := xs) fun y hy => h y (List.mem_cons_of_mem _ hy)]
theorem depthAll_map {α : Type} {f : α → PD} {n : Nat} : ∀ {xs : List α}, (∀ x ∈ xs, (f x).depth ≤ n) → PyData.depthAll (xs.map f) ≤ n
  | [], _ => by simp [PyData.depthAll]
  | x :: xs, h => by
    have h1 := h x (List.mem_cons_self ..)
    have h2 := depthAll_map (xs := xs) fun y hy => h y (List.mem_cons_of_mem _ hy)
    simp only [List.map_cons, PyData.depthAll]
    omega
/-- lays, at most n deep -/
def ShD (n : Nat) (d : PD) : Prop := d.canLay0 = true ∧ d.depth ≤ n
theorem ShD.shaped {n : Nat} {d : PD} (h : ShD n d) (hn : n ≤ 64 := by decide) : SeqAt.shaped d = true := by
  unfold SeqAt.shaped
  rw [h.1]
  simp
  have := h.2
  omega
theorem ShD.mono {n m : Nat} {d : PD} (h : ShD n d) (hn : n ≤ m) : ShD m d := ⟨h.1, Nat.le_trans h.2 hn⟩
theorem shInt (n : Nat) (i : Int) : ShD n (.int i) := ⟨by simp [PyData.canLay0], by simp [PyData.depth]⟩
theorem shBool (n : Nat) (i : Bool) : ShD n (.bool i) := ⟨by simp [PyData.canLay0], by simp [PyData.depth]⟩
theorem shNone (n : Nat) : ShD n .none := ⟨by simp [PyData.canLay0], by simp [PyData.depth]⟩
theorem shList {α : Type} {n : Nat} {f : α → PD} {xs : List α} (h : ∀ x ∈ xs, ShD n (f x)) : ShD (n + 1) (.list (xs.map f)) := ⟨by simp [PyData.canLay0]; exact canAll_map fun x hx => (h x hx).1, by
  simp [PyData.depth]; exact depthAll_map fun x hx => (h x hx).2⟩
theorem shTup {α : Type} {n : Nat} {f : α → PD} {xs : List α} (h : ∀ x ∈ xs, ShD n (f x)) : ShD (n + 1) (.tuple (xs.map f)) := ⟨by simp [PyData.canLay0]; exact canAll_map fun x hx => (h x hx).1, by
  simp [PyData.depth]; exact depthAll_map fun x hx => (h x hx).2⟩
theorem shTup2 {n : Nat} {a b : PD} (ha : ShD n a) (hb : ShD n b) : ShD (n + 1) (.tuple [a, b]) := ⟨by simp [PyData.canLay0, PyData.canLayAll0, ha.1, hb.1], by
  have := ha.2; have := hb.2; simp [PyData.depth, PyData.depthAll]; omega⟩
theorem shTup3 {n : Nat} {a b c : PD} (ha : ShD n a) (hb : ShD n b) (hc : ShD n c) : ShD (n + 1) (.tuple [a, b, c]) := ⟨by simp [PyData.canLay0, PyData.canLayAll0, ha.1, hb.1, hc.1], by
  have := ha.2; have := hb.2; have := hc.2; simp [PyData.depth, PyData.depthAll]; omega⟩
theorem shNil (n : Nat) : ShD (n + 1) (.list []) := ⟨by simp [PyData.canLay0, PyData.canLayAll0], by simp [PyData.depth, PyData.depthAll]⟩
theorem shNilT (n : Nat) : ShD (n + 1) (.tuple []) := ⟨by simp [PyData.canLay0, PyData.canLayAll0], by simp [PyData.depth, PyData.depthAll]⟩
theorem shStr (n : Nat) {x : Str} (h : PyData.strOk x = true) : ShD n (.str x) := ⟨by simp [PyData.canLay0, h], by simp [PyData.depth]⟩
theorem sh_ints (ks : List Int) : ShD 1 (dInts ks) := shList (n := 0) fun _ _ => shInt 0 _
theorem sh_term (t : Int × Int) : ShD 1 (dTerm t) := shTup2 (n := 0) (shInt 0 _) (shInt 0 _)
theorem sh_sum (s : Sm) : ShD 3 (dSum s) := shTup2 (n := 2) (shTup (n := 1) fun t _ => sh_term t) (shInt 2 _)
/-! equality -/
theorem gEq_of {neg : Bool} {d e : PD} {n m : Nat} (hd : ShD n d) (he : ShD m e) (hn : n ≤ 64 := by decide) (hm : m ≤ 64 := by decide) : gEq neg d e = some (.val (.bool (if neg = true then !PyData.eqv d e else PyData.eqv d e))) := by
  unfold gEq
  rw [hd.shaped hn, he.shaped hm]
  rfl
@[simp] theorem gEq_int (neg : Bool) (i j : Int) : gEq neg (.int i) (.int j) = some (.val (.bool (if neg = true then !(i == j) else i == j))) := by
  rw [gEq_of (shInt 0 i) (shInt 0 j)]; simp [PyData.eqv]
@[simp] theorem gEq_bool (neg : Bool) (i j : Bool) : gEq neg (.bool i) (.bool j) = some (.val (.bool (if neg = true then !(i == j) else i == j))) := by
  rw [gEq_of (shBool 0 i) (shBool 0 j)]; simp [PyData.eqv]
theorem eqvAll_map {α β : Type} {f : α → PD} {g : β → PD} {e : α → β → Bool} (h : ∀ x y, PyData.eqv (f x) (g y) = e x y) : ∀ (xs : List α) (ys : List β), PyData.eqvAll (xs.map f) (ys.map g) = ((xs.length == ys.length) && (xs.zip ys).all fun p => e p.1 p.2)
  | [], [] => by simp [PyData.eqvAll]
  | [], _ :: _ => by simp [PyData.eqvAll]
  | _ :: _, [] => by simp [PyData.eqvAll]
  | x :: xs, y :: ys => by
    simp only [List.map_cons, PyData.eqvAll, h, eqvAll_map h xs ys, List.length_cons, List.zip_cons_cons, List.all_cons]
    cases e x y <;> simp
theorem eqvAll_inj {α : Type} [DecidableEq α] {f : α → PD} (h : ∀ x y, PyData.eqv (f x) (f y) = decide (x = y)) : ∀ xs ys : List α, PyData.eqvAll (xs.map f) (ys.map f) = decide (xs = ys)
  | [], [] => by simp [PyData.eqvAll]
  | [], _ :: _ => by simp [PyData.eqvAll]
  | _ :: _, [] => by simp [PyData.eqvAll]
  | x :: xs, y :: ys => by
    simp only [List.map_cons, PyData.eqvAll, h, eqvAll_inj h xs ys]
    by_cases a : x = y <;> by_cases b : xs = ys <;> simp [a, b]
theorem eqv_int (i j : Int) : PyData.eqv (.int i) (.int j) = decide (i = j) := by simp only [PyData.eqv]; by_cases h : i = j <;> simp [h]
theorem eqv_bool (i j : Bool) : PyData.eqv (.bool i) (.bool j) = decide (i = j) := by simp only [PyData.eqv]; cases i <;> cases j <;> rfl
theorem eqv_ints (xs ys : List Int) : PyData.eqv (dInts xs) (dInts ys) = decide (xs = ys) := by simp only [dInts, PyData.eqv]; exact eqvAll_inj eqv_int xs ys
theorem eqv_term (s t : Int × Int) : PyData.eqv (dTerm s) (dTerm t) = decide (s = t) := by
  obtain ⟨a, b⟩ := s
  obtain ⟨c, d⟩ := t
  simp only [dTerm, PyData.eqv, PyData.eqvAll, Prod.mk.injEq]
  by_cases h : a = c <;> by_cases h2 : b = d <;> simp [h, h2]
theorem eqv_nil {ds : List PD} : PyData.eqv (.list ds) (.list []) = ds.isEmpty := by cases ds <;> simp [PyData.eqv, PyData.eqvAll]
/-- xs == [], xs != [] -/
theorem gEq_nil {neg : Bool} {ds : List PD} {n : Nat} (h : ShD n (.list ds)) (hn : n ≤ 64 := by decide) : gEq neg (.list ds) (.list []) = some (.val (.bool (if neg = true then !ds.isEmpty else ds.isEmpty))) := by
  rw [gEq_of h (shNil 0) hn, eqv_nil]
/-! strings -/
theorem gEq_str {neg : Bool} {x y : Str} (hx : PyData.strOk x = true) (hy : PyData.strOk y = true) : gEq neg (.str x) (.str y) = some (.val (.bool (if neg = true then !(x == y) else x == y))) := by
  rw [gEq_of (shStr 0 hx) (shStr 0 hy)]; simp [PyData.eqv]
/-! in -/
@[simp] theorem gIn_kn (neg : Bool) (k : Int) (ks : List Int) : gIn neg (.int k) (dKn ks) = some (.val (.bool (if neg = true then !decide (k ∈ ks) else decide (k ∈ ks)))) := by
  simp only [dKn, gIn, keyD, look_kn]
  by_cases h : k ∈ ks <;> simp [h]
theorem any_eqv_ints (k : Int) (ks : List Int) : ((ks.map PyData.int).any fun z => PyData.eqv z (.int k)) = decide (k ∈ ks) := by
  induction ks with
  | nil => simp
  | cons x xs ih =>
    simp only [List.map_cons, List.any_cons, ih, eqv_int, List.mem_cons]
    by_cases h : x = k
    · simp [h]
    · have h' : ¬ k = x := fun e => h e.symm
      simp [h, h']
@[simp] theorem gIn_ints (neg : Bool) (k : Int) (ks : List Int) : gIn neg (.int k) (dInts ks) = some (.val (.bool (if neg = true then !decide (k ∈ ks) else decide (k ∈ ks)))) := by
  simp only [dInts, gIn]
  rw [(shInt 0 k).shaped, show SeqAt.shaped (.list (ks.map PyData.int)) = true from (sh_ints ks).shaped, any_eqv_ints]
  rfl
/-! the pool -/
section
variable {ρ : Dn}
def lenO (o : Option (Option Sl)) (ρ : Dn) : Rs Rv := match o with | some (some (.scr ns)) => .ok (.val (.int ns.length)) ρ | _ => .no
@[simp] theorem lenO_scr (ns : List Int) : lenO (some (some (.scr ns))) ρ = .ok (.val (.int ns.length)) ρ := nrf rfl
@[simp] theorem eLenScr_ap (i : Nat) : eLenScr i ρ = lenO ρ[i]? ρ := nrf (by unfold eLenScr lenO; rfl)
def slO (hi : Int) (o : Option (Option Sl)) (ρ : Dn) : Rs Rv := match o with | some (some (.scr ns)) => .ok (.fresh (.list (cutD (ns.map .int) none (some hi)))) ρ | _ => .no
@[simp] theorem slO_scr (hi : Int) (ns : List Int) : slO hi (some (some (.scr ns))) ρ = .ok (.fresh (.list (cutD (ns.map .int) none (some hi)))) ρ := nrf rfl
@[simp] theorem eSlScr_ap (i : Nat) (hi : Int) : eSlScr i hi ρ = slO hi ρ[i]? ρ := nrf (by unfold eSlScr slO; rfl)
def scrO (o : Option (Option Sl)) : Bool := match o with | some (some (.scr _)) => true | _ => false
@[simp] theorem scrO_scr (ns : List Int) : scrO (some (some (.scr ns))) = true := nrf rfl
@[simp] theorem isScr_ap (i : Nat) : isScr ρ i = scrO ρ[i]? := nrf (by unfold isScr scrO; rfl)
def ixO (o : Option (Option Sl)) (d : PD) (ρ : Dn) : Rs Rv := match o, d with | some (some (.scr ns)), .int k => optR ((atI ns k).map fun x => Rv.val (.int x)) ρ | _, _ => .no
@[simp] theorem ixO_scr (ns : List Int) (k : Int) : ixO (some (some (.scr ns))) (.int k) ρ = optR ((atI ns k).map fun x => Rv.val (.int x)) ρ := nrf rfl
@[simp] theorem eIxScr_ap (i : Nat) (f : M Rv) : eIxScr' i f ρ = if isScr ρ i = true then (f ρ).thn (fun r ρ => (rdM r ρ).thn fun d ρ => ixO ρ[i]? d ρ) else .no := by
  refine nrf ?_
  unfold eIxScr' eIxScr
  rw [bnd_ap]
  congr 1
  congr 1
  funext r ρ1
  rw [bnd_ap]
  congr 1
  funext d ρ2
  unfold ixO
  cases ρ2[i]? with
  | none => rfl
  | some o => cases o with
    | none => rfl
    | some s => cases s with
      | scr ns => cases d with
        | int k => dsimp only; cases atI ns k <;> rfl
        | _ => rfl
      | _ => rfl
def poolO (o : Option (Option Sl)) (d : PD) (ρ : Dn) : Rs Rv := match o, d with | some (some (.scr ns)), .int k => if ns.length ≤ 63 ∧ 0 ≤ k ∧ k < 64 then .ok (.fresh (poolD ns k)) ρ else .no | _, _ => .no
@[simp] theorem poolO_scr (ns : List Int) (k : Int) : poolO (some (some (.scr ns))) (.int k) ρ = if ns.length ≤ 63 ∧ 0 ≤ k ∧ k < 64 then .ok (.fresh (poolD ns k)) ρ else .no := nrf rfl
@[simp] theorem ePool_ap (i : Nat) (f : M Rv) : ePool i f ρ = if isScr ρ i = true then (f ρ).thn (fun r ρ => (rdM r ρ).thn fun d ρ => poolO ρ[i]? d ρ) else .no := by
  refine nrf ?_
  unfold ePool
  rw [bnd_ap]
  congr 1
end
theorem cut63 (ns : List Int) : cutD (ns.map PyData.int) none (some 63) = (ns.take 63).map PyData.int := by
  unfold cutD
  rw [show (some (63 : Int)) = some ((63 : Nat) : Int) from rfl, HT.sIx_nat, HT.sIx_none]
  simp only [List.drop_zero, Nat.sub_zero, List.length_map, List.map_take]
  rcases Nat.le_total 63 ns.length with h | h
  · rw [Nat.min_eq_left h]
  · rw [Nat.min_eq_right h, List.take_of_length_le (by simp), List.take_of_length_le (by simp; omega)]
@[simp] theorem intsOf_take (n : Nat) (ns : List Int) : intsOf (List.take n (ns.map PyData.int)) = some (ns.take n) := by rw [← List.map_take, intsOf_ints]
def PoolOk (p : PD) : Prop := ∃ g x : Int, p = dInts [g, x] ∧ 0 ≤ g ∧ 0 ≤ x ∧ x < 2147483647
theorem poolOk_of {ns : List Int} {k : Int} : PoolOk (poolD ns k) := by
  refine ⟨_, _, rfl, ?_, ?_, ?_⟩
  · unfold poolOf
    dsimp only
    refine Int.mul_nonneg ?_ ?_
    · split <;> omega
    · split <;> omega
  · unfold poolOf
    exact Int.emod_nonneg _ (by decide)
  · unfold poolOf
    exact Int.lt_trans (Int.emod_lt_of_pos _ (by decide)) (by decide)
@[simp] theorem atI_two0 {α : Type} (a b : α) : atI [a, b] 0 = some a := nrf rfl
@[simp] theorem atI_two1 {α : Type} (a b : α) : atI [a, b] 1 = some b := nrf rfl
/-- sums of the pool's lists are read -/
theorem atI_some {α : Type} {xs : List α} {i : Int} (h0 : 0 ≤ i) (h : i < xs.length) : ∃ x, atI xs i = some x ∧ x ∈ xs ∧ xs[i.toNat]? = some x := by
  have hl : i.toNat < xs.length := by omega
  refine ⟨xs[i.toNat], ?_, List.getElem_mem hl, List.getElem?_eq_getElem hl⟩
  unfold atI ixN
  simp [h0, h, List.getElem?_eq_getElem hl]
end DP
/-! PLE: fillings. -/
namespace DP
open PySem L2
def dFill (f : List Bool) : PD := .tuple (f.map .bool)
def fillL : Nat → List (List Bool)
  | 0 => [[]]
  | n + 1 => (fillL n).map (· ++ [false]) ++ (fillL n).map (· ++ [true])
theorem fillL_len : ∀ n, (fillL n).length = 2 ^ n
  | 0 => rfl
  | n + 1 => by simp [fillL, fillL_len n, Nat.pow_succ]; omega
theorem mem_fillL : ∀ {n : Nat} {f : List Bool}, f ∈ fillL n ↔ f.length = n
  | 0, f => by simp [fillL]
  | n + 1, f => by
    simp only [fillL, List.mem_append, List.mem_map, mem_fillL (n := n)]
    constructor
    · rintro (⟨g, h, rfl⟩ | ⟨g, h, rfl⟩) <;> simp [h]
    · intro h
      have e : f ≠ [] := by intro e; simp [e] at h
      have e2 := List.dropLast_concat_getLast e
      have hl : f.dropLast.length = n := by simp [h]
      cases hb : f.getLast e with
      | false => rw [hb] at e2; exact .inl ⟨_, hl, e2⟩
      | true => rw [hb] at e2; exact .inr ⟨_, hl, e2⟩
theorem fillL_nodup : ∀ n, (fillL n).Nodup
  | 0 => by simp [fillL]
  | n + 1 => by
    rw [fillL, List.nodup_append]
    refine ⟨?_, ?_, ?_⟩
    · exact List.Pairwise.map _ (fun a b h e => h (List.append_cancel_right e)) (fillL_nodup n)
    · exact List.Pairwise.map _ (fun a b h e => h (List.append_cancel_right e)) (fillL_nodup n)
    · intro a ha b hb e
      obtain ⟨x, _, rfl⟩ := List.mem_map.mp ha
      obtain ⟨y, _, rfl⟩ := List.mem_map.mp hb
      have := congrArg List.getLast? e
      simp at this
theorem alikeAll_bool : ∀ a b : List Bool, PySem.W.alikeAll (a.map PyData.bool) (b.map PyData.bool) = true
  | [], _ => by simp [PySem.W.alikeAll]
  | _ :: _, [] => by simp [PySem.W.alikeAll]
  | x :: a, y :: b => by simp [PySem.W.alikeAll, PySem.W.alike, alikeAll_bool a b]
theorem alike_fill (a b : List Bool) : PySem.W.alike (dFill a) (dFill b) = true := by simp [dFill, PySem.W.alike, alikeAll_bool]
theorem alikeL_map {α : Type} {f : α → PD} : ∀ {xs : List α}, (∀ x ∈ xs, ∀ y ∈ xs, PySem.W.alike (f x) (f y) = true) → alikeL (xs.map f) = true
  | [], _ => rfl
  | x :: xs, h => by
    simp only [List.map_cons, alikeL, Bool.and_eq_true, List.all_eq_true, List.mem_map, forall_exists_index, and_imp, forall_apply_eq_imp_iff₂]
    exact ⟨fun y hy => h x (List.mem_cons_self ..) y (List.mem_cons_of_mem _ hy), alikeL_map fun y hy z hz => h y (List.mem_cons_of_mem _ hy) z (List.mem_cons_of_mem _ hz)⟩
theorem sortOk_map {α : Type} {f : α → PD} {xs : List α} {n : Nat} (h : ∀ x ∈ xs, ∀ y ∈ xs, PySem.W.alike (f x) (f y) = true) (ht : (∀ x ∈ xs, tupX (f x) = true) ∨ ∀ x ∈ xs, notTN (f x) = true) (hs : ∀ x ∈ xs, ShD n (f x)) (hn : n ≤ 60 := by decide) : sortOk (xs.map f) = true := by
  unfold sortOk
  rw [alikeL_map h]
  have h2 : selfL (xs.map f) = true := by
    simp only [selfL, List.all_eq_true, List.mem_map, forall_exists_index, and_imp, forall_apply_eq_imp_iff₂]
    exact fun x hx => h x hx x hx
  have h3 : ((xs.map f).all tupX || (xs.map f).all notTN) = true := by
    rw [Bool.or_eq_true]
    rcases ht with z | z
    · exact .inl (by simp only [List.all_eq_true, List.mem_map, forall_exists_index, and_imp, forall_apply_eq_imp_iff₂]; exact z)
    · exact .inr (by simp only [List.all_eq_true, List.mem_map, forall_exists_index, and_imp, forall_apply_eq_imp_iff₂]; exact z)
  rw [h2, h3]
  simp only [Bool.and_true, Bool.true_and, List.all_eq_true, List.mem_map, forall_exists_index, and_imp, forall_apply_eq_imp_iff₂, Bool.and_eq_true, decide_eq_true_eq]
  intro x hx
  have := hs x hx
  exact ⟨this.1, by have := this.2; omega⟩
theorem sh_fill (f : List Bool) : ShD 1 (dFill f) := shTup (n := 0) fun _ _ => shBool 0 _
/-- sorted(xs), the data of one kind -/
theorem gSorted_map {α : Type} {f : α → PD} {xs : List α} (h : sortOk (xs.map f) = true) : ∃ ys : List α, gSorted [.list (xs.map f)] = some (.fresh (.list (ys.map f))) ∧ ys = xs.mergeSort (fun a b => leD (f a) (f b)) ∧ ys.Perm xs := by
  refine ⟨xs.mergeSort (fun a b => leD (f a) (f b)), ?_, rfl, List.mergeSort_perm _ _⟩
  simp only [gSorted, h, if_true]
  rw [List.map_mergeSort (s := leD) (fun a _ b _ => rfl)]
@[simp] theorem gAdd_list (xs ys : List PD) : gAdd (.list xs) (.list ys) = if smallL (xs.length + ys.length) = true then some (.fresh (.list (xs ++ ys))) else none := nrf rfl
@[simp] theorem gAdd_tuple (xs ys : List PD) : gAdd (.tuple xs) (.tuple ys) = if smallL (xs.length + ys.length) = true then some (.val (.tuple (xs ++ ys))) else none := nrf rfl
/-- so -/
def isSo (m : Int) (f : List Bool) : Bool := f.getD (m.natAbs - 1) false == decide (0 < m)
def okM (n : Nat) (m : Int) : Prop := 1 ≤ m.natAbs ∧ m.natAbs ≤ n
theorem isSo_neg {n : Nat} {m : Int} {f : List Bool} (h : okM n m) (hf : f.length = n) : isSo (-m) f = !isSo m f := by
  unfold isSo
  rw [Int.natAbs_neg]
  have h1 := h.1
  have e : decide (0 < -m) = !decide (0 < m) := by by_cases z : 0 < m <;> simp [z] <;> omega
  rw [e]
  cases f.getD (m.natAbs - 1) false <;> cases decide (0 < m) <;> rfl
def weightL (s : Sm) (f : List Bool) : Int := ((s.1.filter fun t => isSo t.2 f).map (·.1)).sum
def heldL (s : Sm) (f : List Bool) : Bool := decide (s.2 ≤ weightL s f)
/-- a sum of the pool: its factors are positive, its marks good -/
structure SumOk (n : Nat) (s : Sm) : Prop where
  pos : ∀ t ∈ s.1, 0 < t.1
  ok : ∀ t ∈ s.1, okM n t.2
  len : s.1.length ≤ n
end DP
namespace DP
theorem filter_not_isEmpty {α : Type} (p : α → Bool) : ∀ xs : List α, (xs.filter fun m => !p m).isEmpty = xs.all p
  | [] => rfl
  | x :: xs => by
    simp only [List.filter_cons, List.all_cons]
    cases h : p x with
    | true => simpa using filter_not_isEmpty p xs
    | false => simp
theorem filter_isEmpty {α : Type} (p : α → Bool) : ∀ xs : List α, (xs.filter p).isEmpty = xs.all fun x => !p x
  | [] => rfl
  | x :: xs => by
    simp only [List.filter_cons, List.all_cons]
    cases h : p x with
    | false => simpa using filter_isEmpty p xs
    | true => simp
theorem isEmpty_map {α β : Type} (f : α → β) (xs : List α) : (xs.map f).isEmpty = xs.isEmpty := by cases xs <;> rfl
end DP
namespace DP
open PySem L2
/-- a comprehension whose items change the frame -/
theorem eComp_inv {it : M (List PD)} {g : PD → Dn → Option Dn} {vs : List Nat} {cond : M Bool} {elt : M Rv} {ρ ρ1 : Dn} {α β : Type} {enc : α → PD} {e2 : β → PD} {xs : List α} (I : Dn → Prop) (R : β → Prop)
    (hi : it ρ = .ok (xs.map enc) ρ1) (hw : okW ρ1 vs = true) (hz : xs.length ≤ 10000000) (h0 : I (wipeD ρ1 vs))
    (h : ∀ x ρ', x ∈ xs → I ρ' → ∃ ρ2 ρ3 ρ4 y, g (enc x) ρ' = some ρ2 ∧ cond ρ2 = .ok true ρ3 ∧ bnd elt frz ρ3 = .ok (e2 y) ρ4 ∧ R y ∧ I (wipeD ρ4 vs)) :
    ∃ (ys : List β) (ρ' : Dn), eComp it g vs cond elt ρ = .ok (.fresh (.list (ys.map e2))) (backD ρ1 ρ' vs) ∧ I ρ' ∧ (∀ y ∈ ys, R y) ∧ ys.length = xs.length := by
  have key : ∀ (zs : List α) (acc : List PD) (ρ' : Dn), (∀ z ∈ zs, z ∈ xs) → acc.length + zs.length ≤ 10000000 → I ρ' → ∃ (ys : List β) (ρ'' : Dn), compL g vs cond (bnd elt frz) (zs.map enc) acc ρ' = .ok (acc ++ ys.map e2) ρ'' ∧ I ρ'' ∧ (∀ y ∈ ys, R y) ∧ ys.length = zs.length := by
    intro zs
    induction zs with
    | nil => intro acc ρ' _ _ hI; exact ⟨[], ρ', by simp [compL], hI, by simp, rfl⟩
    | cons z zs ih =>
      intro acc ρ' hm hl hI
      simp only [List.length_cons] at hl
      obtain ⟨ρ2, ρ3, ρ4, y, e1, e3, e4, hR, hI4⟩ := h z ρ' (hm z (List.mem_cons_self ..)) hI
      have hs : smallL acc.length = true := by simp [smallL]; omega
      obtain ⟨ys, ρ'', e5, hI5, hR5, hl5⟩ := ih (acc ++ [e2 y]) (wipeD ρ4 vs) (fun x hx => hm x (List.mem_cons_of_mem _ hx)) (by simp; omega) hI4
      refine ⟨y :: ys, ρ'', ?_, hI5, fun x hx => ?_, by simp [hl5]⟩
      · simp only [List.map_cons, compL, e1, e3, e4, hs, if_true]
        rw [e5]
        simp
      · rcases List.mem_cons.mp hx with e | hx
        · rw [e]; exact hR
        · exact hR5 x hx
  obtain ⟨ys, ρ', e, hI, hR, hl⟩ := key xs [] (wipeD ρ1 vs) (fun _ h => h) (by simpa using hz) h0
  refine ⟨ys, ρ', ?_, hI, hR, hl⟩
  unfold eComp
  rw [bnd_ap, hi]
  simp only [hw, if_true, thn_ok]
  rw [e]
  simp
@[simp] theorem backD_nil (ρ ρ' : Dn) : backD ρ ρ' [] = ρ' := nrf rfl
@[simp] theorem backD_cons (ρ ρ' : Dn) (v : Nat) (vs : List Nat) : backD ρ ρ' (v :: vs) = (backD ρ ρ' vs).set v (ρ[v]?.join) := nrf rfl
end DP
namespace DP
open PySem L2
theorem eComp_invP {P : Rs Rv → Prop} {it : M (List PD)} {g : PD → Dn → Option Dn} {vs : List Nat} {cond : M Bool} {elt : M Rv} {ρ ρ1 : Dn} {α β : Type} {enc : α → PD} {e2 : β → PD} {xs : List α} (I : Dn → Prop) (R : β → Prop)
    (hi : it ρ = .ok (xs.map enc) ρ1) (hw : okW ρ1 vs = true) (hz : xs.length ≤ 10000000) (h0 : I (wipeD ρ1 vs))
    (h : ∀ x ρ', x ∈ xs → I ρ' → ∃ ρ2 ρ3 ρ4 y, g (enc x) ρ' = some ρ2 ∧ cond ρ2 = .ok true ρ3 ∧ bnd elt frz ρ3 = .ok (e2 y) ρ4 ∧ R y ∧ I (wipeD ρ4 vs))
    (k : ∀ (ys : List β) (ρ' : Dn), I ρ' → (∀ y ∈ ys, R y) → ys.length = xs.length → P (.ok (.fresh (.list (ys.map e2))) (backD ρ1 ρ' vs))) : P (eComp it g vs cond elt ρ) := by
  obtain ⟨ys, ρ', e, hI, hR, hl⟩ := eComp_inv I R hi hw hz h0 h
  rw [e]
  exact k ys ρ' hI hR hl
end DP
/-! PLF: dicts, sorted ints, sums under marks. -/
namespace DP
open PySem L2
theorem nodup_len {α : Type} [DecidableEq α] : ∀ {xs ys : List α}, xs.Nodup → (∀ x ∈ xs, x ∈ ys) → xs.length ≤ ys.length
  | [], _, _, _ => Nat.zero_le _
  | x :: xs, ys, h, hs => by
    have hx := hs x (List.mem_cons_self ..)
    rw [List.nodup_cons] at h
    have := nodup_len (ys := ys.erase x) h.2 fun y hy => by
      have hne : y ≠ x := fun e => by subst e; exact h.1 hy
      exact (List.mem_erase_of_ne hne).mpr (hs y (List.mem_cons_of_mem _ hy))
    rw [List.length_erase_of_mem hx] at this
    have hp : 0 < ys.length := List.length_pos_of_mem hx
    simp only [List.length_cons]
    omega
theorem okM_len {n : Nat} {K : List Int} (h : K.Nodup) (hk : ∀ k ∈ K, okM n k) : K.length ≤ 2 * n := by
  have := nodup_len (ys := (List.range n).map (fun i : Nat => (1 : Int) + (i : Int)) ++ (List.range n).map (fun i : Nat => -((1 : Int) + (i : Int)))) h fun k hk' => by
    obtain ⟨h1, h2⟩ := hk k hk'
    rw [List.mem_append, List.mem_map, List.mem_map]
    by_cases h0 : 0 < k
    · exact .inl ⟨k.natAbs - 1, by rw [List.mem_range]; omega, by omega⟩
    · exact .inr ⟨k.natAbs - 1, by rw [List.mem_range]; omega, by omega⟩
  simp at this
  omega
def addK (K : List Int) (m : Int) : List Int := if m ∈ K then K else K ++ [m]
theorem mem_addK {K : List Int} {m x : Int} : x ∈ addK K m ↔ x ∈ K ∨ x = m := by
  unfold addK
  split
  · exact ⟨.inl, fun h => h.elim id fun e => e ▸ by assumption⟩
  · simp
theorem nodup_addK {K : List Int} {m : Int} (h : K.Nodup) : (addK K m).Nodup := by
  unfold addK
  split
  · exact h
  · rename_i hm
    rw [List.nodup_append]
    exact ⟨h, by simp, fun a ha b hb e => by simp at hb; subst hb; subst e; exact hm ha⟩
theorem addK_len (K : List Int) (m : Int) : K.length ≤ (addK K m).length := by unfold addK; split <;> simp
theorem mem_addsK {x : Int} : ∀ {ms K : List Int}, x ∈ ms.foldl addK K ↔ x ∈ K ∨ x ∈ ms
  | [], K => by simp
  | m :: ms, K => by rw [List.foldl_cons, mem_addsK, mem_addK, List.mem_cons, or_assoc]
theorem nodup_addsK : ∀ {ms K : List Int}, K.Nodup → (ms.foldl addK K).Nodup
  | [], _, h => h
  | m :: ms, K, h => by rw [List.foldl_cons]; exact nodup_addsK (nodup_addK h)
theorem addsK_len : ∀ (ms K : List Int), K.length ≤ (ms.foldl addK K).length
  | [], _ => Nat.le_refl _
  | m :: ms, K => Nat.le_trans (addK_len K m) (addsK_len ms _)
theorem putD_kn (K : List Int) (m : Int) : putD (.inl m) (.bool true) (K.map fun k => ((.int k, .bool true) : PD × PD)) = (addK K m).map fun k => ((.int k, .bool true) : PD × PD) := by
  have ha : ∀ K : List Int, ((K.map fun k => ((.int k, .bool true) : PD × PD)).any fun p => keyIsD (.inl m) p.1) = decide (m ∈ K) := by
    intro K
    induction K with
    | nil => simp
    | cons x xs ih =>
      rw [List.map_cons, List.any_cons, ih]
      by_cases h : x = m
      · simp [h, keyIsD]
      · have h' : ¬ m = x := fun e => h e.symm
        simp [h, h', keyIsD]
  unfold putD addK
  rw [ha]
  by_cases h : m ∈ K
  · simp only [h, decide_true, if_true, List.map_map]
    apply List.map_congr_left
    intro k hk
    simp only [Function.comp]
    split <;> rfl
  · simp [h, kD]
@[simp] theorem setIx_kn (K : List Int) (m : Int) : setIx (dKn K) (.int m) (.bool true) = if smallL K.length = true then some (dKn (addK K m)) else none := by
  refine nrf ?_
  simp only [dKn, setIx, keyD, List.length_map]
  rw [putD_kn]
theorem keysOf_kn : ∀ K : List Int, keysOf (K.map fun k => ((.int k, .bool true) : PD × PD)) = some K
  | [] => rfl
  | k :: K => by simp [keysOf, keysOf_kn K]
theorem gSorted_kn {K : List Int} (h : K.length < 64) : gSorted [dKn K] = some (.fresh (dInts (K.mergeSort leI))) := by
  simp only [dKn, gSorted, keysOf_kn, h, if_true, dInts]
/-- {k: True for k in ks} -/
theorem eDComp_kn {it : M (List PD)} {v : Nat} {ρ ρ1 : Dn} {ks : List Int} (hi : it ρ = .ok (ks.map .int) ρ1) (hv : v < ρ1.length) (hw : immOO ρ1[v]? = true) (hz : ks.length ≤ 10000000) :
    eDComp it (gNm v) [v] (retM true) (eVar v) (eC (.bool true)) ρ = .ok (.fresh (dKn (ks.foldl addK []))) ρ1 := by
  have hw' : okW ρ1 [v] = true := by simp [hw]
  have hg : (wipeD ρ1 [v])[v]? = some none := by simp [hv]
  have key : ∀ (ys K : List Int), K.length + ys.length ≤ 10000000 → dcompL (gNm v) [v] (retM true) (eVar v) (bnd (eC (.bool true)) frz) (ys.map .int) (K.map fun k => ((.int k, .bool true) : PD × PD)) (wipeD ρ1 [v]) = .ok ((ys.foldl addK K).map fun k => ((.int k, .bool true) : PD × PD)) (wipeD ρ1 [v]) := by
    intro ys
    induction ys with
    | nil => intro K _; rfl
    | cons y ys ih =>
      intro K hl
      simp only [List.length_cons] at hl
      have hs : smallL (K.map fun k => ((.int k, .bool true) : PD × PD)).length = true := by simp; omega
      have e1 : gNm v (.int y) (wipeD ρ1 [v]) = some ((wipeD ρ1 [v]).set v (some (.imm (.int y)))) := by
        simp [hv]
      have e2 : eVar v ((wipeD ρ1 [v]).set v (some (.imm (.int y)))) = .ok (.val (.int y)) ((wipeD ρ1 [v]).set v (some (.imm (.int y)))) := by
        simp [hv]
      have e3 : wipeD ((wipeD ρ1 [v]).set v (some (.imm (.int y)))) [v] = wipeD ρ1 [v] := by simp
      simp only [List.map_cons, dcompL, e1, retM_ap, e2, bnd_ap, eC_ap, thn_ok, frz_val, rd_val, keyD, hs, if_true, e3, putD_kn]
      have hl2 : (addK K y).length ≤ K.length + 1 := by unfold addK; split <;> simp
      exact ih (addK K y) (by omega)
  unfold eDComp
  rw [bnd_ap, hi]
  simp only [hw', if_true, thn_ok]
  have := key ks [] (by simpa using hz)
  simp only [List.map_nil] at this
  rw [this]
  simp only [back_wipe hw', dKn]
/-! sorted ints -/
theorem leI_total (a b : Int) : (leI a b || leI b a) = true := by simp [leI]; omega
theorem leI_trans (a b c : Int) (h : leI a b = true) (h2 : leI b c = true) : leI a c = true := by simp [leI] at *; omega
/-- strictly rising -/
def Rise (ks : List Int) : Prop := ks.Pairwise (· < ·)
theorem rise_sort {K : List Int} (h : K.Nodup) : Rise (K.mergeSort leI) := by
  have h1 : (K.mergeSort leI).Pairwise (fun a b => leI a b = true) := List.pairwise_mergeSort leI_trans leI_total K
  have h2 : (K.mergeSort leI).Nodup := (List.mergeSort_perm K leI).nodup_iff.mpr h
  refine (h1.and h2).imp fun {a b} ⟨h3, h4⟩ => ?_
  simp only [leI, decide_eq_true_eq] at h3
  omega
theorem rise_ext : ∀ {xs ys : List Int}, Rise xs → Rise ys → (∀ x, x ∈ xs ↔ x ∈ ys) → xs = ys
  | [], [], _, _, _ => rfl
  | [], y :: ys, _, _, h => by have := (h y).mpr (List.mem_cons_self ..); cases this
  | x :: xs, [], _, _, h => by have := (h x).mp (List.mem_cons_self ..); cases this
  | x :: xs, y :: ys, hx, hy, h => by
    unfold Rise at hx hy
    rw [List.pairwise_cons] at hx hy
    have e : x = y := by
      have h1 := (h x).mp (List.mem_cons_self ..)
      have h2 := (h y).mpr (List.mem_cons_self ..)
      rw [List.mem_cons] at h1 h2
      rcases h1 with h1 | h1
      · exact h1
      · rcases h2 with h2 | h2
        · exact h2.symm
        · have a := hx.1 _ h2
          have b := hy.1 _ h1
          omega
    subst e
    congr 1
    refine rise_ext hx.2 hy.2 fun z => ?_
    have hz := h z
    rw [List.mem_cons, List.mem_cons] at hz
    constructor
    · intro hm
      rcases hz.mp (.inr hm) with e | hm'
      · subst e; have := hx.1 _ hm; omega
      · exact hm'
    · intro hm
      rcases hz.mpr (.inr hm) with e | hm'
      · subst e; have := hy.1 _ hm; omega
      · exact hm'
/-! sums of factors -/
theorem sum_filter_le {ts : List (Int × Int)} (hp : ∀ t ∈ ts, 0 < t.1) {p q : Int × Int → Bool} (h : ∀ t ∈ ts, p t = true → q t = true) : ((ts.filter p).map (·.1)).sum ≤ ((ts.filter q).map (·.1)).sum := by
  induction ts with
  | nil => simp
  | cons t ts ih =>
    have i := ih (fun s hs => hp s (List.mem_cons_of_mem _ hs)) fun s hs => h s (List.mem_cons_of_mem _ hs)
    have h0 := hp t (List.mem_cons_self ..)
    have h1 := h t (List.mem_cons_self ..)
    simp only [List.filter_cons]
    cases ep : p t <;> cases eq : q t <;> simp
    · exact i
    · omega
    · simp [ep, eq] at h1
    · omega
theorem sum_filter_lt {ts : List (Int × Int)} (hp : ∀ t ∈ ts, 0 < t.1) {p q : Int × Int → Bool} (h : ∀ t ∈ ts, p t = true → q t = true) {u : Int × Int} (hu : u ∈ ts) (hpu : p u = false) (hqu : q u = true) : ((ts.filter p).map (·.1)).sum + u.1 ≤ ((ts.filter q).map (·.1)).sum := by
  induction ts with
  | nil => cases hu
  | cons t ts ih =>
    have hp' : ∀ t ∈ ts, 0 < t.1 := fun s hs => hp s (List.mem_cons_of_mem _ hs)
    have h' : ∀ t ∈ ts, p t = true → q t = true := fun s hs => h s (List.mem_cons_of_mem _ hs)
    have i2 := sum_filter_le hp' h'
    have h0 := hp t (List.mem_cons_self ..)
    have h1 := h t (List.mem_cons_self ..)
    simp only [List.filter_cons]
    rcases List.mem_cons.mp hu with e | hu
    · subst e
      simp [hpu, hqu]
      omega
    · have i := ih hp' h' hu
      cases ep : p t <;> cases eq : q t <;> simp
      · exact i
      · omega
      · simp [ep, eq] at h1
      · omega
end DP
namespace DP
@[simp] theorem ownLO_kn (b : Bool) (K : List Int) : ownLO (some (some (.own b (dKn K)))) = false := nrf rfl
@[simp] theorem ownDO_kn (b : Bool) (K : List Int) : ownDO (some (some (.own b (dKn K)))) = true := nrf rfl
@[simp] theorem clean_dInts (l k : Bool) (ks : List Int) : clean l k (dInts ks) = !l := by simp [dInts]
@[simp] theorem cleanTop_dInts (l k : Bool) (ks : List Int) : cleanTop l k (dInts ks) = true := by simp [dInts]
@[simp] theorem clean_dSum (l k : Bool) (s : Sm) : clean l k (dSum s) = true := by simp [dSum, dTerm, cleanAll_map]
@[simp] theorem itemsOf_dInts (ks : List Int) (ρ : Dn) : itemsOf (dInts ks) ρ = .ok (ks.map .int) ρ := nrf rfl
end DP
/-! PLG: running the mirrors' other pieces; how long repr's text may be. -/
namespace DP
open PySem L2
section
variable {ρ : Dn}
@[simp] theorem eIsi_ap (T : String) (f : M Rv) : eIsi T f ρ = (f ρ).thn fun r ρ => (rdM r ρ).thn fun d ρ => fin ((isiD T d).map fun b => .val (.bool b)) ρ := nrf rfl
@[simp] theorem eIsi2_ap (T U : String) (f : M Rv) : eIsi2 T U f ρ = (f ρ).thn fun r ρ => (rdM r ρ).thn fun d ρ => fin ((isiD2 T U d).map fun b => .val (.bool b)) ρ := nrf rfl
@[simp] theorem eCallK_ap (ms : List Bool) (m : List PD → FR) (n : Nat) (pi : List Nat) (fk : M (List Rv)) : eCallK ms m n pi fk ρ = eCall ms m (bnd fk fun rs => bnd (chk (rs.length == n)) fun _ => retM (pick pi rs)) ρ := nrf rfl
@[simp] theorem iZipM_ap (fa : M (List Rv)) : iZipM fa ρ = (fa ρ).thn fun rs ρ => (frzs rs ρ).thn fun ds ρ => zipM ds ρ := nrf rfl
@[simp] theorem zipM_l (xs ys : List PD) : zipM [.list xs, .list ys] ρ = .ok (zipL xs ys) ρ := nrf rfl
@[simp] theorem zipM_t (xs ys : List PD) : zipM [.tuple xs, .tuple ys] ρ = .ok (zipL xs ys) ρ := nrf rfl
@[simp] theorem iEnumM_ap (fa : M (List Rv)) : iEnumM fa ρ = (fa ρ).thn fun rs ρ => (frzs rs ρ).thn fun ds ρ => enumM ds ρ := nrf rfl
@[simp] theorem enumM_l (xs : List PD) : enumM [.list xs] ρ = .ok (enumL xs) ρ := nrf rfl
def revLR (d : PD) (ρ : Dn) : Rs Rv := match d with | .list ds => .ok (.fresh (.list ds.reverse)) ρ | _ => .no
@[simp] theorem revLR_l (ds : List PD) : revLR (.list ds) ρ = .ok (.fresh (.list ds.reverse)) ρ := nrf rfl
def revTR (d : PD) (ρ : Dn) : Rs Rv := match d with | .tuple ds => .ok (.val (.tuple ds.reverse)) ρ | _ => .no
@[simp] theorem revTR_t (ds : List PD) : revTR (.tuple ds) ρ = .ok (.val (.tuple ds.reverse)) ρ := nrf rfl
@[simp] theorem eRevL_ap (f : M Rv) : eRevL f ρ = (f ρ).thn fun r ρ => (rdM r ρ).thn fun d ρ => revLR d ρ := by
  refine nrf ?_
  unfold eRevL
  rw [bnd_ap]
  congr 1
  funext r ρ1
  rw [bnd_ap]
  congr 1
  funext d ρ2
  cases d <;> rfl
@[simp] theorem eRevT_ap (f : M Rv) : eRevT f ρ = (f ρ).thn fun r ρ => (rdM r ρ).thn fun d ρ => revTR d ρ := by
  refine nrf ?_
  unfold eRevT
  rw [bnd_ap]
  congr 1
  funext r ρ1
  rw [bnd_ap]
  congr 1
  funext d ρ2
  cases d <;> rfl
end
/-! is a thing of a type -/
@[simp] theorem isi_int (d : PD) : isiD "int" d = some (match d with | .int _ => true | .bool _ => true | _ => false) := by cases d <;> (simp only [isiD, tyName]; decide +kernel)
@[simp] theorem isi_bool (d : PD) : isiD "bool" d = some (match d with | .bool _ => true | _ => false) := by cases d <;> (simp only [isiD, tyName]; decide +kernel)
@[simp] theorem isi_tuple (d : PD) : isiD "tuple" d = some (match d with | .tuple _ => true | _ => false) := by cases d <;> (simp only [isiD, tyName]; decide +kernel)
@[simp] theorem isi_list (d : PD) : isiD "list" d = some (match d with | .list _ => true | _ => false) := by cases d <;> (simp only [isiD, tyName]; decide +kernel)
@[simp] theorem isi_str (d : PD) : isiD "str" d = some (match d with | .str _ => true | _ => false) := by cases d <;> (simp only [isiD, tyName]; decide +kernel)
/-! how long repr's text may be -/
structure Nice (B n : Nat) (d : PD) : Prop where
  sh : d.showable = true
  nd : d.hasDict = false
  dp : d.depth ≤ n
  cl : d.canLay0 = true
  le : d.shown.length ≤ B
theorem Nice.mono {B C n m : Nat} {d : PD} (h : Nice B n d) (hB : B ≤ C) (hn : n ≤ m) : Nice C m d := ⟨h.sh, h.nd, Nat.le_trans h.dp hn, h.cl, Nat.le_trans h.le hB⟩
theorem nice_none : Nice 4 0 .none := ⟨by simp [PyData.showable], by simp [PyData.hasDict], by simp [PyData.depth], by simp [PyData.canLay0], by simp only [PyData.shown]; decide +kernel⟩
theorem nice_bool (b : Bool) : Nice 5 0 (.bool b) := ⟨by simp [PyData.showable], by simp [PyData.hasDict], by simp [PyData.depth], by simp [PyData.canLay0], by simp only [PyData.shown]; cases b <;> decide +kernel⟩
theorem nice_int {i : Int} (h : i.natAbs.log2 < 1000) : Nice 1001 0 (.int i) := ⟨by simp [PyData.showable]; omega, by simp [PyData.hasDict], by simp [PyData.depth], by simp [PyData.canLay0], by
  simp only [PyData.shown]
  have e := int_text_length_le (a := i) (k := 1000) (by decide) h
  rw [ofString_length]
  exact e⟩
theorem nice_ints {i : Int} (h : -(2 ^ 200) < i) (h2 : i < 2 ^ 200) : Nice 1001 0 (.int i) := nice_int (by
  by_cases z : i.natAbs = 0
  · rw [z]; decide
  · exact (Nat.log2_lt z).mpr (Nat.lt_of_lt_of_le (show i.natAbs < 2 ^ 200 by omega) (Nat.pow_le_pow_right (by decide) (by decide))))
theorem nice_str {x : Str} {B : Nat} (h : PyData.strOk x = true) (hl : (reprText x).length ≤ B) : Nice B 0 (.str x) := ⟨by simp [PyData.showable], by simp [PyData.hasDict], by simp [PyData.depth], by simp [PyData.canLay0, h], by simpa only [PyData.shown] using hl⟩
theorem shownAll_map {α : Type} (f : α → PD) : ∀ xs : List α, PyData.shownAll (xs.map f) = xs.map fun x => (f x).shown
  | [] => by simp [PyData.shownAll]
  | x :: xs => by simp [PyData.shownAll, shownAll_map f xs]
theorem sum_le_mul {α : Type} {f : α → Nat} {B : Nat} : ∀ {xs : List α}, (∀ x ∈ xs, f x ≤ B) → (xs.map f).sum ≤ xs.length * B
  | [], _ => by simp
  | x :: xs, h => by
    have h1 := h x (List.mem_cons_self ..)
    have h2 := sum_le_mul (xs := xs) fun y hy => h y (List.mem_cons_of_mem _ hy)
    simp only [List.map_cons, List.sum_cons, List.length_cons, Nat.succ_mul]
    omega
theorem nice_all {B n : Nat} : ∀ {ds : List PD}, (∀ d ∈ ds, Nice B n d) → PyData.showableAll ds = true ∧ PyData.hasDictAll ds = false ∧ PyData.depthAll ds ≤ n ∧ PyData.canLayAll0 ds = true ∧ ((PyData.shownAll ds).map (·.length)).sum ≤ ds.length * B ∧ (PyData.shownAll ds).length = ds.length
  | [], _ => by simp [PyData.showableAll, PyData.hasDictAll, PyData.depthAll, PyData.canLayAll0, PyData.shownAll]
  | d :: ds, h => by
    have h1 := h d (List.mem_cons_self ..)
    obtain ⟨a, b, c, e, f, g⟩ := nice_all (ds := ds) fun y hy => h y (List.mem_cons_of_mem _ hy)
    have := h1.dp
    have := h1.le
    simp only [PyData.showableAll, PyData.hasDictAll, PyData.depthAll, PyData.canLayAll0, PyData.shownAll, h1.sh, h1.nd, h1.cl, a, b, e, List.map_cons, List.sum_cons, List.length_cons, g, Nat.succ_mul, Bool.and_self, Bool.or_self, true_and]
    exact ⟨by omega, by omega, trivial⟩
theorem nice_list {B n : Nat} {ds : List PD} (h : ∀ d ∈ ds, Nice B n d) : Nice (ds.length * (B + 2) + 3) (n + 1) (.list ds) := by
  obtain ⟨a, b, c, e, f, g⟩ := nice_all h
  refine ⟨by simpa only [PyData.showable] using a, by simpa only [PyData.hasDict] using b, by simp only [PyData.depth]; omega, by simpa only [PyData.canLay0] using e, ?_⟩
  simp only [PyData.shown]
  have := listText_len_le (PyData.shownAll ds)
  rw [g] at this
  rw [Nat.mul_add]
  omega
theorem nice_tup {B n : Nat} {ds : List PD} (h : ∀ d ∈ ds, Nice B n d) : Nice (ds.length * (B + 2) + 3) (n + 1) (.tuple ds) := by
  obtain ⟨a, b, c, e, f, g⟩ := nice_all h
  refine ⟨by simpa only [PyData.showable] using a, by simpa only [PyData.hasDict] using b, by simp only [PyData.depth]; omega, by simpa only [PyData.canLay0] using e, ?_⟩
  simp only [PyData.shown]
  have := tupleText_len_le (PyData.shownAll ds)
  rw [g] at this
  rw [Nat.mul_add]
  omega
theorem gReprA_of {B n : Nat} {d : PD} (h : Nice B n d) (hn : n ≤ 60 := by decide) (hB : B ≤ 10000000 := by omega) : gReprA [d] = some (.val (.str d.shown)) := by
  have hs : smallL d.shown.length = true := by simp; have := h.le; omega
  have ok : reprAOk d = true := by
    cases d with
    | none => rfl
    | bool b => rfl
    | int i => simpa [reprAOk, PyData.showable] using h.sh
    | str x => simpa only [reprAOk, PyData.shown] using hs
    | list l => simp only [reprAOk, reprOk, h.sh, h.nd, h.cl, hs, isLT, Bool.not_false, Bool.and_true, Bool.true_and]; exact decide_eq_true (Nat.le_trans h.dp hn)
    | tuple l => simp only [reprAOk, reprOk, h.sh, h.nd, h.cl, hs, isLT, Bool.not_false, Bool.and_true, Bool.true_and]; exact decide_eq_true (Nat.le_trans h.dp hn)
    | dict l => have := h.nd; simp [PyData.hasDict] at this
  simp only [gReprA, ok, if_true]
section
variable {ρ : Dn}
def andR (d : PD) (k : M Rv) (ρ : Dn) : Rs Rv := match d with | .bool true => k ρ | .bool false => .ok (.val (.bool false)) ρ | _ => .no
@[simp] theorem andR_b (b : Bool) (k : M Rv) : andR (.bool b) k ρ = if b = true then k ρ else .ok (.val (.bool false)) ρ := nrf (by cases b <;> rfl)
@[simp] theorem eAndV_ap (a b : M Rv) : eAndV a b ρ = (a ρ).thn fun x ρ => (rdM x ρ).thn fun d ρ => andR d b ρ := by
  refine nrf ?_
  unfold eAndV
  rw [bnd_ap]
  congr 1
  funext x ρ1
  rw [bnd_ap]
  congr 1
  funext d ρ2
  cases d with
  | bool b => cases b <;> rfl
  | _ => rfl
def orR (d : PD) (k : M Rv) (ρ : Dn) : Rs Rv := match d with | .bool false => k ρ | .bool true => .ok (.val (.bool true)) ρ | _ => .no
@[simp] theorem orR_b (b : Bool) (k : M Rv) : orR (.bool b) k ρ = if b = true then .ok (.val (.bool true)) ρ else k ρ := nrf (by cases b <;> rfl)
@[simp] theorem eOrV_ap (a b : M Rv) : eOrV a b ρ = (a ρ).thn fun x ρ => (rdM x ρ).thn fun d ρ => orR d b ρ := by
  refine nrf ?_
  unfold eOrV
  rw [bnd_ap]
  congr 1
  funext x ρ1
  rw [bnd_ap]
  congr 1
  funext d ρ2
  cases d with
  | bool b => cases b <;> rfl
  | _ => rfl
def notR (d : PD) (ρ : Dn) : Rs Rv := match d with | .bool b => .ok (.val (.bool (!b))) ρ | _ => .no
@[simp] theorem notR_b (b : Bool) : notR (.bool b) ρ = .ok (.val (.bool (!b))) ρ := nrf rfl
@[simp] theorem eNotV_ap (a : M Rv) : eNotV a ρ = (a ρ).thn fun x ρ => (rdM x ρ).thn fun d ρ => notR d ρ := by
  refine nrf ?_
  unfold eNotV
  rw [bnd_ap]
  congr 1
  funext x ρ1
  rw [bnd_ap]
  congr 1
  funext d ρ2
  cases d <;> rfl
def chR (d : PD) (k : M Rv) (ρ : Dn) : Rs Rv := match d with | .bool true => k ρ | .bool false => .ok (.val (.bool false)) ρ | _ => .no
@[simp] theorem chR_b (b : Bool) (k : M Rv) : chR (.bool b) k ρ = if b = true then k ρ else .ok (.val (.bool false)) ρ := nrf (by cases b <;> rfl)
@[simp] theorem eChain_ap (g g' : PD → PD → Option Rc) (a b c : M Rv) : eChain g g' a b c ρ = (a ρ).thn fun x ρ => (b ρ).thn fun y ρ => (rdM x ρ).thn fun d1 ρ => (rdM y ρ).thn fun d2 ρ => (fin (g d1 d2) ρ).thn fun z ρ => (rdM z ρ).thn fun dz ρ =>
    chR dz (fun ρ => (c ρ).thn fun w ρ => (rdM y ρ).thn fun d2' ρ => (rdM w ρ).thn fun d3 ρ => fin (g' d2' d3) ρ) ρ := by
  refine nrf ?_
  unfold eChain
  rw [bnd_ap]
  congr 1
  funext x ρ1
  rw [bnd_ap]
  congr 1
  funext y ρ2
  rw [bnd_ap]
  congr 1
  funext d1 ρ3
  rw [bnd_ap]
  congr 1
  funext d2 ρ4
  rw [bnd_ap]
  congr 1
  funext z ρ5
  rw [bnd_ap]
  congr 1
  funext dz ρ6
  cases dz with
  | bool b => cases b <;> rfl
  | _ => rfl
@[simp] theorem partM_none : partM none ρ = .ok none ρ := nrf rfl
def partR (d : PD) (ρ : Dn) : Rs (Option Int) := match d with | .int i => .ok (some i) ρ | _ => .no
@[simp] theorem partR_int (i : Int) : partR (.int i) ρ = .ok (some i) ρ := nrf rfl
@[simp] theorem partM_some (f : M Rv) : partM (some f) ρ = (f ρ).thn fun r ρ => (rdM r ρ).thn fun d ρ => partR d ρ := by
  refine nrf ?_
  show bnd f (fun r => bnd (rdM r) fun d => match d with
    | .int i => retM (some i)
    | _ => noM) ρ = _
  rw [bnd_ap]
  congr 1
  funext r ρ1
  rw [bnd_ap]
  congr 1
  funext d ρ2
  cases d <;> rfl
@[simp] theorem eSl_ap (f : M Rv) (lo hi : Option (M Rv)) : eSl f lo hi ρ = (f ρ).thn fun x ρ => (partM lo ρ).thn fun l ρ => (partM hi ρ).thn fun h ρ => (rdM x ρ).thn fun d ρ => fin (gSl d l h) ρ := nrf rfl
@[simp] theorem gSl_list (ds : List PD) (lo hi : Option Int) : gSl (.list ds) lo hi = some (.fresh (.list (cutD ds lo hi))) := nrf rfl
@[simp] theorem gSl_tuple (ds : List PD) (lo hi : Option Int) : gSl (.tuple ds) lo hi = some (.val (.tuple (cutD ds lo hi))) := nrf rfl
end
theorem cut_from (ds : List PD) (k : Nat) (h : k ≤ ds.length) : cutD ds (some (k : Int)) none = ds.drop k := by
  unfold cutD
  rw [HT.sIx_nat, HT.sIx_none, Nat.min_eq_left h, List.take_of_length_le (by simp)]
theorem cut_to (ds : List PD) (k : Nat) (h : k ≤ ds.length) : cutD ds none (some (k : Int)) = ds.take k := by
  unfold cutD
  rw [HT.sIx_nat, HT.sIx_none, Nat.min_eq_left h]
  simp
theorem cut_tail (ds : List PD) : cutD ds (some 1) none = ds.drop 1 := by
  unfold cutD
  rw [show (some (1 : Int)) = some ((1 : Nat) : Int) from rfl, HT.sIx_nat, HT.sIx_none]
  cases ds with
  | nil => rfl
  | cons d ds => rw [Nat.min_eq_left (by simp)]; simp
end DP
namespace DP
open PySem L2
theorem boolsOf_map {α : Type} (f : α → Bool) : ∀ ks : List α, boolsOf (ks.map fun k => .bool (f k)) = some (ks.map f)
  | [] => rfl
  | k :: ks => by simp [boolsOf, boolsOf_map f ks]
theorem gAll_map {α : Type} (f : α → Bool) (ks : List α) : gAll [.list (ks.map fun k => .bool (f k))] = some (.val (.bool (ks.all f))) := by
  simp only [gAll, boolsOf_map, Option.map_some, List.all_map]
  congr 3
def risesL : List Int → Bool
  | a :: b :: l => decide (a < b) && risesL (b :: l)
  | _ => true
theorem rises_zip : ∀ ks : List Int, (ks.zip ks.tail).all (fun p => decide (p.1 < p.2)) = risesL ks
  | [] => rfl
  | [a] => rfl
  | a :: b :: l => by
    have := rises_zip (b :: l)
    simp only [List.tail_cons, List.zip_cons_cons, List.all_cons, risesL] at this ⊢
    rw [this]
theorem zipL_tail (ks : List Int) : zipL (ks.map .int) (ks.map PyData.int).tail = (ks.zip ks.tail).map fun p => PyData.tuple [.int p.1, .int p.2] := by
  unfold zipL
  rw [← List.map_tail, List.zipWith_map, List.zip, List.map_zipWith]
end DP
namespace DP
open PySem L2
theorem rises_snoc : ∀ {l : List Int} {x : Int}, risesL l = true → (∀ y ∈ l, y < x) → risesL (l ++ [x]) = true
  | [], _, _, _ => rfl
  | [a], x, _, h => by
    have := h a (List.mem_cons_self ..)
    simp [risesL, this]
  | a :: b :: l, x, h1, h2 => by
    simp only [risesL, Bool.and_eq_true, decide_eq_true_eq] at h1
    have ih := rises_snoc (l := b :: l) (x := x) h1.2 fun y hy => h2 y (List.mem_cons_of_mem _ hy)
    simp only [List.cons_append, risesL, Bool.and_eq_true, decide_eq_true_eq] at ih ⊢
    exact ⟨h1.1, ih⟩
/-- a sum of the pool, told in full -/
structure SumOk2 (n : Nat) (s : Sm) : Prop where
  ok : SumOk n s
  rise : risesL (s.1.map fun t => (t.2.natAbs : Int)) = true
  fac : ∀ t ∈ s.1, t.1 ≤ 100000000000000000000
  low : -10 ≤ s.2
  high : s.2 ≤ 10 + (n : Int) * 100000000000000000000
theorem sum_fac {n : Nat} : ∀ {ts : List (Int × Int)}, (∀ t ∈ ts, 0 < t.1 ∧ t.1 ≤ 100000000000000000000) → 0 ≤ (ts.map (·.1)).sum ∧ (ts.map (·.1)).sum ≤ (ts.length : Int) * 100000000000000000000
  | [], _ => by simp
  | t :: ts, h => by
    have h1 := h t (List.mem_cons_self ..)
    have h2 := sum_fac (n := n) (ts := ts) fun u hu => h u (List.mem_cons_of_mem _ hu)
    simp only [List.map_cons, List.sum_cons, List.length_cons]
    omega
@[simp] theorem gEqS_ap (neg : Bool) (x y : Str) : gEqS neg (.str x) (.str y) = some (.val (.bool (if neg = true then !decide (x = y) else decide (x = y)))) := nrf rfl
end DP
/-! QLA: running the mirrors over the told heap by rewriting. -/
namespace HL
open PySem L2
theorem nr {α : Sort u} {a b : α} (h : a = b) : a = b := h
section
variable {α β : Type} {ρ : Env} {h : AH}
@[simp] theorem bind_ok (a : α) (k : α → AH → RR β) : (RR.ok a h).bind k = k a h := nr rfl
@[simp] theorem bind_ex (e : Exn) (k : α → AH → RR β) : (RR.ex e h).bind k = .ex e h := nr rfl
@[simp] theorem bind_no (k : α → AH → RR β) : (RR.no).bind k = .no := nr rfl
@[simp] theorem ou_ok (a : α) (k : α → AH → Ou) : (RR.ok a h).ou ρ k = k a h := nr rfl
@[simp] theorem ou_ex (e : Exn) (k : α → AH → Ou) : (RR.ex e h).ou ρ k = .ex e ρ h := nr rfl
@[simp] theorem ou_no (k : α → AH → Ou) : (RR.no).ou ρ k = .no := nr rfl
@[simp] theorem seq_nx (k : SM) : (Ou.nx ρ h).seq k = k ρ h := nr rfl
@[simp] theorem seq_rt (d : AV) (k : SM) : (Ou.rt d h).seq k = .rt d h := nr rfl
@[simp] theorem seq_bk (k : SM) : (Ou.bk ρ h).seq k = .bk ρ h := nr rfl
@[simp] theorem seq_ct (k : SM) : (Ou.ct ρ h).seq k = .ct ρ h := nr rfl
@[simp] theorem seq_ex (e : Exn) (k : SM) : (Ou.ex e ρ h).seq k = .ex e ρ h := nr rfl
@[simp] theorem seq_no (k : SM) : (Ou.no).seq k = .no := nr rfl
@[simp] theorem bnd_ap (m : EM α) (k : α → EM β) : bnd m k ρ h = (m ρ h).bind fun a h => k a ρ h := nr rfl
@[simp] theorem bndS_ap (m : EM α) (k : α → SM) : bndS m k ρ h = (m ρ h).ou ρ fun a h => k a ρ h := nr rfl
@[simp] theorem retM_ap (a : α) : retM a ρ h = .ok a h := nr rfl
@[simp] theorem noM_ap : (noM : EM α) ρ h = .no := nr rfl
def varR (o : Option (Option AV)) (h : AH) : RR AV := match o with | some (some d) => .ok d h | _ => .no
@[simp] theorem varR_some (d : AV) : varR (some (some d)) h = .ok d h := nr rfl
@[simp] theorem eVar_ap (i : Nat) : eVar i ρ h = varR ρ[i]? h := by
  refine nr ?_
  unfold eVar varR
  cases ρ[i]? with
  | none => rfl
  | some o => cases o <;> rfl
@[simp] theorem eC_ap (d : AV) : eC d ρ h = .ok d h := nr rfl
@[simp] theorem aNil_ap : aNil ρ h = .ok [] h := nr rfl
@[simp] theorem aCons_ap (a : EM AV) (b : EM (List AV)) : aCons a b ρ h = (a ρ h).bind fun x h => (b ρ h).bind fun xs h => .ok (x :: xs) h := nr rfl
def opR (o : Option RA) (h : AH) : RR AV := match o with | some (.val v) => .ok v h | some (.new c) => .ok (.ref h.length) (h ++ [c]) | none => .no
@[simp] theorem opR_val (v : AV) : opR (some (.val v)) h = .ok v h := nr rfl
@[simp] theorem opR_new (c : Cell) : opR (some (.new c)) h = .ok (.ref h.length) (h ++ [c]) := nr rfl
@[simp] theorem opM_ap (o : AH → Option RA) : opM o ρ h = opR (o h) h := nr rfl
@[simp] theorem eOp2_ap (g : AH → AV → AV → Option RA) (a b : EM AV) : eOp2 g a b ρ h = (a ρ h).bind fun x h => (b ρ h).bind fun y h => opR (g h x y) h := nr rfl
@[simp] theorem eOp1_ap (g : AH → AV → Option RA) (a : EM AV) : eOp1 g a ρ h = (a ρ h).bind fun x h => opR (g h x) h := nr rfl
@[simp] theorem eOpN_ap (g : AH → List AV → Option RA) (a : EM (List AV)) : eOpN g a ρ h = (a ρ h).bind fun x h => opR (g h x) h := nr rfl
@[simp] theorem eTup_ap (a : EM (List AV)) : eTup a ρ h = (a ρ h).bind fun xs h => if DP.smallL xs.length = true then .ok (.tup xs) h else .no := by
  refine nr ?_
  unfold eTup
  rw [bnd_ap]
  congr 1
  funext xs h
  rw [opM_ap]
  split <;> rfl
@[simp] theorem eLst_ap (a : EM (List AV)) : eLst a ρ h = (a ρ h).bind fun xs h => if DP.smallL xs.length = true then .ok (.ref h.length) (h ++ [.lst xs]) else .no := by
  refine nr ?_
  unfold eLst
  rw [bnd_ap]
  congr 1
  funext xs h
  rw [opM_ap]
  split <;> rfl
@[simp] theorem eDict0_ap : eDict0 ρ h = .ok (.ref h.length) (h ++ [.dic []]) := nr rfl
def boolR (d : AV) (h : AH) : RR Bool := match d with | .bl b => .ok b h | _ => .no
@[simp] theorem boolR_bl (b : Bool) : boolR (.bl b) h = .ok b h := nr rfl
@[simp] theorem tBool_ap (f : EM AV) : tBool f ρ h = (f ρ h).bind fun d h => boolR d h := by
  refine nr ?_
  unfold tBool
  rw [bnd_ap]
  congr 1
  funext d h
  cases d <;> rfl
@[simp] theorem tAnd_ap (a b : EM Bool) : tAndM a b ρ h = (a ρ h).bind fun k h => if k = true then b ρ h else .ok false h := by
  refine nr ?_
  unfold tAndM
  rw [bnd_ap]
  congr 1
  funext k h
  cases k <;> rfl
@[simp] theorem tOr_ap (a b : EM Bool) : tOrM a b ρ h = (a ρ h).bind fun k h => if k = true then .ok true h else b ρ h := by
  refine nr ?_
  unfold tOrM
  rw [bnd_ap]
  congr 1
  funext k h
  cases k <;> rfl
@[simp] theorem tNot_ap (a : EM Bool) : tNotM a ρ h = (a ρ h).bind fun k h => .ok (!k) h := nr rfl
def chR (z : AV) (k : AH → RR AV) (h : AH) : RR AV := match z with | .bl true => k h | .bl false => .ok (.bl false) h | _ => .no
@[simp] theorem chR_t (k : AH → RR AV) : chR (.bl true) k h = k h := nr rfl
@[simp] theorem chR_f (k : AH → RR AV) : chR (.bl false) k h = .ok (.bl false) h := nr rfl
theorem chR_b (b : Bool) (k : AH → RR AV) : chR (.bl b) k h = if b = true then k h else .ok (.bl false) h := by cases b <;> rfl
def orR (z : AV) (k : AH → RR AV) (h : AH) : RR AV := match z with | .bl true => .ok (.bl true) h | .bl false => k h | _ => .no
@[simp] theorem orR_t (k : AH → RR AV) : orR (.bl true) k h = .ok (.bl true) h := nr rfl
@[simp] theorem orR_f (k : AH → RR AV) : orR (.bl false) k h = k h := nr rfl
theorem orR_b (b : Bool) (k : AH → RR AV) : orR (.bl b) k h = if b = true then .ok (.bl true) h else k h := by cases b <;> rfl
def notR (z : AV) (h : AH) : RR AV := match z with | .bl b => .ok (.bl (!b)) h | _ => .no
@[simp] theorem notR_b (b : Bool) : notR (.bl b) h = .ok (.bl (!b)) h := nr rfl
@[simp] theorem eChain_ap (g g' : AH → AV → AV → Option RA) (a b c : EM AV) : eChain g g' a b c ρ h = (a ρ h).bind fun x h => (b ρ h).bind fun y h => (opR (g h x y) h).bind fun z h => chR z (fun h => (c ρ h).bind fun w h => opR (g' h y w) h) h := by
  refine nr ?_
  unfold eChain
  rw [bnd_ap]
  congr 1
  funext x h
  rw [bnd_ap]
  congr 1
  funext y h
  rw [bnd_ap, opM_ap]
  congr 1
  funext z h
  cases z with
  | bl b => cases b <;> rfl
  | _ => rfl
@[simp] theorem eAndV_ap (a b : EM AV) : eAndV a b ρ h = (a ρ h).bind fun z h => chR z (fun h => b ρ h) h := by
  refine nr ?_
  unfold eAndV
  rw [bnd_ap]
  congr 1
  funext z h
  cases z with
  | bl b => cases b <;> rfl
  | _ => rfl
@[simp] theorem eOrV_ap (a b : EM AV) : eOrV a b ρ h = (a ρ h).bind fun z h => orR z (fun h => b ρ h) h := by
  refine nr ?_
  unfold eOrV
  rw [bnd_ap]
  congr 1
  funext z h
  cases z with
  | bl b => cases b <;> rfl
  | _ => rfl
@[simp] theorem eNotV_ap (a : EM AV) : eNotV a ρ h = (a ρ h).bind fun z h => notR z h := by
  refine nr ?_
  unfold eNotV
  rw [bnd_ap]
  congr 1
  funext z h
  cases z <;> rfl
@[simp] theorem eIf_ap (c : EM Bool) (a b : EM AV) : eIf c a b ρ h = (c ρ h).bind fun k h => if k = true then a ρ h else b ρ h := by
  refine nr ?_
  unfold eIf
  rw [bnd_ap]
  congr 1
  funext k h
  cases k <;> rfl
@[simp] theorem eIsN_ap (a : EM AV) : eIsN a ρ h = (a ρ h).bind fun d h => .ok (.bl (isNon d)) h := nr rfl
@[simp] theorem eNotN_ap (a : EM AV) : eNotN a ρ h = (a ρ h).bind fun d h => .ok (.bl (!isNon d)) h := nr rfl
@[simp] theorem isNon_non : isNon .non = true := nr rfl
@[simp] theorem isNon_tup (xs : List AV) : isNon (.tup xs) = false := nr rfl
@[simp] theorem isNon_ref (n : Nat) : isNon (.ref n) = false := nr rfl
@[simp] theorem isNon_int (n : Int) : isNon (.int n) = false := nr rfl
@[simp] theorem isNon_str (n : Str) : isNon (.str n) = false := nr rfl
@[simp] theorem isNon_bl (n : Bool) : isNon (.bl n) = false := nr rfl
/-! statements -/
@[simp] theorem sSeq_ap (a b : SM) : sSeq a b ρ h = (a ρ h).seq b := nr rfl
@[simp] theorem sNil_ap : sNil ρ h = .nx ρ h := nr rfl
@[simp] theorem sPass_ap : sPass ρ h = .nx ρ h := nr rfl
@[simp] theorem sBreak_ap : sBreak ρ h = .bk ρ h := nr rfl
@[simp] theorem sCont_ap : sCont ρ h = .ct ρ h := nr rfl
@[simp] theorem sRet_ap (f : EM AV) : sRet f ρ h = (f ρ h).ou ρ fun r h => .rt r h := nr rfl
@[simp] theorem sRetN_ap : sRetN ρ h = .rt .non h := nr rfl
@[simp] theorem sExpr_ap (f : EM AV) : sExpr f ρ h = (f ρ h).ou ρ fun _ h => .nx ρ h := nr rfl
@[simp] theorem sIf_ap (c : EM Bool) (a b : SM) : sIf c a b ρ h = (c ρ h).ou ρ fun k h => if k = true then a ρ h else b ρ h := by
  refine nr ?_
  unfold sIf
  rw [bndS_ap]
  congr 1
  funext k h
  cases k <;> rfl
@[simp] theorem setE_ap (i : Nat) (d : AV) : setE ρ i d = ρ.set i (some d) := nr rfl
@[simp] theorem sSet_ap (i : Nat) (f : EM AV) : sSet i f ρ h = (f ρ h).ou ρ fun d h => .nx (setE ρ i d) h := nr rfl
@[simp] theorem gNm_ap (i : Nat) (d : AV) : gNm i d ρ h = .nx (setE ρ i d) h := nr rfl
@[simp] theorem gsNil_ap : gsNil [] ρ h = .nx ρ h := nr rfl
@[simp] theorem gsCons_ap (g : AV → SM) (gs : List AV → SM) (d : AV) (ds : List AV) : gsCons g gs (d :: ds) ρ h = (g d ρ h).seq (gs ds) := nr rfl
@[simp] theorem gTupM_ap (n : Nat) (gs : List AV → SM) (ds : List AV) : gTupM n gs (.tup ds) ρ h = if ds.length = n then gs ds ρ h else .no := nr rfl
theorem gTupM_ref {p n : Nat} {gs : List AV → SM} {ds : List AV} (e : h[p]? = some (.lst ds)) : gTupM n gs (.ref p) ρ h = if ds.length = n then gs ds ρ h else .no := by
  unfold gTupM
  simp only [e]
@[simp] theorem gOnly_nx : gOnly (.nx ρ h) = .nx ρ h := nr rfl
@[simp] theorem gOnly_ex (e : Exn) : gOnly (.ex e ρ h) = .ex e ρ h := nr rfl
@[simp] theorem sAsg1_ap (f : EM AV) (g : AV → SM) : sAsg1 f g ρ h = (f ρ h).ou ρ fun d h => gOnly (g d ρ h) := nr rfl
@[simp] theorem sAsg2_ap (f : EM AV) (g g2 : AV → SM) : sAsg2 f g g2 ρ h = (f ρ h).ou ρ fun d h => (gOnly (g d ρ h)).seq fun ρ h => gOnly (g2 d ρ h) := nr rfl
def par2 (i j : Nat) (ds : List AV) (ρ : Env) (h : AH) : Ou := match ds with | [c, d] => .nx (setE (setE ρ i c) j d) h | _ => .no
@[simp] theorem par2_ap (i j : Nat) (c d : AV) : par2 i j [c, d] ρ h = .nx (setE (setE ρ i c) j d) h := nr rfl
@[simp] theorem sPar_ap (i j : Nat) (fs : EM (List AV)) : sPar i j fs ρ h = (fs ρ h).ou ρ fun ds h => par2 i j ds ρ h := by
  refine nr ?_
  unfold sPar
  rw [bndS_ap]
  congr 1
def par3 (i j l : Nat) (ds : List AV) (ρ : Env) (h : AH) : Ou := match ds with | [c, d, e] => .nx (setE (setE (setE ρ i c) j d) l e) h | _ => .no
@[simp] theorem par3_ap (i j l : Nat) (c d e : AV) : par3 i j l [c, d, e] ρ h = .nx (setE (setE (setE ρ i c) j d) l e) h := nr rfl
@[simp] theorem sPar3_ap (i j l : Nat) (fs : EM (List AV)) : sPar3 i j l fs ρ h = (fs ρ h).ou ρ fun ds h => par3 i j l ds ρ h := by
  refine nr ?_
  unfold sPar3
  rw [bndS_ap]
  congr 1
def augO (i : Nat) (f : Int → Int → Int) (fe : EM AV) (o : Option (Option AV)) (ρ : Env) (h : AH) : Ou := match o with
  | some (some (.int a)) => (fe ρ h).ou ρ fun d h => (match d with | .int b => .nx (setE ρ i (.int (f a b))) h | _ => .no)
  | _ => .no
def augV (i : Nat) (x : Int) (d : AV) (f : Int → Int → Int) (ρ : Env) (h : AH) : Ou := match d with | .int b => .nx (setE ρ i (.int (f x b))) h | _ => .no
@[simp] theorem augV_ap (i : Nat) (x b : Int) (f : Int → Int → Int) : augV i x (.int b) f ρ h = .nx (setE ρ i (.int (f x b))) h := nr rfl
theorem sAugI_ap {i : Nat} {f : Int → Int → Int} {fe : EM AV} {a : Int} (e : ρ[i]? = some (some (.int a))) : sAugI i f fe ρ h = (fe ρ h).ou ρ fun d h => augV i a d f ρ h := by
  unfold sAugI
  rw [e]
  rfl
/-! what is walked -/
@[simp] theorem sFor_ap (it : EM Sr) (g : AV → SM) (body : SM) : sFor it g body ρ h = (it ρ h).ou ρ fun s h => forL s.keep g body s.ds ρ h := nr rfl
@[simp] theorem iSeqM_ap (f : EM AV) : iSeqM f ρ h = (f ρ h).bind fun d h => srOf d ρ h := nr rfl
@[simp] theorem srOf_tup (ds : List AV) : srOf (.tup ds) ρ h = .ok ⟨ds, []⟩ h := nr rfl
@[simp] theorem srOf_wt (ds : List AV) : srOf (.wt ds) ρ h = .ok ⟨ds, []⟩ h := nr rfl
theorem srOf_ref {n : Nat} {ds : List AV} (e : h[n]? = some (.lst ds)) : srOf (.ref n) ρ h = .ok ⟨ds, [(n, .lst ds)]⟩ h := by
  unfold srOf
  dsimp only
  rw [e]
@[simp] theorem iRng1M_ap (f : EM (List AV)) : iRng1M f ρ h = (f ρ h).bind fun d h => rng1 d ρ h := nr rfl
@[simp] theorem iRng2M_ap (f : EM (List AV)) : iRng2M f ρ h = (f ρ h).bind fun d h => rng2 d ρ h := nr rfl
@[simp] theorem rng1_ap (j : Int) : rng1 [.int j] ρ h = if DP.in62 j = true then .ok ⟨rngA 0 j.toNat, []⟩ h else .no := by
  refine nr ?_
  show (if DP.in62 j = true then retM (⟨rngA 0 j.toNat, []⟩ : Sr) else noM) ρ h = _
  split <;> rfl
@[simp] theorem rng2_ap (i j : Int) : rng2 [.int i, .int j] ρ h = if (DP.in62 i && DP.in62 j) = true then .ok ⟨rngA i (j - i).toNat, []⟩ h else .no := by
  refine nr ?_
  show (if (DP.in62 i && DP.in62 j) = true then retM (⟨rngA i (j - i).toNat, []⟩ : Sr) else noM) ρ h = _
  split <;> rfl
@[simp] theorem iZipM_ap (f : EM (List AV)) : iZipM f ρ h = (f ρ h).bind fun d h => zipM d ρ h := nr rfl
@[simp] theorem iEnumM_ap (f : EM (List AV)) : iEnumM f ρ h = (f ρ h).bind fun d h => enumM d ρ h := nr rfl
@[simp] theorem iKeysM_ap (f : EM AV) : iKeysM f ρ h = (f ρ h).bind fun d h => keysM d ρ h := nr rfl
@[simp] theorem zipM_tup (ds es : List AV) : zipM [.tup ds, .tup es] ρ h = .ok ⟨zipA ds es, []⟩ h := nr rfl
theorem zipM_ref {n m : Nat} {ds es : List AV} (e : lstAt h n = some ds) (f : lstAt h m = some es) : zipM [.ref n, .ref m] ρ h = .ok ⟨zipA ds es, [(n, .lst ds), (m, .lst es)]⟩ h := by
  unfold zipM
  dsimp only
  rw [e, f]
theorem enumM_ref {n : Nat} {ds : List AV} (e : lstAt h n = some ds) : enumM [.ref n] ρ h = .ok ⟨enumA ds, [(n, .lst ds)]⟩ h := by
  unfold enumM
  dsimp only
  rw [e]
theorem keysM_ref {n : Nat} {kvs : List (Key × AV)} (e : h[n]? = some (.lock kvs)) : keysM (.ref n) ρ h = .ok ⟨kvs.map fun q => kA q.1, [(n, .lock kvs)]⟩ h := by
  unfold keysM
  dsimp only
  rw [e]
/-! defs -/
@[simp] theorem startE_ap (n : Nat) (ds : List AV) : startE n ds = ds.map some ++ List.replicate (n - ds.length) none := nr rfl
@[simp] theorem fin_nx : (Ou.nx ρ h).fin = .ok .non h := nr rfl
@[simp] theorem fin_rt (d : AV) : (Ou.rt d h).fin = .ok d h := nr rfl
@[simp] theorem fin_ex (e : Exn) : (Ou.ex e ρ h).fin = .ex e h := nr rfl
@[simp] theorem calm_okk (a : α) : (RR.ok a h).calm = .ok a h := nr rfl
@[simp] theorem runH_ap (n : Nat) (b : SM) (ds : List AV) : runH n b ds h = (b (startE n ds) h).fin := nr rfl
@[simp] theorem eCall_ap (n : Nat) (m : FM) (fa : EM (List AV)) : eCall n m fa ρ h = (fa ρ h).bind fun ds h => if ds.length = n then m ds h else .no := nr rfl
@[simp] theorem eCallK_ap (n : Nat) (m : FM) (k : Nat) (pi : List Nat) (fa : EM (List AV)) : eCallK n m k pi fa ρ h = (fa ρ h).bind fun ds h => if ds.length = k ∧ (DP.pick pi ds).length = n then m (DP.pick pi ds) h else .no := nr rfl
/-! slices -/
@[simp] theorem partM_none : partM none ρ h = .ok none h := nr rfl
def partR (d : AV) (h : AH) : RR (Option Int) := match d with | .int i => .ok (some i) h | _ => .no
@[simp] theorem partR_int (i : Int) : partR (.int i) h = .ok (some i) h := nr rfl
@[simp] theorem partM_some (f : EM AV) : partM (some f) ρ h = (f ρ h).bind fun d h => partR d h := by
  refine nr ?_
  show (f ρ h).bind _ = _
  congr 1
  funext d h
  cases d <;> rfl
@[simp] theorem eSl_ap (f : EM AV) (lo hi : Option (EM AV)) : eSl f lo hi ρ h = (f ρ h).bind fun x h => (partM lo ρ h).bind fun l h => (partM hi ρ h).bind fun u h => opR (gSl x l u h) h := nr rfl
@[simp] theorem gSl_tup (ds : List AV) (lo hi : Option Int) : gSl (.tup ds) lo hi h = some (.val (.tup (cutA ds lo hi))) := nr rfl
@[simp] theorem gSl_scr (ns : List Int) (lo hi : Option Int) : gSl (.scr ns) lo hi h = some (.new (.lst (cutA (ns.map .int) lo hi))) := nr rfl
@[simp] theorem gSl_ref (n : Nat) (lo hi : Option Int) : gSl (.ref n) lo hi h = (lstAt h n).map fun ds => .new (.lst (cutA ds lo hi)) := nr rfl
/-! stores, methods -/
def setS (o k d : AV) (ρ : Env) (h : AH) : Ou := match o with | .ref n => (match setAt h n k d with | some h' => .nx ρ h' | none => .no) | _ => .no
def hO (o : Option AH) (ρ : Env) : Ou := match o with | some h' => .nx ρ h' | none => .no
@[simp] theorem hO_some (h' : AH) : hO (some h') ρ = .nx ρ h' := nr rfl
@[simp] theorem setS_ref (n : Nat) (k d : AV) : setS (.ref n) k d ρ h = hO (setAt h n k d) ρ := by
  refine nr ?_
  unfold setS hO
  rfl
@[simp] theorem gSub1_ap (fo fk : EM AV) (d : AV) : gSub1 fo fk d ρ h = (fo ρ h).ou ρ fun o h => (fk ρ h).ou ρ fun k h => setS o k d ρ h := by
  refine nr ?_
  unfold gSub1
  rw [bndS_ap]
  rfl
def mR (o : Option (AV × AH)) : RR AV := match o with | some (d, h') => .ok d h' | none => .no
@[simp] theorem mR_some (d : AV) (h' : AH) : mR (some (d, h')) = .ok d h' := nr rfl
@[simp] theorem eMeth_ap (T : String) (g : MR) (fo : EM AV) (fa : EM (List AV)) : eMeth T g fo fa ρ h = (fo ρ h).bind fun x h => if tyM T h x = true then (fa ρ h).bind fun xs h => mR (g h x xs) else .no := by
  refine nr ?_
  unfold eMeth
  rw [bnd_ap]
  rfl
@[simp] theorem eGet2_ap (fo fk fx : EM AV) : eGet2 fo fk fx ρ h = (fo ρ h).bind fun o h => if isDicA h o = true then (fk ρ h).bind fun k h => (fx ρ h).bind fun x h => opR ((getA h o k x).map .val) h else .no := by
  refine nr ?_
  unfold eGet2
  rw [bnd_ap]
  rfl
end
/-! ### the told heap -/
section
variable {h l : AH} {c : Cell} {n k : Nat} {xs : List AV} {kvs : List (Key × AV)}
@[simp] theorem get_len (h l : AH) : (h ++ l)[h.length]? = l[0]? := by
  rw [List.getElem?_append_right (Nat.le_refl _)]; simp
@[simp] theorem get_add (h l : AH) (k : Nat) : (h ++ l)[h.length + k]? = l[k]? := by
  rw [List.getElem?_append_right (Nat.le_add_right _ _)]; simp
theorem get_pre (e : h[n]? = some c) (l : AH) : (h ++ l)[n]? = some c := pre_get (List.prefix_append _ _) e
@[simp] theorem set_len (h l : AH) (c : Cell) : (h ++ l).set h.length c = h ++ l.set 0 c := by
  rw [List.set_append_right _ _ (Nat.le_refl _)]; simp
@[simp] theorem set_add (h l : AH) (k : Nat) (c : Cell) : (h ++ l).set (h.length + k) c = h ++ l.set k c := by
  rw [List.set_append_right _ _ (Nat.le_add_right _ _)]; simp
theorem set_pre (hn : n < h.length) (l : AH) (c : Cell) : (h ++ l).set n c = h.set n c ++ l := by
  rw [List.set_append_left _ _ hn]
theorem lstAt_of (e : h[n]? = some (.lst xs)) : lstAt h n = some xs := by unfold lstAt; rw [e]
def celL : Option Cell → Option (List AV)
  | some (.lst xs) => some xs
  | _ => none
@[simp] theorem celL_lst (xs : List AV) : celL (some (.lst xs)) = some xs := nr rfl
theorem lstAt_cel (h : AH) (n : Nat) : lstAt h n = celL h[n]? := by
  unfold lstAt celL
  cases h[n]? with
  | none => rfl
  | some c => cases c <;> rfl
theorem kept_nil' : kept h [] = True := by simp [kept]
theorem kept_cons (p : Nat × Cell) (r : List (Nat × Cell)) : kept h (p :: r) = (h[p.1]? = some p.2 ∧ kept h r) := by simp [kept]
end
end HL
/-! QLB: loops and comprehensions, run; ints; facts of ranges. -/
namespace HL
open PySem L2
/-- h, and more behind it -/
def Gr (h h' : AH) : Prop := ∃ g, h' = h ++ g
theorem Gr.refl (h : AH) : Gr h h := ⟨[], by simp⟩
theorem Gr.trans {h h' h'' : AH} (a : Gr h h') (b : Gr h' h'') : Gr h h'' := by
  obtain ⟨g, rfl⟩ := a
  obtain ⟨k, rfl⟩ := b
  exact ⟨g ++ k, by simp⟩
theorem Gr.add (h g : AH) : Gr h (h ++ g) := ⟨g, rfl⟩
theorem Gr.get {h h' : AH} {n : Nat} {c : Cell} (a : Gr h h') (e : h[n]? = some c) : h'[n]? = some c := by
  obtain ⟨g, rfl⟩ := a
  exact get_pre e g
theorem kept_gr {h h' : AH} {k : List (Nat × Cell)} (a : Gr h h') (e : kept h k) : kept h' k := fun p m => a.get (e p m)
/-- a comprehension whose tests and items only add to the heap -/
theorem eComp_run {it : EM Sr} {g : AV → SM} {vs : List Nat} {cond : EM Bool} {elt : EM AV} {ρ : Env} {h h1 : AH} {keep : List (Nat × Cell)} {α : Type} {enc : α → AV} {xs : List α} (p : α → Bool) (f : α → AV)
    (hi : it ρ h = .ok ⟨xs.map enc, keep⟩ h1) (hk : kept h1 keep) (hz : xs.length ≤ 10000000)
    (hb : ∀ x ∈ xs, ∀ h2, Gr h1 h2 → ∃ ρ3 h3 h4, g (enc x) (wipeE ρ vs) h2 = .nx ρ3 h3 ∧ Gr h2 h3 ∧ cond ρ3 h3 = .ok (p x) h4 ∧ Gr h3 h4 ∧ (p x = true → ∃ h5, elt ρ3 h4 = .ok (f x) h5 ∧ Gr h4 h5)) :
    ∃ h2, Gr h1 h2 ∧ eComp it g vs cond elt ρ h = .ok (.ref h2.length) (h2 ++ [.lst ((xs.filter p).map f)]) := by
  have key : ∀ (ys : List α) (acc : List AV) (h2 : AH), (∀ y ∈ ys, y ∈ xs) → acc.length + ys.length ≤ 10000000 → Gr h1 h2 → ∃ h3, Gr h1 h3 ∧ compG keep g cond (inLst elt) (wipeE ρ vs) (ys.map enc) acc h2 = .ok (acc ++ (ys.filter p).map f) h3 := by
    intro ys
    induction ys with
    | nil => intro acc h2 _ _ gr; exact ⟨h2, gr, by simp [compG, kept_gr gr hk]⟩
    | cons y ys ih =>
      intro acc h2 hy hl gr
      simp only [List.length_cons] at hl
      obtain ⟨ρ3, h3, h4, e1, g1, e2, g2, e3⟩ := hb y (hy y (List.mem_cons_self ..)) h2 gr
      simp only [List.map_cons, compG, kept_gr gr hk, if_true, e1, e2]
      cases hp : p y with
      | false =>
        simp only [List.filter_cons, hp]
        exact ih acc h4 (fun z hz => hy z (List.mem_cons_of_mem _ hz)) (by omega) ((gr.trans g1).trans g2)
      | true =>
        obtain ⟨h5, e5, g5⟩ := e3 hp
        have hs : DP.smallL acc.length = true := by simp [DP.smallL]; omega
        simp only [inLst, e5, hs, if_true, List.filter_cons, hp, List.map_cons]
        obtain ⟨h6, g6, e6⟩ := ih (acc ++ [f y]) h5 (fun z hz => hy z (List.mem_cons_of_mem _ hz)) (by simp; omega) (((gr.trans g1).trans g2).trans g5)
        exact ⟨h6, g6, by rw [e6]; simp⟩
  obtain ⟨h2, g2, e2⟩ := key xs [] h1 (fun _ m => m) (by simpa using hz) (Gr.refl h1)
  refine ⟨h2, g2, ?_⟩
  unfold eComp
  rw [bnd_ap, hi, bind_ok]
  simp only [e2, List.nil_append]
theorem eComp_all {it : EM Sr} {g : AV → SM} {vs : List Nat} {cond : EM Bool} {elt : EM AV} {ρ : Env} {h h1 : AH} {keep : List (Nat × Cell)} {α : Type} {enc : α → AV} {xs : List α} (f : α → AV)
    (hi : it ρ h = .ok ⟨xs.map enc, keep⟩ h1) (hk : kept h1 keep) (hz : xs.length ≤ 10000000)
    (hb : ∀ x ∈ xs, ∀ h2, Gr h1 h2 → ∃ ρ3 h3 h4, g (enc x) (wipeE ρ vs) h2 = .nx ρ3 h3 ∧ Gr h2 h3 ∧ cond ρ3 h3 = .ok true h4 ∧ Gr h3 h4 ∧ ∃ h5, elt ρ3 h4 = .ok (f x) h5 ∧ Gr h4 h5) :
    ∃ h2, Gr h1 h2 ∧ eComp it g vs cond elt ρ h = .ok (.ref h2.length) (h2 ++ [.lst (xs.map f)]) := by
  obtain ⟨h2, g2, e⟩ := eComp_run (p := fun _ => true) (f := f) hi hk hz fun x hx h2 g2 => by
    obtain ⟨ρ3, h3, h4, a, b, c, d, e⟩ := hb x hx h2 g2
    exact ⟨ρ3, h3, h4, a, b, c, d, fun _ => e⟩
  exact ⟨h2, g2, by rw [e, List.filter_eq_self.mpr fun _ _ => rfl]⟩
/-- what a loop asks of its body's end -/
def Ou.steps (o : Ou) (P : Env → AH → Prop) (Q : Ou → Prop) : Prop := match o with
  | .nx ρ h => P ρ h
  | .ct ρ h => P ρ h
  | .bk ρ h => Q (.nx ρ h)
  | .no => False
  | o => Q o
section
variable {P : Env → AH → Prop} {Q : Ou → Prop} {ρ : Env} {h : AH}
@[simp] theorem steps_nx : (Ou.nx ρ h).steps P Q = P ρ h := nr rfl
@[simp] theorem steps_ct : (Ou.ct ρ h).steps P Q = P ρ h := nr rfl
@[simp] theorem steps_bk : (Ou.bk ρ h).steps P Q = Q (.nx ρ h) := nr rfl
@[simp] theorem steps_rt (r : AV) : (Ou.rt r h).steps P Q = Q (.rt r h) := nr rfl
@[simp] theorem steps_ex (r : Exn) : (Ou.ex r ρ h).steps P Q = Q (.ex r ρ h) := nr rfl
end
/-- a loop by its invariant -/
theorem forL_inv {keep : List (Nat × Cell)} {g : AV → SM} {body : SM} {α : Type} {enc : α → AV} {Q : Ou → Prop} (I : List α → Env → AH → Prop) {xs : List α} {ρ : Env} {h : AH} (h0 : I [] ρ h)
    (hk : ∀ ys ρ h, I ys ρ h → kept h keep)
    (hs : ∀ ys y zs ρ h, xs = ys ++ y :: zs → I ys ρ h → ∃ ρ1 h1, g (enc y) ρ h = .nx ρ1 h1 ∧ (body ρ1 h1).steps (I (ys ++ [y])) Q)
    (hn : ∀ ρ h, I xs ρ h → Q (.nx ρ h)) : Q (forL keep g body (xs.map enc) ρ h) := by
  have key : ∀ (zs ys : List α) (ρ : Env) (h : AH), xs = ys ++ zs → I ys ρ h → Q (forL keep g body (zs.map enc) ρ h) := by
    intro zs
    induction zs with
    | nil =>
      intro ys ρ h e i
      simp at e
      subst e
      simp only [List.map_nil, forL, hk _ _ _ i, if_true]
      exact hn ρ h i
    | cons z zs ih =>
      intro ys ρ h e i
      obtain ⟨ρ1, h1, e1, e2⟩ := hs ys z zs ρ h e i
      simp only [List.map_cons, forL, hk _ _ _ i, if_true, e1]
      have e' : xs = (ys ++ [z]) ++ zs := by simp [e]
      cases eb : body ρ1 h1 <;> rw [eb] at e2 <;> simp only [Ou.steps] at e2 ⊢
      · exact ih _ _ _ e' e2
      · exact e2
      · exact e2
      · exact ih _ _ _ e' e2
      · exact e2
  exact key xs [] ρ h rfl h0
theorem seq_of {o : Ou} {k : SM} {P : Ou → Prop} (Q : Env → AH → Prop) (e : ∃ ρ h, o = .nx ρ h ∧ Q ρ h) (hk : ∀ ρ h, Q ρ h → P (k ρ h)) : P (o.seq k) := by
  obtain ⟨ρ, h, rfl, q⟩ := e
  exact hk ρ h q
/-- a loop's end, where it goes through -/
theorem forL_nx {keep : List (Nat × Cell)} {g : AV → SM} {body : SM} {α : Type} {enc : α → AV} (I : List α → Env → AH → Prop) {xs : List α} {ρ : Env} {h : AH} (h0 : I [] ρ h)
    (hk : ∀ ys ρ h, I ys ρ h → kept h keep)
    (hs : ∀ ys y zs ρ h, xs = ys ++ y :: zs → I ys ρ h → ∃ ρ1 h1 ρ2 h2, g (enc y) ρ h = .nx ρ1 h1 ∧ (body ρ1 h1 = .nx ρ2 h2 ∨ body ρ1 h1 = .ct ρ2 h2) ∧ I (ys ++ [y]) ρ2 h2) : ∃ ρ' h', forL keep g body (xs.map enc) ρ h = .nx ρ' h' ∧ I xs ρ' h' := by
  refine forL_inv (Q := fun o => ∃ ρ' h', o = .nx ρ' h' ∧ I xs ρ' h') I h0 hk (fun ys y zs ρ h e i => ?_) fun ρ h i => ⟨ρ, h, rfl, i⟩
  obtain ⟨ρ1, h1, ρ2, h2, e1, e2, i2⟩ := hs ys y zs ρ h e i
  refine ⟨ρ1, h1, e1, ?_⟩
  rcases e2 with e2 | e2 <;> rw [e2] <;> exact i2
/-! ### dict comprehensions, sets: folds -/
theorem compG_fold {β : Type} {keep : List (Nat × Cell)} {g : AV → SM} {cond : EM Bool} {inner : Env → β → AH → RR β} {ρ : Env} {α : Type} {enc : α → AV} {xs : List α} (p : α → Bool) (f : β → α → β) {b : β} {h : AH} (hk : kept h keep) (I : β → Prop) (h0 : I b)
    (hb : ∀ x ∈ xs, ∀ acc h2, Gr h h2 → I acc → ∃ ρ3 h3 h4, g (enc x) ρ h2 = .nx ρ3 h3 ∧ Gr h2 h3 ∧ cond ρ3 h3 = .ok (p x) h4 ∧ Gr h3 h4 ∧ (p x = true → ∃ h5, inner ρ3 acc h4 = .ok (f acc x) h5 ∧ Gr h4 h5 ∧ I (f acc x))) :
    ∃ h2, Gr h h2 ∧ compG keep g cond inner ρ (xs.map enc) b h = .ok ((xs.filter p).foldl f b) h2 := by
  have key : ∀ (ys : List α) (acc : β) (h2 : AH), (∀ y ∈ ys, y ∈ xs) → Gr h h2 → I acc → ∃ h3, Gr h h3 ∧ compG keep g cond inner ρ (ys.map enc) acc h2 = .ok ((ys.filter p).foldl f acc) h3 := by
    intro ys
    induction ys with
    | nil => intro acc h2 _ gr _; exact ⟨h2, gr, by simp [compG, kept_gr gr hk]⟩
    | cons y ys ih =>
      intro acc h2 hy gr ia
      obtain ⟨ρ3, h3, h4, e1, g1, e2, g2, e3⟩ := hb y (hy y (List.mem_cons_self ..)) acc h2 gr ia
      simp only [List.map_cons, compG, kept_gr gr hk, if_true, e1, e2]
      cases hp : p y with
      | false =>
        simp only [List.filter_cons, hp]
        exact ih acc h4 (fun z hz => hy z (List.mem_cons_of_mem _ hz)) ((gr.trans g1).trans g2) ia
      | true =>
        obtain ⟨h5, e5, g5, i5⟩ := e3 hp
        simp only [e5, List.filter_cons, hp, if_true, List.foldl_cons]
        exact ih _ h5 (fun z hz => hy z (List.mem_cons_of_mem _ hz)) (((gr.trans g1).trans g2).trans g5) i5
  exact key xs b h (fun _ m => m) (Gr.refl h) h0
/-! ### ints -/
section
variable {h : AH} {i j : Int}
@[simp] theorem gAdd_int (i j : Int) : gAdd h (.int i) (.int j) = some (.val (.int (i + j))) := nr rfl
@[simp] theorem gSub_int (i j : Int) : gSub h (.int i) (.int j) = some (.val (.int (i - j))) := nr rfl
@[simp] theorem gLt_int (i j : Int) : gLt h (.int i) (.int j) = some (.val (.bl (decide (i < j)))) := nr rfl
@[simp] theorem gLe_int (i j : Int) : gLe h (.int i) (.int j) = some (.val (.bl (decide (i ≤ j)))) := nr rfl
@[simp] theorem gGt_int (i j : Int) : gGt h (.int i) (.int j) = some (.val (.bl (decide (j < i)))) := nr rfl
@[simp] theorem gGe_int (i j : Int) : gGe h (.int i) (.int j) = some (.val (.bl (decide (j ≤ i)))) := nr rfl
@[simp] theorem gNeg_int (i : Int) : gNeg h (.int i) = some (.val (.int (-i))) := nr rfl
@[simp] theorem gAbs_int (i : Int) : gAbs h [.int i] = some (.val (.int (if i < 0 then -i else i))) := nr rfl
@[simp] theorem gInt_int (i : Int) : gInt h [.int i] = some (.val (.int i)) := nr rfl
@[simp] theorem gInt_bl (k : Bool) : gInt h [.bl k] = some (.val (.int (if k then 1 else 0))) := nr rfl
@[simp] theorem gMax2_int (i j : Int) : gMax2 h [.int i, .int j] = some (.val (.int (max i j))) := by
  show some (RA.val (.int (if j > i then j else i))) = _
  congr 3
  rw [Int.max_def]; split <;> split <;> omega
@[simp] theorem gMin2_int (i j : Int) : gMin2 h [.int i, .int j] = some (.val (.int (min i j))) := by
  show some (RA.val (.int (if j < i then j else i))) = _
  congr 3
  rw [Int.min_def]; split <;> split <;> omega
theorem gMod_int (hj : 0 < j) : gMod h (.int i) (.int j) = some (.val (.int (i % j))) := by simp [gMod, aI, hj]
theorem gFdiv_int (hj : 0 < j) (h2 : j < 2 ^ 200) : gFdiv h (.int i) (.int j) = some (.val (.int (i / j))) := by simp [gFdiv, aI, DP.divOk]; omega
theorem gMul_l (hi : -18446744073709551616 < i ∧ i < 18446744073709551616) : gMul h (.int i) (.int j) = some (.val (.int (i * j))) := by simp [gMul, DP.mulOk, hi]
theorem gMul_r (hj : -18446744073709551616 < j ∧ j < 18446744073709551616) : gMul h (.int i) (.int j) = some (.val (.int (i * j))) := by simp [gMul, DP.mulOk, hj]
theorem gPow_int (hj : 0 ≤ j ∧ j ≤ 1000000) (h2 : i.natAbs < 18446744073709551616) : gPow h (.int i) (.int j) = some (.val (.int (i ^ j.toNat))) := by simp [gPow, aI, DP.powOk, hj, h2]
theorem in62_of (h0 : 0 ≤ i) (h1 : i ≤ 1000000000) : DP.in62 i = true := by unfold DP.in62; simp; omega
end
end HL
/-! QLC: built-ins on told lists; items; dicts. -/
namespace HL
open PySem L2
section
variable {h : AH} {n : Nat} {xs ys : List AV} {kvs : List (Key × AV)} {i : Int}
@[simp] theorem intsA_map (ns : List Int) : intsA (ns.map .int) = some ns := by
  induction ns with
  | nil => rfl
  | cons n ns ih => simp [intsA, ih]
@[simp] theorem intsA_take (k : Nat) (ns : List Int) : intsA ((ns.map .int).take k) = some (ns.take k) := by
  rw [← List.map_take, intsA_map]
@[simp] theorem intsA_map' {α : Type} (f : α → Int) (ns : List α) : intsA (ns.map fun x => .int (f x)) = some (ns.map f) := by
  induction ns with
  | nil => rfl
  | cons n ns ih => simp [intsA, ih]
@[simp] theorem blsA_map (ns : List Bool) : blsA (ns.map .bl) = some ns := by
  induction ns with
  | nil => rfl
  | cons n ns ih => simp [blsA, ih]
@[simp] theorem blsA_map' {α : Type} (f : α → Bool) (ns : List α) : blsA (ns.map fun x => .bl (f x)) = some (ns.map f) := by
  induction ns with
  | nil => rfl
  | cons n ns ih => simp [blsA, ih]
@[simp] theorem gSum_ref (n : Nat) : gSum h [.ref n] = (celL h[n]?).bind fun ds => (intsA ds).map fun ns => .val (.int ns.sum) := by
  refine nr ?_
  rw [← lstAt_cel]
  rfl
@[simp] theorem gAll_ref (n : Nat) : gAll h [.ref n] = (celL h[n]?).bind fun ds => (blsA ds).map fun ns => .val (.bl (ns.all id)) := by
  refine nr ?_
  rw [← lstAt_cel]
  rfl
@[simp] theorem gAny_ref (n : Nat) : gAny h [.ref n] = (celL h[n]?).bind fun ds => (blsA ds).map fun ns => .val (.bl (ns.any id)) := by
  refine nr ?_
  rw [← lstAt_cel]
  rfl
@[simp] theorem gLen_ref (n : Nat) : gLen h [.ref n] = (celL h[n]?).map fun ds => .val (.int ds.length) := by
  refine nr ?_
  rw [← lstAt_cel]
  rfl
@[simp] theorem gLen_tup (xs : List AV) : gLen h [.tup xs] = some (.val (.int xs.length)) := nr rfl
@[simp] theorem gLen_scr (ns : List Int) : gLen h [.scr ns] = some (.val (.int ns.length)) := nr rfl
@[simp] theorem gList_ref (n : Nat) : gList h [.ref n] = (celL h[n]?).map fun ds => .new (.lst ds) := by
  refine nr ?_
  rw [← lstAt_cel]
  rfl
@[simp] theorem gList_tup (xs : List AV) : gList h [.tup xs] = some (.new (.lst xs)) := nr rfl
@[simp] theorem gTuple_ref (n : Nat) : gTuple h [.ref n] = (celL h[n]?).map fun ds => .val (.tup ds) := by
  refine nr ?_
  rw [← lstAt_cel]
  rfl
@[simp] theorem gTuple_tup (xs : List AV) : gTuple h [.tup xs] = some (.val (.tup xs)) := nr rfl
@[simp] theorem gAdd_tup (xs ys : List AV) : gAdd h (.tup xs) (.tup ys) = if DP.smallL (xs.length + ys.length) = true then some (.val (.tup (xs ++ ys))) else none := nr rfl
def catO (a b : Option (List AV)) : Option RA := match a, b with
  | some xs, some ys => if DP.smallL (xs.length + ys.length) = true then some (.new (.lst (xs ++ ys))) else none
  | _, _ => none
@[simp] theorem catO_some (xs ys : List AV) : catO (some xs) (some ys) = if DP.smallL (xs.length + ys.length) = true then some (.new (.lst (xs ++ ys))) else none := nr rfl
@[simp] theorem gAdd_ref (n m : Nat) : gAdd h (.ref n) (.ref m) = catO (celL h[n]?) (celL h[m]?) := by
  refine nr ?_
  rw [← lstAt_cel, ← lstAt_cel]
  rfl
@[simp] theorem gIx_tup (xs : List AV) (i : Int) : gIx h (.tup xs) (.int i) = (atI xs i).map .val := nr rfl
@[simp] theorem gIx_scr (ns : List Int) (i : Int) : gIx h (.scr ns) (.int i) = (atI ns i).map fun x => .val (.int x) := nr rfl
def ixC (c : Option Cell) (k : AV) : Option RA := match c with
  | some (.lst ds) => (match k with | .int i => (atI ds i).map .val | _ => none)
  | some (.dic kvs) => (match keyA k with | some q => (lookA kvs q).map .val | none => none)
  | _ => none
@[simp] theorem ixC_lst (xs : List AV) (i : Int) : ixC (some (.lst xs)) (.int i) = (atI xs i).map .val := nr rfl
@[simp] theorem ixC_dic (kvs : List (Key × AV)) (i : Int) : ixC (some (.dic kvs)) (.int i) = (lookA kvs (.inl i)).map .val := nr rfl
@[simp] theorem gIx_ref (n : Nat) (k : AV) : gIx h (.ref n) k = ixC h[n]? k := by
  refine nr ?_
  unfold gIx ixC
  cases e : h[n]? with
  | none => cases k <;> simp [e]
  | some c => cases c <;> cases k <;> simp [e] <;> rfl
def setC (c : Option Cell) (h : AH) (n : Nat) (k v : AV) : Option AH := match c with
  | some (.lst ds) => (match k with | .int i => (ixN ds.length i).map fun j => h.set n (.lst (ds.set j v)) | _ => none)
  | some (.dic kvs) => (match keyA k with | some q => if DP.smallL kvs.length = true then some (h.set n (.dic (putA kvs q v))) else none | none => none)
  | _ => none
@[simp] theorem setAt_ap (n : Nat) (k v : AV) : setAt h n k v = setC h[n]? h n k v := nr rfl
@[simp] theorem setC_lst (xs : List AV) (i : Int) (v : AV) : setC (some (.lst xs)) h n (.int i) v = (ixN xs.length i).map fun j => h.set n (.lst (xs.set j v)) := nr rfl
@[simp] theorem setC_dic (kvs : List (Key × AV)) (i : Int) (v : AV) : setC (some (.dic kvs)) h n (.int i) v = if DP.smallL kvs.length = true then some (h.set n (.dic (putA kvs (.inl i) v))) else none := nr rfl
/-! methods -/
def tyC (c : Option Cell) (T : String) : Bool := match c with
  | some (.lst _) => decide (T = "list")
  | some (.dic _) => decide (T = "dict")
  | some (.set _) => decide (T = "set")
  | _ => false
@[simp] theorem tyM_ref (T : String) (n : Nat) : tyM T h (.ref n) = tyC h[n]? T := nr rfl
@[simp] theorem tyC_l (xs : List AV) : tyC (some (.lst xs)) "list" = true := nr rfl
@[simp] theorem tyC_d (xs : List (Key × AV)) : tyC (some (.dic xs)) "dict" = true := nr rfl
@[simp] theorem mAppend_ref (n : Nat) (d : AV) : mAppend h (.ref n) [d] = (celL h[n]?).bind fun xs => if DP.smallL xs.length = true then some (.non, h.set n (.lst (xs ++ [d]))) else none := by
  refine nr ?_
  rw [← lstAt_cel]
  rfl
def dicC (c : Option Cell) : Option (List (Key × AV)) := match c with
  | some (.dic kvs) => some kvs
  | _ => none
@[simp] theorem dicC_d (xs : List (Key × AV)) : dicC (some (.dic xs)) = some xs := nr rfl
@[simp] theorem isDicA_ref (n : Nat) : isDicA h (.ref n) = (dicC h[n]?).isSome := by
  refine nr ?_
  unfold isDicA dicC
  dsimp only
  cases h[n]? with
  | none => rfl
  | some c => cases c <;> rfl
@[simp] theorem getA_ref (n : Nat) (k x : AV) : getA h (.ref n) k x = (dicC h[n]?).bind fun kvs => (keyA k).map fun q => (lookA kvs q).getD x := by
  refine nr ?_
  unfold getA dicC
  dsimp only
  cases h[n]? with
  | none => rfl
  | some c => cases c <;> rfl
@[simp] theorem keyA_int (i : Int) : keyA (.int i) = some (.inl i) := nr rfl
theorem cut63_ix (n : Nat) : (HT.sIx n n (some 63) - HT.sIx n 0 none) = min 63 n ∨ (63 ≤ n ∧ HT.sIx n n (some 63) - HT.sIx n 0 none = 63) ∨ (n ≤ 63 ∧ n ≤ HT.sIx n n (some 63) - HT.sIx n 0 none) := by
  have h := congrArg List.length (DP.cut63 (List.replicate n 0))
  unfold DP.cutD at h
  simp only [List.length_map, List.length_replicate, List.length_take, List.length_drop] at h
  have e : HT.sIx n 0 none = 0 := rfl
  rw [e] at h ⊢
  omega
@[simp] theorem cut63 (ns : List Int) : cutA (ns.map AV.int) none (some 63) = (ns.take 63).map AV.int := by
  unfold cutA
  rw [List.length_map]
  have e : HT.sIx ns.length 0 none = 0 := rfl
  have hz := cut63_ix ns.length
  rw [e] at hz ⊢
  rw [List.drop_zero, List.map_take]
  generalize HT.sIx ns.length ns.length (some 63) - 0 = z at hz
  by_cases h1 : ns.length ≤ 63
  · rw [List.take_of_length_le (by simp; omega), List.take_of_length_le (by simp; omega)]
  · have : z = 63 := by omega
    rw [this]
end
/-! ### the pool -/
def PoolC (c : Cell) : Prop := ∃ g x : Int, c = .lst [.int g, .int x] ∧ 0 ≤ g ∧ 0 ≤ x ∧ x < 2147483647
end HL
/-! QLD: data read off the heap, comparisons, sorted, repr, isinstance; dicts with int keys; comprehensions that leave the heap. -/
namespace HL
open PySem L2
section
variable {h : AH} {x y : AV} {d e : PyData}
theorem isDs_map {α : Type} {f : α → AV} {g : α → PyData} : ∀ {xs : List α}, (∀ x ∈ xs, IsD h (f x) (g x)) → IsDs h (xs.map f) (xs.map g)
  | [], _ => .nil
  | x :: xs, p => .cons (p x (List.mem_cons_self ..)) (isDs_map fun y hy => p y (List.mem_cons_of_mem _ hy))
def termA (t : Int × Int) : AV := .tup [.int t.1, .int t.2]
def sumA (s : DP.Sm) : AV := .tup [.tup (s.1.map termA), .int s.2]
def fillA (f : List Bool) : AV := .tup (f.map .bl)
@[simp] theorem gIx_sum0 (s : DP.Sm) : gIx h (sumA s) (.int 0) = some (.val (.tup (s.1.map termA))) := nr rfl
@[simp] theorem gIx_sum1 (s : DP.Sm) : gIx h (sumA s) (.int 1) = some (.val (.int s.2)) := nr rfl
@[simp] theorem gIx_term0 (s : Int × Int) : gIx h (termA s) (.int 0) = some (.val (.int s.1)) := nr rfl
@[simp] theorem gIx_term1 (s : Int × Int) : gIx h (termA s) (.int 1) = some (.val (.int s.2)) := nr rfl
@[simp] theorem gLen_sum (s : DP.Sm) : gLen h [sumA s] = some (.val (.int 2)) := nr rfl
@[simp] theorem gLen_term (s : Int × Int) : gLen h [termA s] = some (.val (.int 2)) := nr rfl
theorem sumA_ap (ts : List (Int × Int)) (l : Int) : sumA (ts, l) = .tup [.tup (ts.map termA), .int l] := rfl
theorem isD_term (t : Int × Int) : IsD h (termA t) (DP.dTerm t) := .tup (.cons (.int _) (.cons (.int _) .nil))
theorem isD_sum (s : DP.Sm) : IsD h (sumA s) (DP.dSum s) := .tup (.cons (.tup (isDs_map fun t _ => isD_term t)) (.cons (.int _) .nil))
theorem isD_fill (f : List Bool) : IsD h (fillA f) (DP.dFill f) := .tup (isDs_map fun b _ => .bl b)
theorem isD_terms {n : Nat} {ts : List (Int × Int)} (e : h[n]? = some (.lst (ts.map termA))) : IsD h (.ref n) (.list (ts.map DP.dTerm)) := .lst e (isDs_map fun t _ => isD_term t)
theorem gEq_rd {neg : Bool} {n m : Nat} (hd : IsD h x d) (he : IsD h y e) (sd : DP.ShD n d) (se : DP.ShD m e) (hn : n ≤ 64 := by decide) (hm : m ≤ 64 := by decide) : gEq neg h x y = some (.val (.bl (if neg = true then !PyData.eqv d e else PyData.eqv d e))) := by
  unfold gEq lift2
  rw [readD_of hd, readD_of he]
  simp only [Option.bind_some, DP.gEq_of sd se hn hm, liftRc, flat, Option.map_some]
@[simp] theorem gEq_int (neg : Bool) (i j : Int) : gEq neg h (.int i) (.int j) = some (.val (.bl (if neg = true then !decide (i = j) else decide (i = j)))) := by
  rw [gEq_rd (.int i) (.int j) (DP.shInt 0 i) (DP.shInt 0 j), DP.eqv_int]
@[simp] theorem gEq_bl (neg : Bool) (i j : Bool) : gEq neg h (.bl i) (.bl j) = some (.val (.bl (if neg = true then !decide (i = j) else decide (i = j)))) := by
  rw [gEq_rd (.bl i) (.bl j) (DP.shBool 0 i) (DP.shBool 0 j), DP.eqv_bool]
theorem eqv_sum (s t : DP.Sm) : PyData.eqv (DP.dSum s) (DP.dSum t) = decide (s = t) := by
  obtain ⟨a, b⟩ := s
  obtain ⟨a', b'⟩ := t
  simp only [DP.dSum, PyData.eqv, PyData.eqvAll, DP.eqvAll_inj DP.eqv_term, Bool.and_true]
  by_cases h1 : a = a' <;> by_cases h2 : b = b' <;> simp [h1, h2]
@[simp] theorem gEq_sum (neg : Bool) (s t : DP.Sm) : gEq neg h (sumA s) (sumA t) = some (.val (.bl (if neg = true then !decide (s = t) else decide (s = t)))) := by
  rw [gEq_rd (isD_sum s) (isD_sum t) (DP.sh_sum s) (DP.sh_sum t), eqv_sum]
@[simp] theorem gEqS_str (neg : Bool) (x y : Str) : gEqS neg h (.str x) (.str y) = some (.val (.bl (if neg = true then !decide (x = y) else decide (x = y)))) := by
  unfold gEqS lift2
  rw [readD_of (.str x), readD_of (.str y)]
  simp only [Option.bind_some, DP.gEqS_ap, liftRc, flat, Option.map_some]
theorem gRepr_of {B n : Nat} (r : IsD h x d) (p : DP.Nice B n d) (hn : n ≤ 60 := by decide) (hB : B ≤ 10000000 := by omega) : gRepr h [x] = some (.val (.str d.shown)) := by
  unfold gRepr liftN
  rw [readDs_of (.cons r .nil)]
  simp only [Option.bind_some, DP.gReprA_of p hn hB, liftRc, flat, Option.map_some]
theorem flats_map {α : Type} {f : α → AV} {g : α → PyData} (p : ∀ x, flat (g x) = some (f x)) : ∀ xs : List α, flats (xs.map g) = some (xs.map f)
  | [] => rfl
  | x :: xs => by simp [flats, p, flats_map p xs]
theorem flat_fill (f : List Bool) : flat (DP.dFill f) = some (fillA f) := by
  simp only [DP.dFill, flat, flats_map (f := AV.bl) (g := PyData.bool) (fun _ => rfl), Option.map_some, fillA]
/-- sorted of a list of things alike -/
theorem gSort_map {α : Type} {f : α → AV} {g : α → PyData} {n : Nat} {xs : List α} (e : h[n]? = some (.lst (xs.map f))) (r : ∀ x, IsD h (f x) (g x)) (b : ∀ x, flat (g x) = some (f x)) (ok : DP.sortOk (xs.map g) = true) :
    ∃ ys : List α, gSort h [.ref n] = some (.new (.lst (ys.map f))) ∧ ys = xs.mergeSort (fun a b => DP.leD (g a) (g b)) ∧ ys.Perm xs := by
  obtain ⟨ys, e1, e2, e3⟩ := DP.gSorted_map ok
  refine ⟨ys, ?_, e2, e3⟩
  unfold gSort
  simp only [e]
  unfold liftN
  rw [readDs_of (.cons (.lst e (isDs_map fun x _ => r x)) .nil)]
  simp only [Option.bind_some, e1, liftRc, flats_map b, Option.map_some]
theorem gEq_lnil {α : Type} {f : α → AV} {g : α → PyData} {neg : Bool} {p q n : Nat} {xs : List α} (e1 : h[p]? = some (.lst (xs.map f))) (e2 : h[q]? = some (.lst [])) (r : ∀ x ∈ xs, IsD h (f x) (g x)) (s : ∀ x ∈ xs, DP.ShD n (g x)) (hn : n + 1 ≤ 64 := by decide) : gEq neg h (.ref p) (.ref q) = some (.val (.bl (if neg = true then !xs.isEmpty else xs.isEmpty))) := by
  rw [gEq_rd (.lst e1 (isDs_map r)) (.lst e2 .nil) (DP.shList s) (DP.shNil 0) hn]
  have : PyData.eqv (.list (xs.map g)) (.list []) = xs.isEmpty := by cases xs <;> simp [PyData.eqv, PyData.eqvAll]
  rw [this]
theorem gEq_bls {neg : Bool} {p q : Nat} {xs ys : List Bool} (e1 : h[p]? = some (.lst (xs.map .bl))) (e2 : h[q]? = some (.lst (ys.map .bl))) : gEq neg h (.ref p) (.ref q) = some (.val (.bl (if neg = true then !decide (xs = ys) else decide (xs = ys)))) := by
  rw [gEq_rd (.lst e1 (isDs_map (g := PyData.bool) fun b _ => .bl b)) (.lst e2 (isDs_map (g := PyData.bool) fun b _ => .bl b)) (DP.shList (n := 0) fun b _ => DP.shBool 0 b) (DP.shList (n := 0) fun b _ => DP.shBool 0 b)]
  simp only [PyData.eqv, DP.eqvAll_inj DP.eqv_bool]
theorem gEq_sumL (neg : Bool) (s : DP.Sm) (i : Int) : gEq neg h (sumA s) (.tup [.tup [], .int i]) = some (.val (.bl (if neg = true then !decide (s = ([], i)) else decide (s = ([], i))))) := gEq_sum neg s ([], i)
@[simp] theorem gNeg_i (i : Int) : gNeg h (.int i) = some (.val (.int (-i))) := gNeg_int i
/-! isinstance -/
@[simp] theorem isi_ii (i : Int) : gIsi "int" h (.int i) = some (.val (.bl true)) := by
  have : kitB "int" "int" = some true := by decide +kernel
  simp [gIsi, isiA, tyA, this]
@[simp] theorem isi_ib (i : Int) : gIsi "bool" h (.int i) = some (.val (.bl false)) := by
  have : kitB "int" "bool" = some false := by decide +kernel
  simp [gIsi, isiA, tyA, this]
@[simp] theorem isi_it (i : Int) : gIsi "tuple" h (.int i) = some (.val (.bl false)) := by
  have : kitB "int" "tuple" = some false := by decide +kernel
  simp [gIsi, isiA, tyA, this]
@[simp] theorem isi_tt (xs : List AV) : gIsi "tuple" h (.tup xs) = some (.val (.bl true)) := by
  have : kitB "tuple" "tuple" = some true := by decide +kernel
  simp [gIsi, isiA, tyA, this]
@[simp] theorem isi_sumt (s : DP.Sm) : gIsi "tuple" h (sumA s) = some (.val (.bl true)) := isi_tt _
@[simp] theorem isi_termt (s : Int × Int) : gIsi "tuple" h (termA s) = some (.val (.bl true)) := isi_tt _
@[simp] theorem isi_ti (xs : List AV) : gIsi "int" h (.tup xs) = some (.val (.bl false)) := by
  have : kitB "tuple" "int" = some false := by decide +kernel
  simp [gIsi, isiA, tyA, this]
@[simp] theorem gRevL_ref (n : Nat) : gRevL h (.ref n) = (celL h[n]?).map fun ds => .new (.lst ds.reverse) := by
  refine nr ?_
  rw [← lstAt_cel]
  rfl
theorem cut1_t (ds : List AV) : cutA ds (some 1) none = ds.tail := by
  unfold cutA
  cases ds with
  | nil => rfl
  | cons d ds =>
    have e1 : HT.sIx (d :: ds).length 0 (some 1) = 1 := by simp [HT.sIx]
    have e2 : HT.sIx (d :: ds).length (d :: ds).length none = (d :: ds).length := rfl
    rw [e1, e2]
    simp
end
/-! ### what stays of a heap but for some cells -/
structure Fr (X : List Nat) (h h' : AH) : Prop where
  le : h.length ≤ h'.length
  same : ∀ n c, n ∉ X → h[n]? = some c → h'[n]? = some c
theorem Fr.refl (X : List Nat) (h : AH) : Fr X h h := ⟨Nat.le_refl _, fun _ _ _ e => e⟩
theorem Fr.trans {X : List Nat} {h h' h'' : AH} (a : Fr X h h') (b : Fr X h' h'') : Fr X h h'' := ⟨Nat.le_trans a.le b.le, fun n c m e => b.same n c m (a.same n c m e)⟩
theorem Fr.add (X : List Nat) (h g : AH) : Fr X h (h ++ g) := ⟨by simp, fun _ _ _ e => get_pre e g⟩
theorem Fr.gr {X : List Nat} {h h' : AH} (a : Gr h h') : Fr X h h' := by obtain ⟨g, rfl⟩ := a; exact Fr.add X h g
theorem Fr.set {X : List Nat} (h : AH) {n : Nat} (c : Cell) (m : n ∈ X) : Fr X h (h.set n c) := ⟨by simp, fun k d hk e => by rw [List.getElem?_set_ne (by rintro rfl; exact hk m)]; exact e⟩
theorem Fr.mono {X Y : List Nat} {h h' : AH} (a : Fr X h h') (hs : ∀ x ∈ X, x ∈ Y) : Fr Y h h' := ⟨a.le, fun n c m e => a.same n c (fun z => m (hs n z)) e⟩
/-- cells that were not there before may be changed -/
theorem Fr.fresh {X Y : List Nat} {h h' h'' : AH} (a : Fr X h h') (b : Fr Y h' h'') (hs : ∀ y ∈ Y, y ∈ X ∨ h.length ≤ y) : Fr X h h'' := ⟨Nat.le_trans a.le b.le, fun n c m e => b.same n c (fun z => (hs n z).elim m fun l => by have := (List.getElem?_eq_some_iff.mp e).1; omega) (a.same n c m e)⟩
theorem lt_of_get {h : AH} {n : Nat} {c : Cell} (e : h[n]? = some c) : n < h.length := (List.getElem?_eq_some_iff.mp e).1
@[simp] theorem wipeE_nil (ρ : Env) : wipeE ρ [] = ρ := nr rfl
@[simp] theorem wipeE_cons (ρ : Env) (v : Nat) (vs : List Nat) : wipeE ρ (v :: vs) = (wipeE ρ vs).set v none := nr rfl
@[simp] theorem lstAt_cell (h : AH) (n : Nat) : lstAt h n = celL h[n]? := lstAt_cel h n
/-! ### comprehensions that leave the heap -/
theorem eComp_keep {it : EM Sr} {g : AV → SM} {vs : List Nat} {cond : EM Bool} {elt : EM AV} {ρ : Env} {h h1 : AH} {keep : List (Nat × Cell)} {α : Type} {enc : α → AV} {xs : List α} (p : α → Bool) (f : α → AV)
    (hi : it ρ h = .ok ⟨xs.map enc, keep⟩ h1) (hk : kept h1 keep) (hz : xs.length ≤ 10000000)
    (hb : ∀ x ∈ xs, ∃ ρ3, g (enc x) (wipeE ρ vs) h1 = .nx ρ3 h1 ∧ cond ρ3 h1 = .ok (p x) h1 ∧ (p x = true → elt ρ3 h1 = .ok (f x) h1)) :
    eComp it g vs cond elt ρ h = .ok (.ref h1.length) (h1 ++ [.lst ((xs.filter p).map f)]) := by
  have key : ∀ (ys : List α) (acc : List AV), (∀ y ∈ ys, y ∈ xs) → acc.length + ys.length ≤ 10000000 → compG keep g cond (inLst elt) (wipeE ρ vs) (ys.map enc) acc h1 = .ok (acc ++ (ys.filter p).map f) h1 := by
    intro ys
    induction ys with
    | nil => intro acc _ _; simp [compG, hk]
    | cons y ys ih =>
      intro acc hy hl
      simp only [List.length_cons] at hl
      obtain ⟨ρ3, e1, e2, e3⟩ := hb y (hy y (List.mem_cons_self ..))
      simp only [List.map_cons, compG, hk, if_true, e1, e2]
      cases hp : p y with
      | false =>
        simp only [List.filter_cons, hp]
        exact ih acc (fun z hz => hy z (List.mem_cons_of_mem _ hz)) (by omega)
      | true =>
        have hs : DP.smallL acc.length = true := by simp [DP.smallL]; omega
        simp only [inLst, e3 hp, hs, if_true, List.filter_cons, hp, List.map_cons]
        rw [ih (acc ++ [f y]) (fun z hz => hy z (List.mem_cons_of_mem _ hz)) (by simp; omega)]
        simp
  unfold eComp
  rw [bnd_ap, hi, bind_ok]
  simp only [key xs [] (fun _ m => m) (by simpa using hz), List.nil_append]
theorem eComp_keepA {it : EM Sr} {g : AV → SM} {vs : List Nat} {elt : EM AV} {ρ : Env} {h h1 : AH} {keep : List (Nat × Cell)} {α : Type} {enc : α → AV} {xs : List α} (f : α → AV)
    (hi : it ρ h = .ok ⟨xs.map enc, keep⟩ h1) (hk : kept h1 keep) (hz : xs.length ≤ 10000000)
    (hb : ∀ x ∈ xs, ∃ ρ3, g (enc x) (wipeE ρ vs) h1 = .nx ρ3 h1 ∧ elt ρ3 h1 = .ok (f x) h1) :
    eComp it g vs (retM true) elt ρ h = .ok (.ref h1.length) (h1 ++ [.lst (xs.map f)]) := by
  rw [eComp_keep (p := fun _ => true) (f := f) hi hk hz fun x hx => by
    obtain ⟨ρ3, a, b⟩ := hb x hx
    exact ⟨ρ3, a, rfl, fun _ => b⟩, List.filter_eq_self.mpr fun _ _ => rfl]
/-- a comprehension, its heap told by an invariant -/
theorem eComp_inv {it : EM Sr} {g : AV → SM} {vs : List Nat} {elt : EM AV} {ρ : Env} {h h1 : AH} {keep : List (Nat × Cell)} {α : Type} {enc : α → AV} {xs : List α} (I : List AV → AH → Prop)
    (hi : it ρ h = .ok ⟨xs.map enc, keep⟩ h1) (h0 : I [] h1) (hk : ∀ ys h', I ys h' → kept h' keep) (hz : xs.length ≤ 10000000)
    (hs : ∀ x acc h', x ∈ xs → acc.length < xs.length → I acc h' → ∃ ρ3 h3 v h4, g (enc x) (wipeE ρ vs) h' = .nx ρ3 h3 ∧ elt ρ3 h3 = .ok v h4 ∧ I (acc ++ [v]) h4) :
    ∃ ys h', eComp it g vs (retM true) elt ρ h = .ok (.ref h'.length) (h' ++ [.lst ys]) ∧ I ys h' ∧ ys.length = xs.length := by
  have key : ∀ (zs : List α) (acc : List AV) (h' : AH), (∀ z ∈ zs, z ∈ xs) → acc.length + zs.length = xs.length → I acc h' → ∃ ys h2, compG keep g (retM true) (inLst elt) (wipeE ρ vs) (zs.map enc) acc h' = .ok ys h2 ∧ I ys h2 ∧ ys.length = xs.length := by
    intro zs
    induction zs with
    | nil => intro acc h' _ hl i; exact ⟨acc, h', by simp [compG, hk _ _ i], i, by simpa using hl⟩
    | cons z zs ih =>
      intro acc h' hm hl i
      simp only [List.length_cons] at hl
      obtain ⟨ρ3, h3, v, h4, e1, e2, i2⟩ := hs z acc h' (hm z (List.mem_cons_self ..)) (by omega) i
      have hsz : DP.smallL acc.length = true := by simp [DP.smallL]; omega
      simp only [List.map_cons, compG, hk _ _ i, if_true, e1, retM_ap, inLst, e2, hsz]
      exact ih _ _ (fun y hy => hm y (List.mem_cons_of_mem _ hy)) (by simp; omega) i2
  obtain ⟨ys, h', e, i, hl⟩ := key xs [] h1 (fun _ m => m) (by simp) h0
  refine ⟨ys, h', ?_, i, hl⟩
  unfold eComp
  rw [bnd_ap, hi, bind_ok]
  simp only [e]
/-- two fors, the inner walking a tuple of what the outer binds -/
theorem eComp2_keep {it : EM Sr} {g g1 : AV → SM} {vs vs1 : List Nat} {it1 : EM Sr} {elt : EM AV} {ρ : Env} {h h1 : AH} {keep : List (Nat × Cell)} {α β : Type} {enc : α → AV} {enc1 : β → AV} {xs : List α} (ys : α → List β) (f : α → β → AV)
    (hi : it ρ h = .ok ⟨xs.map enc, keep⟩ h1) (hk : kept h1 keep) (hz : (xs.flatMap ys).length ≤ 10000000)
    (hb : ∀ x ∈ xs, ∃ ρ3 keep1, g (enc x) (wipeE ρ vs) h1 = .nx ρ3 h1 ∧ kept h1 keep1 ∧ it1 ρ3 h1 = .ok ⟨(ys x).map enc1, keep1⟩ h1 ∧ ∀ y ∈ ys x, ∃ ρ4, g1 (enc1 y) (wipeE ρ3 vs1) h1 = .nx ρ4 h1 ∧ elt ρ4 h1 = .ok (f x y) h1) :
    eComp2 it g vs (retM true) it1 g1 vs1 (retM true) elt ρ h = .ok (.ref h1.length) (h1 ++ [.lst (xs.flatMap fun x => (ys x).map (f x))]) := by
  have inner : ∀ (ρ3 : Env) (keep1 : List (Nat × Cell)) (x : α), kept h1 keep1 → (zs : List β) → (acc : List AV) → (∀ y ∈ zs, ∃ ρ4, g1 (enc1 y) (wipeE ρ3 vs1) h1 = .nx ρ4 h1 ∧ elt ρ4 h1 = .ok (f x y) h1) → acc.length + zs.length ≤ 10000000 → compG keep1 g1 (retM true) (inLst elt) (wipeE ρ3 vs1) (zs.map enc1) acc h1 = .ok (acc ++ zs.map (f x)) h1 := by
    intro ρ3 keep1 x hk1 zs
    induction zs with
    | nil => intro acc _ _; simp [compG, hk1]
    | cons z zs ih =>
      intro acc hz hl
      simp only [List.length_cons] at hl
      obtain ⟨ρ4, e1, e2⟩ := hz z (List.mem_cons_self ..)
      have hs : DP.smallL acc.length = true := by simp [DP.smallL]; omega
      simp only [List.map_cons, compG, hk1, if_true, e1, retM_ap, inLst, e2, hs]
      rw [ih (acc ++ [f x z]) (fun y hy => hz y (List.mem_cons_of_mem _ hy)) (by simp; omega)]
      simp
  have key : ∀ (zs : List α) (acc : List AV), (∀ z ∈ zs, z ∈ xs) → acc.length + (zs.flatMap ys).length ≤ 10000000 → compG keep g (retM true) (inFor it1 g1 vs1 (retM true) (inLst elt)) (wipeE ρ vs) (zs.map enc) acc h1 = .ok (acc ++ zs.flatMap fun x => (ys x).map (f x)) h1 := by
    intro zs
    induction zs with
    | nil => intro acc _ _; simp [compG, hk]
    | cons z zs ih =>
      intro acc hm hl
      simp only [List.flatMap_cons, List.length_append] at hl
      obtain ⟨ρ3, keep1, e1, hk1, e2, e3⟩ := hb z (hm z (List.mem_cons_self ..))
      have e4 : inFor it1 g1 vs1 (retM true) (inLst elt) ρ3 acc h1 = .ok (acc ++ (ys z).map (f z)) h1 := by
        unfold inFor
        simp only [e2]
        exact inner ρ3 keep1 z hk1 (ys z) acc e3 (by omega)
      simp only [List.map_cons, compG, hk, if_true, e1, retM_ap, e4]
      rw [ih _ (fun y hy => hm y (List.mem_cons_of_mem _ hy)) (by rw [List.length_append, List.length_map]; omega)]
      simp
  unfold eComp2
  rw [bnd_ap, hi, bind_ok]
  simp only [key xs [] (fun _ m => m) (by simpa using hz), List.nil_append]
/-! ### dicts with int keys -/
def dicA {β : Type} (enc : β → AV) (l : List (Int × β)) : List (Key × AV) := l.map fun q => (.inl q.1, enc q.2)
def look {β : Type} (l : List (Int × β)) (k : Int) : Option β := (l.find? fun q => decide (q.1 = k)).map (·.2)
def put {β : Type} (l : List (Int × β)) (k : Int) (v : β) : List (Int × β) := if k ∈ l.map (·.1) then l.map (fun q => if q.1 = k then (q.1, v) else q) else l ++ [(k, v)]
section
variable {β : Type} {enc : β → AV} {l : List (Int × β)} {k m : Int} {v : β}
@[simp] theorem dicA_nil : dicA enc [] = [] := rfl
@[simp] theorem dicA_len : (dicA enc l).length = l.length := by simp [dicA]
@[simp] theorem lookA_dic : ∀ (l : List (Int × β)) (k : Int), lookA (dicA enc l) (.inl k) = (look l k).map enc
  | [], _ => rfl
  | q :: l, k => by
    have ih := lookA_dic l k
    unfold lookA dicA look at *
    simp only [List.map_cons, List.find?_cons]
    by_cases e : q.1 = k
    · simp [e]
    · simp [e]; simpa using ih
theorem any_key : ∀ l : List (Int × β), ((dicA enc l).any fun kv => decide (kv.1 = Sum.inl k)) = decide (k ∈ l.map (·.1))
  | [] => rfl
  | q :: l => by
    have ih := any_key l
    unfold dicA at *
    rw [List.map_cons, List.any_cons, ih]
    by_cases e : q.1 = k
    · simp [e]
    · have e' : ¬ k = q.1 := fun z => e z.symm
      simp [e, e']
@[simp] theorem putA_dic (l : List (Int × β)) (k : Int) (v : β) : putA (dicA enc l) (.inl k) (enc v) = dicA enc (put l k v) := by
  unfold putA put
  rw [any_key]
  by_cases e : k ∈ l.map (·.1)
  · rw [if_pos e]
    simp only [e, decide_true, if_true]
    unfold dicA
    rw [List.map_map, List.map_map]
    apply List.map_congr_left
    intro q _
    simp only [Function.comp]
    by_cases z : q.1 = k <;> simp [z]
  · rw [if_neg e]
    simp only [e, decide_false]
    simp [dicA]
theorem look_none : look l k = none ↔ k ∉ l.map (·.1) := by
  unfold look
  simp only [Option.map_eq_none_iff, List.find?_eq_none, decide_eq_true_eq, List.mem_map, not_exists, not_and]
theorem keys_put : (put l k v).map (·.1) = DP.addK (l.map (·.1)) k := by
  unfold put DP.addK
  by_cases e : k ∈ l.map (·.1)
  · rw [if_pos e, if_pos e, List.map_map]
    apply List.map_congr_left
    intro q _
    simp only [Function.comp]
    split <;> simp_all
  · rw [if_neg e, if_neg e]; simp
theorem look_snoc : ∀ l : List (Int × β), k ∉ l.map (·.1) → ∀ m, look (l ++ [(k, v)]) m = if m = k then some v else look l m
  | [], _, m => by
    unfold look
    by_cases e : k = m
    · simp [e]
    · have e' : ¬ m = k := fun z => e z.symm
      simp [e, e']
  | q :: l, h, m => by
    simp only [List.map_cons, List.mem_cons, not_or] at h
    have ih := look_snoc l h.2 m
    unfold look at *
    simp only [List.cons_append, List.find?_cons]
    by_cases e : q.1 = m
    · have e' : ¬ m = k := fun z => h.1 (z ▸ e.symm)
      simp [e, e']
    · simp only [e, decide_false]; simpa using ih
theorem look_set : ∀ l : List (Int × β), k ∈ l.map (·.1) → ∀ m, look (l.map fun q => if q.1 = k then (q.1, v) else q) m = if m = k then some v else look l m
  | [], h, _ => by simp at h
  | q :: l, h, m => by
    unfold look
    simp only [List.map_cons, List.find?_cons]
    by_cases e : q.1 = k
    · simp only [e, if_true]
      by_cases z : k = m
      · subst z; simp
      · have z' : ¬ m = k := fun z2 => z z2.symm
        simp only [z, z', decide_false, if_false]
        by_cases hm : k ∈ l.map (·.1)
        · have ih := look_set l hm m
          unfold look at ih
          simpa [z'] using ih
        · congr 1
          congr 1
          conv => rhs; rw [← List.map_id l]
          apply List.map_congr_left
          intro p hp
          have : ¬ p.1 = k := fun z2 => hm (List.mem_map.mpr ⟨p, hp, z2⟩)
          simp [this]
    · simp only [e, if_false]
      by_cases z : q.1 = m
      · have : ¬ m = k := fun z2 => e (z.trans z2)
        simp [z, this]
      · simp only [z, decide_false]
        have hm : k ∈ l.map (·.1) := by
          rw [List.map_cons, List.mem_cons] at h
          exact h.resolve_left fun z2 => e z2.symm
        have ih := look_set l hm m
        unfold look at ih
        simpa using ih
theorem look_put (l : List (Int × β)) (k : Int) (v : β) (m : Int) : look (put l k v) m = if m = k then some v else look l m := by
  unfold put
  split
  · exact look_set l (by assumption) m
  · exact look_snoc l (by assumption) m
theorem look_has : ∀ {l : List (Int × β)} {k : Int}, k ∈ l.map (·.1) → ∃ v, look l k = some v := fun {l k} h => by
  cases e : look l k with
  | some v => exact ⟨v, rfl⟩
  | none => exact absurd h (look_none.mp e)
theorem keysA_dic : ∀ l : List (Int × β), keysA (dicA enc l) = some (l.map (·.1))
  | [] => rfl
  | q :: l => by
    have ih := keysA_dic l
    unfold dicA at *
    simp [keysA, ih]
end
theorem gSort_dic {β : Type} {enc : β → AV} {l : List (Int × β)} {h : AH} {n : Nat} (e : h[n]? = some (.dic (dicA enc l))) (hl : l.length < 64) : gSort h [.ref n] = some (.new (.lst (((l.map (·.1)).mergeSort DP.leI).map .int))) := by
  unfold gSort
  simp only [e, keysA_dic, List.length_map, hl, if_true]
theorem addL_eq (acc : List Int) (c : Int) : addL acc c = DP.addK acc c := rfl
/-- a set comprehension over a locked dict's keys -/
theorem eSet_keys {i v : Nat} {elt : EM AV} {u : List Int → AH → Option RA} {β : Type} {enc : β → AV} {l : List (Int × β)} {ρ : Env} {h : AH} {n : Nat} {c : Cell} (f : Int → Int)
    (hi : ρ[i]? = some (some (.ref n))) (he : h[n]? = some (.dic (dicA enc l))) (hl : l.length < 4000)
    (hb : ∀ k ∈ l.map (·.1), ∀ h', elt ((wipeE ρ [v]).set v (some (.int k))) h' = .ok (.int (f k)) h')
    (hu : u (((l.map (·.1)).map f).foldl DP.addK []) (h.set n (.lock (dicA enc l))) = some (.new c)) :
    eLock i (eSet (iKeysM (eVar i)) (gNm v) [v] (retM true) elt u) ρ h = .ok (.ref h.length) (h ++ [c]) := by
  have hn := (List.getElem?_eq_some_iff.mp he).1
  have hg : (h.set n (.lock (dicA enc l)))[n]? = some (.lock (dicA enc l)) := List.getElem?_set_self hn
  have key : ∀ (ks acc : List Int), (∀ k ∈ ks, k ∈ l.map (·.1)) → acc.length + ks.length ≤ l.length → compG [(n, .lock (dicA enc l))] (gNm v) (retM true) (inSet elt) (wipeE ρ [v]) (ks.map AV.int) acc (h.set n (.lock (dicA enc l))) = .ok ((ks.map f).foldl DP.addK acc) (h.set n (.lock (dicA enc l))) := by
    intro ks
    have hk : kept (h.set n (.lock (dicA enc l))) [(n, .lock (dicA enc l))] := by
      intro p hp
      simp only [List.mem_singleton] at hp
      subst hp
      exact hg
    induction ks with
    | nil => intro acc _ _; simp [compG, hk]
    | cons k ks ih =>
      intro acc hy hz
      simp only [List.length_cons] at hz
      have h1 := hb k (hy k (List.mem_cons_self ..)) (h.set n (.lock (dicA enc l)))
      have h2 : acc.length < 4000 := by omega
      simp only [List.map_cons, compG, hk, if_true, gNm_ap, setE_ap, retM_ap, inSet, h1, h2, List.foldl_cons, addL_eq]
      refine ih _ (fun z hz => hy z (List.mem_cons_of_mem _ hz)) ?_
      have : (DP.addK acc (f k)).length ≤ acc.length + 1 := by unfold DP.addK; split <;> simp
      omega
  have e1 : iKeysM (eVar i) ρ (h.set n (.lock (dicA enc l))) = .ok ⟨(l.map (·.1)).map AV.int, [(n, .lock (dicA enc l))]⟩ (h.set n (.lock (dicA enc l))) := by
    rw [iKeysM_ap, eVar_ap, hi, varR_some, bind_ok, keysM_ref hg]
    congr 2
    unfold dicA
    rw [List.map_map, List.map_map]
    rfl
  have e2 := key (l.map (·.1)) [] (fun _ m => m) (by simp)
  have e3 : (h.set n (.lock (dicA enc l)) ++ [c])[n]? = some (.lock (dicA enc l)) := by rw [List.getElem?_append_left (by simpa using hn)]; exact hg
  have e4 : (h.set n (.lock (dicA enc l)) ++ [c]).set n (.dic (dicA enc l)) = h ++ [c] := by
    rw [List.set_append_left _ _ (by simpa using hn), List.set_set]
    congr 1
    obtain ⟨hx, ex⟩ := List.getElem?_eq_some_iff.mp he
    rw [← ex, List.set_getElem_self]
  unfold eLock
  rw [hi]
  simp only [he]
  have e5 : eSet (iKeysM (eVar i)) (gNm v) [v] (retM true) elt u ρ (h.set n (.lock (dicA enc l))) = .ok (.ref h.length) (h.set n (.lock (dicA enc l)) ++ [c]) := by
    unfold eSet
    rw [bnd_ap, e1, bind_ok]
    simp only [e2, opM_ap, hu, opR_new, List.length_set]
  rw [e5]
  simp only [e3, e4]
end HL
/-! QLT: sums tidied: plain. -/
namespace HL
open PySem L2
abbrev Tms := List (Int × Int)
def nrm (p : Int × Int) : Int × Int := if p.1 < 0 then (-p.1, -p.2) else p
def tot (ps : Tms) (m : Int) : Int := ((ps.filter fun q => decide (q.2 = m)).map (·.1)).sum
def negs (ps : Tms) : Int := ((ps.filter fun q => decide (q.1 < 0)).map (·.1)).sum
def boxesOf (ps : Tms) : List Int := ((ps.map fun q => (q.2.natAbs : Int)).foldl DP.addK []).mergeSort DP.leI
def termOf (y n b : Int) : Option (Int × Int) := if n < y then some (y - n, b) else if y < n then some (n - y, -b) else none
def tidyM (ps : Tms) (least : Int) : DP.Sm :=
  ((boxesOf ps).filterMap fun b => termOf (tot (ps.map nrm) b) (tot (ps.map nrm) (-b)) b, least - negs ps - ((boxesOf ps).map fun b => min (tot (ps.map nrm) b) (tot (ps.map nrm) (-b))).sum)
theorem nrm_abs (p : Int × Int) : (nrm p).2.natAbs = p.2.natAbs := by unfold nrm; split <;> simp
theorem mem_boxes {ps : Tms} {b : Int} : b ∈ boxesOf ps ↔ ∃ q ∈ ps, (q.2.natAbs : Int) = b := by
  unfold boxesOf
  rw [List.mem_mergeSort, DP.mem_addsK]
  simp
theorem rise_boxes (ps : Tms) : DP.Rise (boxesOf ps) := DP.rise_sort (DP.nodup_addsK List.nodup_nil)
theorem boxes_ext {ps qs : Tms} (h : ∀ b : Int, (∃ q ∈ ps, (q.2.natAbs : Int) = b) ↔ ∃ q ∈ qs, (q.2.natAbs : Int) = b) : boxesOf ps = boxesOf qs :=
  DP.rise_ext (rise_boxes ps) (rise_boxes qs) fun b => by rw [mem_boxes, mem_boxes, h b]
theorem sum_perm {xs ys : List Int} (h : xs.Perm ys) : xs.sum = ys.sum := by
  induction h with
  | nil => rfl
  | cons x _ ih => rw [List.sum_cons, List.sum_cons, ih]
  | swap x y l => simp only [List.sum_cons]; omega
  | trans _ _ a b => exact a.trans b
theorem tot_perm {ps qs : Tms} (h : ps.Perm qs) (m : Int) : tot ps m = tot qs m := sum_perm ((h.filter _).map _)
theorem negs_perm {ps qs : Tms} (h : ps.Perm qs) : negs ps = negs qs := sum_perm ((h.filter _).map _)
theorem tidyM_perm {ps qs : Tms} (h : ps.Perm qs) (l : Int) : tidyM ps l = tidyM qs l := by
  have e1 : boxesOf ps = boxesOf qs := boxes_ext fun b => ⟨fun ⟨q, m, e⟩ => ⟨q, h.mem_iff.mp m, e⟩, fun ⟨q, m, e⟩ => ⟨q, h.mem_iff.mpr m, e⟩⟩
  have e2 : ∀ m, tot (ps.map nrm) m = tot (qs.map nrm) m := tot_perm (h.map nrm)
  unfold tidyM
  rw [e1, negs_perm h]
  simp only [e2]
@[simp] theorem tot_nil (m : Int) : tot [] m = 0 := rfl
theorem tot_cons (q : Int × Int) (ps : Tms) (m : Int) : tot (q :: ps) m = (if q.2 = m then q.1 else 0) + tot ps m := by
  unfold tot
  by_cases e : q.2 = m <;> simp [e]
theorem tot_snoc (q : Int × Int) (ps : Tms) (m : Int) : tot (ps ++ [q]) m = tot ps m + (if q.2 = m then q.1 else 0) := by
  unfold tot
  by_cases e : q.2 = m <;> simp [e]
theorem negs_cons (q : Int × Int) (ps : Tms) : negs (q :: ps) = (if q.1 < 0 then q.1 else 0) + negs ps := by
  unfold negs
  by_cases e : q.1 < 0 <;> simp [e]
theorem negs_snoc (q : Int × Int) (ps : Tms) : negs (ps ++ [q]) = negs ps + (if q.1 < 0 then q.1 else 0) := by
  unfold negs
  by_cases e : q.1 < 0 <;> simp [e]
theorem tot_none {ps : Tms} {m : Int} (h : ∀ q ∈ ps, q.2 ≠ m) : tot ps m = 0 := by
  unfold tot
  rw [List.filter_eq_nil_iff.mpr fun q hq => by simpa using h q hq]
  rfl
/-! its terms -/
theorem termOf_box {y n b : Int} {t : Int × Int} (h : termOf y n b = some t) (hb : 0 < b) : 1 ≤ t.1 ∧ (t.2.natAbs : Int) = b ∧ t.2.natAbs = b.natAbs := by
  unfold termOf at h
  split at h
  · cases h; refine ⟨?_, ?_, ?_⟩ <;> dsimp only <;> omega
  · split at h
    · cases h; refine ⟨?_, ?_, ?_⟩ <;> dsimp only <;> omega
    · cases h
theorem rises_of : ∀ {ks : List Int}, DP.Rise ks → DP.risesL ks = true
  | [], _ => rfl
  | [_], _ => rfl
  | a :: b :: l, h => by
    unfold DP.Rise at h
    rw [List.pairwise_cons] at h
    have h1 := h.1 b (List.mem_cons_self ..)
    simp only [DP.risesL, h1, decide_true, Bool.true_and]
    exact rises_of h.2
theorem terms_rise {f : Int → Option (Int × Int)} : ∀ {bs : List Int}, DP.Rise bs → (∀ b ∈ bs, ∀ t, f b = some t → (t.2.natAbs : Int) = b) → DP.Rise ((bs.filterMap f).map fun t => (t.2.natAbs : Int))
  | [], _, _ => List.Pairwise.nil
  | b :: bs, h, hf => by
    unfold DP.Rise at h ⊢
    rw [List.pairwise_cons] at h
    have ih := terms_rise (bs := bs) h.2 fun c hc => hf c (List.mem_cons_of_mem _ hc)
    unfold DP.Rise at ih
    rw [List.filterMap_cons]
    cases e : f b with
    | none => simpa using ih
    | some t =>
      simp only [List.map_cons, List.pairwise_cons]
      refine ⟨fun x hx => ?_, ih⟩
      rw [hf b (List.mem_cons_self ..) t e]
      simp only [List.mem_map, List.mem_filterMap] at hx
      obtain ⟨u, ⟨c, hc, ec⟩, rfl⟩ := hx
      rw [hf c (List.mem_cons_of_mem _ hc) u ec]
      exact h.1 c hc
theorem box_pos {n : Nat} {ps : Tms} (hp : ∀ q ∈ ps, DP.okM n q.2) {b : Int} (h : b ∈ boxesOf ps) : 1 ≤ b ∧ b ≤ n := by
  obtain ⟨q, hq, rfl⟩ := mem_boxes.mp h
  have := hp q hq
  unfold DP.okM at this
  omega
theorem tidy_mem {n : Nat} {ps : Tms} {l : Int} (hp : ∀ q ∈ ps, DP.okM n q.2) {t : Int × Int} (h : t ∈ (tidyM ps l).1) : 1 ≤ t.1 ∧ DP.okM n t.2 ∧ (t.2.natAbs : Int) ∈ boxesOf ps := by
  unfold tidyM at h
  simp only [List.mem_filterMap] at h
  obtain ⟨b, hb, e⟩ := h
  have h1 := box_pos hp hb
  obtain ⟨a, c, d⟩ := termOf_box e (by omega)
  exact ⟨a, by unfold DP.okM; omega, by rw [c]; exact hb⟩
theorem tidy_rise {n : Nat} {ps : Tms} {l : Int} (hp : ∀ q ∈ ps, DP.okM n q.2) : DP.Rise ((tidyM ps l).1.map fun t => (t.2.natAbs : Int)) := by
  refine terms_rise (rise_boxes ps) fun b hb t e => ?_
  have h1 := box_pos hp hb
  exact (termOf_box e (by omega)).2.1
theorem boxes_len {n : Nat} {ps : Tms} (hp : ∀ q ∈ ps, DP.okM n q.2) : (boxesOf ps).length ≤ n := by
  have := DP.nodup_len (ys := (List.range n).map fun i : Nat => (1 : Int) + (i : Int)) ((rise_boxes ps).imp fun {a b} h => by omega) fun b hb => by
    have h1 := box_pos hp hb
    rw [List.mem_map]
    exact ⟨(b - 1).toNat, by rw [List.mem_range]; omega, by omega⟩
  simpa using this
/-! tidied twice -/
theorem tot_filterMap {f : Int → Option (Int × Int)} {m : Int} : ∀ {bs : List Int}, DP.Rise bs → (∀ b ∈ bs, 0 < b) → (∀ b ∈ bs, ∀ t, f b = some t → (t.2.natAbs : Int) = b) → tot (bs.filterMap f) m = if (m.natAbs : Int) ∈ bs then (match f m.natAbs with | some t => if t.2 = m then t.1 else 0 | none => 0) else 0
  | [], _, _, _ => rfl
  | b :: bs, h, hp, hf => by
    unfold DP.Rise at h
    rw [List.pairwise_cons] at h
    have ih := tot_filterMap (m := m) (bs := bs) h.2 (fun c hc => hp c (List.mem_cons_of_mem _ hc)) fun c hc => hf c (List.mem_cons_of_mem _ hc)
    have hb := hp b (List.mem_cons_self ..)
    rw [List.filterMap_cons]
    by_cases e : (m.natAbs : Int) = b
    · have hn : (m.natAbs : Int) ∉ bs := fun z => by have := h.1 _ z; omega
      rw [if_neg hn] at ih
      rw [if_pos (by rw [e]; exact List.mem_cons_self ..), e]
      cases ef : f b with
      | none => simpa using ih
      | some t => simp only [tot_cons, ih, Int.add_zero]
    · have he : ((m.natAbs : Int) ∈ b :: bs) ↔ (m.natAbs : Int) ∈ bs := by rw [List.mem_cons]; exact ⟨fun z => z.resolve_left e, .inr⟩
      simp only [he]
      cases ef : f b with
      | none => simpa using ih
      | some t =>
        have hne : ¬ t.2 = m := fun z => by
          have := hf b (List.mem_cons_self ..) t ef
          rw [z] at this
          exact e this
        simp only [tot_cons, hne, if_false, Int.zero_add]
        exact ih
theorem sum_zero {α : Type} {f : α → Int} : ∀ {xs : List α}, (∀ x ∈ xs, f x = 0) → (xs.map f).sum = 0
  | [], _ => rfl
  | x :: xs, h => by rw [List.map_cons, List.sum_cons, h x (List.mem_cons_self ..), sum_zero fun y hy => h y (List.mem_cons_of_mem _ hy)]; rfl
/-- a sum that is tidy stays -/
theorem tidy_tidy {ts : Tms} {l : Int} (hp : ∀ t ∈ ts, 1 ≤ t.1 ∧ t.2 ≠ 0) (hr : DP.Rise (ts.map fun t => (t.2.natAbs : Int))) : tidyM ts l = (ts, l) := by
  have hn : ts.map nrm = ts := by
    conv => rhs; rw [← List.map_id ts]
    apply List.map_congr_left
    intro t ht
    have := hp t ht
    unfold nrm
    rw [if_neg (by omega)]
    rfl
  have hng : negs ts = 0 := by
    unfold negs
    rw [List.filter_eq_nil_iff.mpr fun t ht => by have := hp t ht; simp; omega]
    rfl
  have hb : boxesOf ts = ts.map fun t => (t.2.natAbs : Int) := DP.rise_ext (rise_boxes ts) hr fun b => by rw [mem_boxes]; simp
  -- each mark stands once
  have ht : ∀ t ∈ ts, ∀ m : Int, (m.natAbs : Int) = t.2.natAbs → tot ts m = if t.2 = m then t.1 else 0 := by
    intro t htm m hm
    clear hn hng hb
    induction ts with
    | nil => cases htm
    | cons u us ih =>
      unfold DP.Rise at hr
      rw [List.map_cons, List.pairwise_cons] at hr
      have hrest : ∀ v ∈ us, (u.2.natAbs : Int) < v.2.natAbs := fun v hv => hr.1 _ (List.mem_map.mpr ⟨v, hv, rfl⟩)
      rw [tot_cons]
      rcases List.mem_cons.mp htm with rfl | htm
      · rw [tot_none fun v hv z => by have := hrest v hv; rw [z] at this; omega]
        omega
      · have := hrest t htm
        have hne : ¬ u.2 = m := fun z => by rw [z] at this; omega
        rw [if_neg hne, ih (fun v hv => hp v (List.mem_cons_of_mem _ hv)) hr.2 htm]
        omega
  unfold tidyM
  rw [hn, hng, hb]
  have hone : ∀ t ∈ ts, termOf (tot ts (t.2.natAbs : Int)) (tot ts (-(t.2.natAbs : Int))) (t.2.natAbs : Int) = some t ∧ min (tot ts (t.2.natAbs : Int)) (tot ts (-(t.2.natAbs : Int))) = 0 := by
    intro t htm
    have h0 := hp t htm
    rw [ht t htm (t.2.natAbs : Int) (by omega), ht t htm (-(t.2.natAbs : Int)) (by omega)]
    obtain ⟨f, m⟩ := t
    simp only at h0 ⊢
    by_cases hs : 0 < m
    · have e1 : m = (m.natAbs : Int) := by omega
      have e2 : ¬ m = -(m.natAbs : Int) := by omega
      rw [if_pos e1, if_neg e2]
      unfold termOf
      rw [if_pos (by omega)]
      refine ⟨?_, by omega⟩
      rw [← e1]
      simp
    · have e1 : ¬ m = (m.natAbs : Int) := by omega
      have e2 : m = -(m.natAbs : Int) := by omega
      rw [if_neg e1, if_pos e2]
      unfold termOf
      rw [if_neg (by omega), if_pos (by omega)]
      refine ⟨?_, by omega⟩
      rw [← e2]
      simp
  rw [List.map_map, sum_zero (f := (fun b => min (tot ts b) (tot ts (-b))) ∘ fun t : Int × Int => (t.2.natAbs : Int)) (xs := ts) fun t htm => (hone t htm).2, List.filterMap_map]
  congr 1
  · clear hn hng hb ht
    have : ∀ us : Tms, (∀ t ∈ us, t ∈ ts) → us.filterMap ((fun b => termOf (tot ts b) (tot ts (-b)) b) ∘ fun t => (t.2.natAbs : Int)) = us := by
      intro us
      induction us with
      | nil => intro _; rfl
      | cons u us ih =>
        intro hu
        rw [List.filterMap_cons]
        simp only [Function.comp, (hone u (hu u (List.mem_cons_self ..))).1]
        congr 1
        exact ih fun v hv => hu v (List.mem_cons_of_mem _ hv)
    exact this ts fun _ m => m
  · omega
/-! held -/
def soSum (ps : Tms) (f : List Bool) : Int := ((ps.filter fun q => DP.isSo q.2 f).map (·.1)).sum
theorem soSum_cons (q : Int × Int) (ps : Tms) (f : List Bool) : soSum (q :: ps) f = (if DP.isSo q.2 f = true then q.1 else 0) + soSum ps f := by
  unfold soSum
  by_cases e : DP.isSo q.2 f = true <;> simp [e]
theorem so_nrm {n : Nat} {f : List Bool} (hf : f.length = n) : ∀ {ps : Tms}, (∀ q ∈ ps, DP.okM n q.2) → soSum ps f = soSum (ps.map nrm) f + negs ps
  | [], _ => rfl
  | q :: ps, h => by
    have ih := so_nrm hf (ps := ps) fun r hr => h r (List.mem_cons_of_mem _ hr)
    rw [List.map_cons, soSum_cons, soSum_cons, negs_cons, ih]
    have hq := DP.isSo_neg (h q (List.mem_cons_self ..)) hf
    unfold nrm
    by_cases e : q.1 < 0
    · rw [if_pos e, if_pos e, hq]
      cases DP.isSo q.2 f <;> simp <;> omega
    · rw [if_neg e, if_neg e]
      omega
/-- by boxes -/
def boxSum (ps : Tms) (f : List Bool) (b : Int) : Int := if DP.isSo b f = true then tot ps b else tot ps (-b)
theorem boxSum_cons {f : List Bool} {n : Nat} (hf : f.length = n) {q : Int × Int} (hq : DP.okM n q.2) (ps : Tms) {b : Int} (hb : 0 < b) : boxSum (q :: ps) f b = boxSum ps f b + (if (q.2.natAbs : Int) = b then (if DP.isSo q.2 f = true then q.1 else 0) else 0) := by
  unfold boxSum
  rw [tot_cons, tot_cons]
  have hneg := DP.isSo_neg hq hf
  have hne : q.2 ≠ 0 := by unfold DP.okM at hq; omega
  by_cases e : (q.2.natAbs : Int) = b
  · rw [if_pos e]
    by_cases hs : 0 < q.2
    · have e1 : q.2 = b := by omega
      have e2 : ¬ b = -b := by omega
      rw [e1]
      simp only [if_true, e2, if_false]
      cases DP.isSo b f <;> simp <;> omega
    · have e1 : b = -q.2 := by omega
      have e2 : ¬ q.2 = -q.2 := by omega
      rw [e1, hneg]
      simp only [Int.neg_neg, if_true, e2, if_false]
      cases DP.isSo q.2 f <;> simp <;> omega
  · have e1 : ¬ q.2 = b := by omega
    have e2 : ¬ q.2 = -b := by omega
    rw [if_neg e, if_neg e1, if_neg e2]
    cases DP.isSo b f <;> simp
theorem boxSums_cons {f : List Bool} {n : Nat} (hf : f.length = n) {q : Int × Int} (hq : DP.okM n q.2) (ps : Tms) : ∀ {bs : List Int}, bs.Nodup → (∀ b ∈ bs, 0 < b) → (bs.map (boxSum (q :: ps) f)).sum = (bs.map (boxSum ps f)).sum + (if (q.2.natAbs : Int) ∈ bs then (if DP.isSo q.2 f = true then q.1 else 0) else 0)
  | [], _, _ => rfl
  | b :: bs, hn, hb => by
    rw [List.nodup_cons] at hn
    have ih := boxSums_cons hf hq ps (bs := bs) hn.2 fun c hc => hb c (List.mem_cons_of_mem _ hc)
    rw [List.map_cons, List.map_cons, List.sum_cons, List.sum_cons, ih, boxSum_cons hf hq ps (hb b (List.mem_cons_self ..))]
    by_cases e : (q.2.natAbs : Int) = b
    · have h1 : (q.2.natAbs : Int) ∉ bs := e ▸ hn.1
      have h2 : (q.2.natAbs : Int) ∈ b :: bs := by rw [e]; exact List.mem_cons_self ..
      rw [if_pos e, if_neg h1, if_pos h2]
      omega
    · have h2 : ((q.2.natAbs : Int) ∈ b :: bs) = ((q.2.natAbs : Int) ∈ bs) := by rw [List.mem_cons]; exact propext ⟨fun z => z.resolve_left e, .inr⟩
      rw [if_neg e]
      simp only [h2]
      omega
theorem so_boxes {f : List Bool} {n : Nat} (hf : f.length = n) {bs : List Int} (hn : bs.Nodup) (hb : ∀ b ∈ bs, 0 < b) : ∀ {ps : Tms}, (∀ q ∈ ps, DP.okM n q.2 ∧ (q.2.natAbs : Int) ∈ bs) → soSum ps f = (bs.map (boxSum ps f)).sum
  | [], _ => by rw [sum_zero fun b _ => by simp [boxSum]]; rfl
  | q :: ps, h => by
    obtain ⟨hq, hm⟩ := h q (List.mem_cons_self ..)
    rw [soSum_cons, so_boxes hf hn hb fun r hr => h r (List.mem_cons_of_mem _ hr), boxSums_cons hf hq ps hn hb, if_pos hm]
    omega
/-- what is tidied is held by as many -/
theorem tidy_held {n : Nat} {f : List Bool} (hf : f.length = n) {ps : Tms} {l : Int} (hp : ∀ q ∈ ps, DP.okM n q.2) : DP.heldL (tidyM ps l) f = decide (l ≤ soSum ps f) := by
  have hn := (rise_boxes ps).imp (S := (· ≠ ·)) fun {a b} h => by omega
  have hb : ∀ b ∈ boxesOf ps, 0 < b := fun b h => by have := box_pos hp h; omega
  have h1 := so_nrm hf hp
  have h2 := so_boxes hf hn hb (ps := ps.map nrm) fun q hq => by
    obtain ⟨r, hr, rfl⟩ := List.mem_map.mp hq
    have := hp r hr
    unfold DP.okM at *
    rw [nrm_abs]
    exact ⟨this, mem_boxes.mpr ⟨r, hr, rfl⟩⟩
  have h3 : ∀ bs : List Int, (∀ b ∈ bs, 1 ≤ b ∧ b ≤ n) → ((((bs.filterMap fun b => termOf (tot (ps.map nrm) b) (tot (ps.map nrm) (-b)) b).filter fun t => DP.isSo t.2 f).map (·.1)).sum : Int) + (bs.map fun b => min (tot (ps.map nrm) b) (tot (ps.map nrm) (-b))).sum = (bs.map (boxSum (ps.map nrm) f)).sum := by
    intro bs
    induction bs with
    | nil => intro _; rfl
    | cons b bs ih =>
      intro hbs
      have i := ih fun c hc => hbs c (List.mem_cons_of_mem _ hc)
      have hb1 := hbs b (List.mem_cons_self ..)
      have hneg := DP.isSo_neg (f := f) (n := n) (m := b) (by unfold DP.okM; omega) hf
      rw [List.filterMap_cons, List.map_cons, List.map_cons, List.sum_cons, List.sum_cons]
      unfold boxSum at *
      unfold termOf at *
      generalize tot (ps.map nrm) b = y at *
      generalize tot (ps.map nrm) (-b) = z at *
      by_cases h1 : z < y
      · simp only [h1, if_true]
        rw [List.filter_cons]
        cases DP.isSo b f
        · simp only [Bool.false_eq_true, if_false]; omega
        · simp only [if_true, List.map_cons, List.sum_cons]; omega
      · by_cases h2 : y < z
        · simp only [h1, h2, if_true, if_false]
          rw [List.filter_cons, hneg]
          cases DP.isSo b f
          · simp only [Bool.not_false, Bool.false_eq_true, if_true, if_false, List.map_cons, List.sum_cons]; omega
          · simp only [Bool.not_true, Bool.false_eq_true, if_true, if_false]; omega
        · simp only [h1, h2, if_false]
          cases DP.isSo b f <;> simp only [Bool.false_eq_true, if_true, if_false] <;> omega
  have h4 := h3 (boxesOf ps) fun b hb => box_pos hp hb
  unfold DP.heldL DP.weightL tidyM
  simp only
  rw [h1, h2, ← h4]
  generalize (((boxesOf ps).filterMap fun b => termOf (tot (ps.map nrm) b) (tot (ps.map nrm) (-b)) b).filter fun t => DP.isSo t.2 f).map (·.1) = A
  generalize (boxesOf ps).map (fun b => min (tot (ps.map nrm) b) (tot (ps.map nrm) (-b))) = B
  by_cases e : l - negs ps - B.sum ≤ A.sum
  · rw [decide_eq_true e, eq_comm, decide_eq_true_eq]; omega
  · rw [decide_eq_false e, eq_comm, decide_eq_false_iff_not]; omega
end HL
/-! QLU: what comes of sums: plain. -/
namespace HL
open PySem L2
def divi (i j : Int) : Int := -(-i / j)
theorem divi_le {i j k : Int} (hj : 0 < j) : divi i j ≤ k ↔ i ≤ k * j := by
  unfold divi
  have h1 : -i / j ≥ -k ↔ -k * j ≤ -i := Int.le_ediv_iff_mul_le hj
  rw [Int.neg_mul] at h1
  constructor
  · intro h; have := h1.mp (by omega); omega
  · intro h; have := h1.mpr (by omega); omega
theorem le_divi {i j : Int} (hj : 0 < j) : i ≤ divi i j * j := (divi_le hj).mp (Int.le_refl _)
theorem divi_eq {i j : Int} (hj : 0 < j) : (i + j - 1) / j = divi i j := by
  unfold divi
  rw [show i + j - 1 = -(-i) + (j - 1) by omega]
  generalize -i = k
  have h1 := Int.mul_ediv_add_emod k j
  have h2 := Int.emod_nonneg k (show j ≠ 0 by omega)
  have h3 := Int.emod_lt_of_pos k hj
  have e : -k + (j - 1) = (j - 1 - k % j) + j * (-(k / j)) := by
    rw [Int.mul_neg]
    omega
  rw [e, Int.add_mul_ediv_left _ _ (show j ≠ 0 by omega), Int.ediv_eq_zero_of_lt (by omega) (by omega)]
  omega
theorem divi_mul {i j r : Int} (hj : 0 < j) (h0 : 0 ≤ r) (h1 : r < j) : divi (i * j - r) j = i := by
  have a : divi (i * j - r) j ≤ i := (divi_le hj).mpr (by omega)
  have b : ¬ divi (i * j - r) j ≤ i - 1 := fun h => by
    have := (divi_le hj).mp h
    rw [Int.sub_mul, Int.one_mul] at this
    omega
  omega
theorem divi_one (i : Int) : divi i 1 = i := by unfold divi; rw [Int.ediv_one]; omega
theorem divi_nonneg {i j : Int} (hj : 0 < j) (h : 0 ≤ i) : 0 ≤ divi i j := by
  have : ¬ divi i j ≤ -1 := fun z => by have := (divi_le hj).mp z; omega
  omega
def partS (s : DP.Sm) (k : Int) : DP.Sm := (s.1.map fun t => (divi t.1 k, t.2), divi s.2 k)
def capS (s : DP.Sm) : DP.Sm := if s.2 ≤ 0 then ([], 0) else (s.1.map fun t => (min t.1 s.2, t.2), s.2)
abbrev Sh := DP.Sm × Int
def sharesP (xs : List Sh) : Tms := xs.flatMap fun p => p.1.1.map fun t => (t.1 * p.2, t.2)
def sharesL (xs : List Sh) : Int := (xs.map fun p => p.1.2 * p.2).sum
def addS' (xs : List Sh) : DP.Sm := tidyM (sharesP xs) (sharesL xs)
structure GoodS (n : Nat) (s : DP.Sm) : Prop where
  len : s.1.length ≤ n
  ok : ∀ t ∈ s.1, DP.okM n t.2
  pos : ∀ t ∈ s.1, 0 ≤ t.1
theorem weight_cons (t : Int × Int) (ts : Tms) (l : Int) (f : List Bool) : DP.weightL (t :: ts, l) f = (if DP.isSo t.2 f = true then t.1 else 0) + DP.weightL (ts, l) f := by
  unfold DP.weightL
  by_cases e : DP.isSo t.2 f = true <;> simp [e]
theorem weight_so (ts : Tms) (l : Int) (f : List Bool) : DP.weightL (ts, l) f = soSum ts f := rfl
theorem heldL_iff (s : DP.Sm) (f : List Bool) : DP.heldL s f = true ↔ s.2 ≤ DP.weightL s f := by unfold DP.heldL; rw [decide_eq_true_eq]
/-! parted -/
theorem part_weight {f : List Bool} {k : Int} (hk : 0 < k) : ∀ {ts : Tms} {l m : Int}, DP.weightL (ts, l) f ≤ DP.weightL (ts.map fun t => (divi t.1 k, t.2), m) f * k
  | [], l, m => by simp [DP.weightL]
  | t :: ts, l, m => by
    have ih := part_weight (f := f) hk (ts := ts) (l := l) (m := m)
    have h1 := le_divi (i := t.1) hk
    rw [List.map_cons, weight_cons, weight_cons, Int.add_mul]
    dsimp only
    split <;> omega
theorem part_held {s : DP.Sm} {k : Int} {f : List Bool} (hk : 0 < k) (h : DP.heldL s f = true) : DP.heldL (partS s k) f = true := by
  rw [heldL_iff] at h ⊢
  exact (divi_le hk).mpr (Int.le_trans h (part_weight hk))
theorem part_good {n : Nat} {s : DP.Sm} {k : Int} (hk : 0 < k) (h : GoodS n s) : GoodS n (partS s k) := by
  refine ⟨by simpa [partS] using h.len, fun t ht => ?_, fun t ht => ?_⟩
  · obtain ⟨u, hu, rfl⟩ := List.mem_map.mp ht
    exact h.ok u hu
  · obtain ⟨u, hu, rfl⟩ := List.mem_map.mp ht
    exact divi_nonneg hk (h.pos u hu)
/-! capped -/
theorem cap_weight {f : List Bool} {k : Int} (hk : 0 ≤ k) : ∀ {ts : Tms} {l m : Int}, (∀ t ∈ ts, 0 ≤ t.1) → min (DP.weightL (ts, l) f) k ≤ DP.weightL (ts.map fun t => (min t.1 k, t.2), m) f ∧ DP.weightL (ts.map fun t => (min t.1 k, t.2), m) f ≤ DP.weightL (ts, l) f ∧ 0 ≤ DP.weightL (ts.map fun t => (min t.1 k, t.2), m) f
  | [], l, m, _ => by simp [DP.weightL]; omega
  | t :: ts, l, m, h => by
    obtain ⟨i1, i2, i3⟩ := cap_weight (f := f) hk (ts := ts) (l := l) (m := m) fun u hu => h u (List.mem_cons_of_mem _ hu)
    have h1 := h t (List.mem_cons_self ..)
    rw [List.map_cons, weight_cons, weight_cons]
    dsimp only
    split <;> omega
theorem cap_held {s : DP.Sm} {f : List Bool} (hp : ∀ t ∈ s.1, 0 ≤ t.1) (h : DP.heldL s f = true) : DP.heldL (capS s) f = true := by
  rw [heldL_iff] at h ⊢
  unfold capS
  split
  · simp [DP.weightL]
  · have := (cap_weight (f := f) (k := s.2) (by omega) (ts := s.1) (l := s.2) (m := s.2) hp).1
    have e : DP.weightL (s.1, s.2) f = DP.weightL s f := rfl
    dsimp only
    omega
theorem cap_held_eq {s : DP.Sm} {f : List Bool} (hp : ∀ t ∈ s.1, 0 ≤ t.1) (h0 : 0 < s.2) : DP.heldL (capS s) f = DP.heldL s f := by
  obtain ⟨h1, h2, _⟩ := cap_weight (f := f) (k := s.2) (by omega) (ts := s.1) (l := s.2) (m := s.2) hp
  have e : DP.weightL (s.1, s.2) f = DP.weightL s f := rfl
  unfold capS
  rw [if_neg (by omega)]
  unfold DP.heldL
  dsimp only
  rw [e] at h1 h2
  congr 1
  exact propext ⟨fun z => by omega, fun z => by omega⟩
theorem cap_good {n : Nat} {s : DP.Sm} (h : GoodS n s) : GoodS n (capS s) := by
  unfold capS
  split
  · exact ⟨by simp, by simp, by simp⟩
  · refine ⟨by simpa using h.len, fun t ht => ?_, fun t ht => ?_⟩
    · obtain ⟨u, hu, rfl⟩ := List.mem_map.mp ht
      exact h.ok u hu
    · obtain ⟨u, hu, rfl⟩ := List.mem_map.mp ht
      have := h.pos u hu
      dsimp only
      omega
/-! tidied -/
theorem tidy_len {n : Nat} {ps : Tms} {l : Int} (hp : ∀ q ∈ ps, DP.okM n q.2) : (tidyM ps l).1.length ≤ n := by
  have h1 : (tidyM ps l).1.length ≤ (boxesOf ps).length := by unfold tidyM; exact List.length_filterMap_le ..
  exact Nat.le_trans h1 (boxes_len hp)
theorem tidy_good {n : Nat} {ps : Tms} {l : Int} (hp : ∀ q ∈ ps, DP.okM n q.2) : GoodS n (tidyM ps l) := ⟨tidy_len hp, fun t ht => (tidy_mem hp ht).2.1, fun t ht => by have := (tidy_mem hp ht).1; omega⟩
theorem soSum_app (xs ys : Tms) (f : List Bool) : soSum (xs ++ ys) f = soSum xs f + soSum ys f := by unfold soSum; simp [List.filter_append]
theorem soSum_times (ts : Tms) (k : Int) (f : List Bool) : soSum (ts.map fun t => (t.1 * k, t.2)) f = soSum ts f * k := by
  induction ts with
  | nil => simp [soSum]
  | cons t ts ih =>
    rw [List.map_cons, soSum_cons, soSum_cons, ih, Int.add_mul]
    dsimp only
    split <;> simp
theorem shares_held {f : List Bool} : ∀ {xs : List Sh}, (∀ p ∈ xs, DP.heldL p.1 f = true ∧ 0 < p.2) → sharesL xs ≤ soSum (sharesP xs) f
  | [], _ => by simp [sharesL, sharesP, soSum]
  | p :: xs, h => by
    have ih := shares_held (f := f) (xs := xs) fun q hq => h q (List.mem_cons_of_mem _ hq)
    obtain ⟨h1, h2⟩ := h p (List.mem_cons_self ..)
    rw [heldL_iff] at h1
    unfold sharesL sharesP at *
    rw [List.map_cons, List.sum_cons, List.flatMap_cons, soSum_app, soSum_times]
    have e : DP.weightL p.1 f = soSum p.1.1 f := rfl
    rw [e] at h1
    have := Int.mul_le_mul_of_nonneg_right h1 (show 0 ≤ p.2 by omega)
    omega
theorem sharesP_mem {n : Nat} {xs : List Sh} (h : ∀ p ∈ xs, ∀ t ∈ p.1.1, DP.okM n t.2) : ∀ q ∈ sharesP xs, DP.okM n q.2 := by
  intro q hq
  unfold sharesP at hq
  obtain ⟨p, hp, hq⟩ := List.mem_flatMap.mp hq
  obtain ⟨t, ht, rfl⟩ := List.mem_map.mp hq
  exact h p hp t ht
theorem add_held {n : Nat} {f : List Bool} (hf : f.length = n) {xs : List Sh} (h : ∀ p ∈ xs, GoodS n p.1 ∧ DP.heldL p.1 f = true ∧ 0 < p.2) : DP.heldL (addS' xs) f = true := by
  unfold addS'
  rw [tidy_held hf (sharesP_mem fun p hp => (h p hp).1.ok), decide_eq_true_eq]
  exact shares_held fun p hp => (h p hp).2
theorem add_good {n : Nat} {xs : List Sh} (h : ∀ p ∈ xs, GoodS n p.1) : GoodS n (addS' xs) := tidy_good (sharesP_mem fun p hp => (h p hp).ok)
/-- a box both ways about, a factor -/
theorem more_held {n : Nat} {f : List Bool} (hf : f.length = n) {s : DP.Sm} {k b : Int} (hs : GoodS n s) (hb : DP.okM n b) (h : DP.heldL s f = true) : DP.heldL (tidyM (s.1 ++ [(k, b), (k, -b)]) (s.2 + k)) f = true := by
  have hb2 : DP.okM n (-b) := by unfold DP.okM at *; omega
  rw [tidy_held hf, decide_eq_true_eq, soSum_app, soSum_cons, soSum_cons]
  · rw [heldL_iff] at h
    have e : DP.weightL s f = soSum s.1 f := rfl
    have e2 : soSum [] f = 0 := rfl
    rw [e] at h
    have := DP.isSo_neg hb hf
    dsimp only
    rw [this, e2]
    cases DP.isSo b f <;> simp <;> omega
  · intro q hq
    simp only [List.mem_append, List.mem_cons, List.not_mem_nil, or_false] at hq
    rcases hq with hq | rfl | rfl
    · exact hs.ok q hq
    · exact hb
    · exact hb2
/-! with its contrary -/
def contrS (s : DP.Sm) : DP.Sm := (s.1.map fun t => (t.1, -t.2), (s.1.map (·.1)).sum - s.2 + 1)
theorem contr_contr (s : DP.Sm) : contrS (contrS s) = s := by
  obtain ⟨ts, l⟩ := s
  unfold contrS
  simp only [List.map_map]
  congr 1
  · conv => rhs; rw [← List.map_id ts]
    apply List.map_congr_left
    intro t _
    simp
  · have : (List.map ((fun x => x.1) ∘ fun t : Int × Int => (t.1, -t.2)) ts) = ts.map (·.1) := List.map_congr_left fun t _ => rfl
    rw [this]
    omega
theorem tot_app (xs ys : Tms) (m : Int) : tot (xs ++ ys) m = tot xs m + tot ys m := by unfold tot; simp [List.filter_append]
theorem tot_contr (ts : Tms) (m : Int) : tot (ts.map fun t => (t.1, -t.2)) m = tot ts (-m) := by
  induction ts with
  | nil => rfl
  | cons t ts ih =>
    rw [List.map_cons, tot_cons, tot_cons, ih]
    dsimp only
    by_cases e : t.2 = -m
    · rw [if_pos e, if_pos (by omega)]
    · rw [if_neg e, if_neg (by omega)]
theorem boxes_both {bs : List Int} (hn : bs.Nodup) (hb : ∀ b ∈ bs, 0 < b) : ∀ {ts : Tms}, (∀ t ∈ ts, t.2 ≠ 0 ∧ (t.2.natAbs : Int) ∈ bs) → (bs.map fun b => tot ts b + tot ts (-b)).sum = (ts.map (·.1)).sum
  | [], _ => sum_zero fun _ _ => rfl
  | t :: ts, h => by
    obtain ⟨h0, hm⟩ := h t (List.mem_cons_self ..)
    have ih := boxes_both hn hb (ts := ts) fun u hu => h u (List.mem_cons_of_mem _ hu)
    have key : ∀ bs : List Int, bs.Nodup → (∀ b ∈ bs, 0 < b) → (bs.map fun b => tot (t :: ts) b + tot (t :: ts) (-b)).sum = (bs.map fun b => tot ts b + tot ts (-b)).sum + (if (t.2.natAbs : Int) ∈ bs then t.1 else 0) := by
      intro bs
      induction bs with
      | nil => intro _ _; rfl
      | cons b bs ih2 =>
        intro hn hb
        rw [List.nodup_cons] at hn
        have i := ih2 hn.2 fun c hc => hb c (List.mem_cons_of_mem _ hc)
        have hbp := hb b (List.mem_cons_self ..)
        rw [List.map_cons, List.map_cons, List.sum_cons, List.sum_cons, i, tot_cons, tot_cons]
        by_cases e : (t.2.natAbs : Int) = b
        · have h1 : (t.2.natAbs : Int) ∉ bs := e ▸ hn.1
          have h2 : (t.2.natAbs : Int) ∈ b :: bs := by rw [e]; exact List.mem_cons_self ..
          rw [if_neg h1, if_pos h2]
          by_cases s : 0 < t.2
          · rw [if_pos (show t.2 = b by omega), if_neg (show ¬ t.2 = -b by omega)]; omega
          · rw [if_neg (show ¬ t.2 = b by omega), if_pos (show t.2 = -b by omega)]; omega
        · have h2 : ((t.2.natAbs : Int) ∈ b :: bs) = ((t.2.natAbs : Int) ∈ bs) := by rw [List.mem_cons]; exact propext ⟨fun z => z.resolve_left e, .inr⟩
          rw [if_neg (show ¬ t.2 = b by omega), if_neg (show ¬ t.2 = -b by omega)]
          simp only [h2]
          omega
    rw [key bs hn hb, ih, if_pos hm, List.map_cons, List.sum_cons]
    omega
theorem add_contr {n : Nat} {s : DP.Sm} (hp : ∀ t ∈ s.1, 0 < t.1) (hok : ∀ t ∈ s.1, DP.okM n t.2) : addS' [(s, 1), (contrS s, 1)] = ([], 1) := by
  have e1 : sharesP [(s, 1), (contrS s, 1)] = s.1 ++ s.1.map fun t => (t.1, -t.2) := by
    unfold sharesP contrS
    simp [Function.comp_def]
  have e2 : sharesL [(s, 1), (contrS s, 1)] = (s.1.map (·.1)).sum + 1 := by
    unfold sharesL contrS
    simp
    omega
  have hpos : ∀ t ∈ s.1 ++ s.1.map (fun t => (t.1, -t.2)), 0 < t.1 := fun t ht => by
    rcases List.mem_append.mp ht with ht | ht
    · exact hp t ht
    · obtain ⟨u, hu, rfl⟩ := List.mem_map.mp ht
      exact hp u hu
  have hall : ∀ t ∈ s.1 ++ s.1.map (fun t => (t.1, -t.2)), DP.okM n t.2 := fun t ht => by
    rcases List.mem_append.mp ht with ht | ht
    · exact hok t ht
    · obtain ⟨u, hu, rfl⟩ := List.mem_map.mp ht
      have := hok u hu
      unfold DP.okM at *
      dsimp only
      omega
  have hn : (s.1 ++ s.1.map fun t => (t.1, -t.2)).map nrm = s.1 ++ s.1.map fun t => (t.1, -t.2) := by
    conv => rhs; rw [← List.map_id (s.1 ++ s.1.map fun t => (t.1, -t.2))]
    apply List.map_congr_left
    intro t ht
    have := hpos t ht
    unfold nrm
    rw [if_neg (by omega)]
    rfl
  have hng : negs (s.1 ++ s.1.map fun t => (t.1, -t.2)) = 0 := by
    unfold negs
    rw [List.filter_eq_nil_iff.mpr fun t ht => by have := hpos t ht; simp; omega]
    rfl
  have hb := boxes_both (bs := boxesOf (s.1 ++ s.1.map fun t => (t.1, -t.2))) ((rise_boxes _).imp fun {a b} h => by omega) (fun b h => by have := box_pos hall h; omega) (ts := s.1) fun t ht => by
    have := hok t ht
    unfold DP.okM at this
    exact ⟨by omega, mem_boxes.mpr ⟨t, List.mem_append_left _ ht, rfl⟩⟩
  unfold addS'
  rw [e1, e2]
  unfold tidyM
  rw [hn, hng]
  simp only [tot_app, tot_contr, Int.neg_neg]
  generalize boxesOf (s.1 ++ s.1.map fun t => (t.1, -t.2)) = bs at hb
  have e3 : (bs.map fun b => min (tot s.1 b + tot s.1 (-b)) (tot s.1 (-b) + tot s.1 b)) = bs.map fun b => tot s.1 b + tot s.1 (-b) := List.map_congr_left fun b _ => by omega
  rw [e3, hb]
  congr 1
  · rw [List.filterMap_eq_nil_iff]
    intro b _
    unfold termOf
    rw [if_neg (by omega), if_neg (by omega)]
  · omega
theorem part_one (s : DP.Sm) : partS s 1 = s := by
  obtain ⟨ts, l⟩ := s
  unfold partS
  simp only [divi_one]
  congr 1
  conv => rhs; rw [← List.map_id ts]
  exact List.map_congr_left fun t _ => rfl
theorem part_great {s : DP.Sm} {k r : Int} (hk : 0 < k) (h0 : 0 ≤ r) (h1 : r < k) : partS (s.1.map fun t => (t.1 * k, t.2), s.2 * k - r) k = s := by
  obtain ⟨ts, l⟩ := s
  unfold partS
  simp only [List.map_map]
  rw [divi_mul hk h0 h1]
  congr 1
  conv => rhs; rw [← List.map_id ts]
  apply List.map_congr_left
  intro t _
  have := divi_mul (i := t.1) hk (Int.le_refl 0) hk
  rw [Int.sub_zero] at this
  simp [this]
end HL
/-! QLV: what sums push: plain. -/
namespace DP
open PySem L2
def roomL (s : Sm) (K : List Int) : Int := ((s.1.filter fun t => !decide (-t.2 ∈ K)).map (·.1)).sum - s.2
def foundL (s : Sm) (K : List Int) : List Int := (s.1.filter fun t => decide (roomL s K < t.1) && (!decide (t.2 ∈ K) && !decide (-t.2 ∈ K))).map (·.2)
/-- C: marks that are held; room under C -/
def roomP (s : Sm) (C : Int → Bool) : Int := ((s.1.filter fun t => !C (-t.2)).map (·.1)).sum - s.2
structure Shut (ss : List Sm) (C : Int → Bool) : Prop where
  room : ∀ s ∈ ss, 0 ≤ roomP s C
  push : ∀ s ∈ ss, ∀ t ∈ s.1, roomP s C < t.1 → C t.2 = true ∨ C (-t.2) = true
def OkAt (s : Sm) (K : List Int) : Prop := 0 ≤ roomL s K ∧ foundL s K = []
theorem roomP_mem (s : Sm) (K : List Int) : roomP s (fun m => decide (m ∈ K)) = roomL s K := rfl
theorem shut_of {ss : List Sm} {K : List Int} (h : ∀ s ∈ ss, OkAt s K) : Shut ss (fun m => decide (m ∈ K)) := by
  refine ⟨fun s hs => by rw [roomP_mem]; exact (h s hs).1, fun s hs t ht hr => ?_⟩
  rw [roomP_mem] at hr
  have h2 := (h s hs).2
  unfold foundL at h2
  rw [List.map_eq_nil_iff, List.filter_eq_nil_iff] at h2
  have := h2 t ht
  simp only [hr, decide_true, Bool.true_and, Bool.and_eq_true, Bool.not_eq_true', not_and, Bool.not_eq_false, decide_eq_false_iff_not] at this
  by_cases h3 : t.2 ∈ K
  · exact .inl (by simp [h3])
  · exact .inr (by simpa using this h3)
theorem room_le {n : Nat} {s : Sm} {K : List Int} {C : Int → Bool} (hs : SumOk n s) (h : ∀ k ∈ K, C k = true) : roomP s C ≤ roomL s K := by
  unfold roomP roomL
  have := sum_filter_le (p := fun t : Int × Int => !C (-t.2)) (q := fun t : Int × Int => !decide (-t.2 ∈ K)) hs.pos fun t _ hp => by
    simp only [Bool.not_eq_true', decide_eq_false_iff_not] at hp ⊢
    intro hk
    rw [h _ hk] at hp
    cases hp
  omega
theorem found_in {n : Nat} {ss : List Sm} {s : Sm} {K : List Int} {C : Int → Bool} (hs : SumOk n s) (hss : s ∈ ss) (h : ∀ k ∈ K, C k = true) (S : Shut ss C) : ∀ m ∈ foundL s K, C m = true := by
  intro m hm
  unfold foundL at hm
  rw [List.mem_map] at hm
  obtain ⟨t, ht, rfl⟩ := hm
  rw [List.mem_filter] at ht
  obtain ⟨ht, hc⟩ := ht
  simp only [Bool.and_eq_true, decide_eq_true_eq, Bool.not_eq_true', decide_eq_false_iff_not] at hc
  have h1 := room_le hs h
  rcases S.push s hss t ht (by omega) with h2 | h2
  · exact h2
  · exfalso
    have h3 := sum_filter_lt (p := fun t : Int × Int => !C (-t.2)) (q := fun t : Int × Int => !decide (-t.2 ∈ K)) hs.pos (fun t _ hp => by
      simp only [Bool.not_eq_true', decide_eq_false_iff_not] at hp ⊢
      intro hk
      rw [h _ hk] at hp
      cases hp) ht (by simp [h2]) (by simp [hc.2.2])
    have h4 := S.room s hss
    have h5 := hc.1
    unfold roomP at h4
    unfold roomL at h5
    omega
/-- what is known in the turns -/
structure KnI (n : Nat) (ss : List Sm) (M K : List Int) : Prop where
  nd : K.Nodup
  ok : ∀ k ∈ K, okM n k
  sub : ∀ m ∈ M, m ∈ K
  cl : ∀ C, Shut ss C → (∀ m ∈ M, C m = true) → ∀ k ∈ K, C k = true
theorem KnI.adds {n : Nat} {ss : List Sm} {M K : List Int} {s : Sm} (h : KnI n ss M K) (hs : SumOk n s) (hss : s ∈ ss) : KnI n ss M ((foundL s K).foldl addK K) := by
  refine ⟨nodup_addsK h.nd, fun k hk => ?_, fun m hm => mem_addsK.mpr (.inl (h.sub m hm)), fun C S hM k hk => ?_⟩
  · rcases mem_addsK.mp hk with z | z
    · exact h.ok k z
    · unfold foundL at z
      rw [List.mem_map] at z
      obtain ⟨t, ht, rfl⟩ := z
      exact hs.ok t (List.mem_filter.mp ht).1
  · rcases mem_addsK.mp hk with z | z
    · exact h.cl C S hM k z
    · exact found_in hs hss (h.cl C S hM) S k z
theorem found_new {s : Sm} {K : List Int} {m : Int} {ms : List Int} (h : foundL s K = m :: ms) : K.length < ((foundL s K).foldl addK K).length := by
  have hm : m ∈ foundL s K := by rw [h]; exact List.mem_cons_self ..
  unfold foundL at hm
  rw [List.mem_map] at hm
  obtain ⟨t, ht, e⟩ := hm
  rw [List.mem_filter] at ht
  have hc := ht.2
  simp only [Bool.and_eq_true, decide_eq_true_eq, Bool.not_eq_true', decide_eq_false_iff_not] at hc
  rw [h, List.foldl_cons]
  have h1 : (addK K m).length = K.length + 1 := by
    unfold addK
    rw [if_neg (by rw [← e]; exact hc.2.1)]
    simp
  have := addsK_len ms (addK K m)
  omega

/-! one sum's push; a pass; the turns -/
theorem found_nodup {n : Nat} {s : Sm} {K : List Int} (hr : Rise (s.1.map fun t => (t.2.natAbs : Int))) : (foundL s K).Nodup := by
  unfold foundL
  have h1 : s.1.Pairwise fun a b => (a.2.natAbs : Int) < b.2.natAbs := by unfold Rise at hr; rwa [List.pairwise_map] at hr
  have h2 := h1.filter (fun t => decide (roomL s K < t.1) && (!decide (t.2 ∈ K) && !decide (-t.2 ∈ K)))
  unfold List.Nodup
  rw [List.pairwise_map]
  exact h2.imp fun {a b} h e => by rw [e] at h; omega
theorem found_fresh {s : Sm} {K : List Int} {m : Int} (h : m ∈ foundL s K) : m ∉ K := by
  unfold foundL at h
  obtain ⟨t, ht, rfl⟩ := List.mem_map.mp h
  have hc := (List.mem_filter.mp ht).2
  simp only [Bool.and_eq_true, Bool.not_eq_true', decide_eq_false_iff_not] at hc
  exact hc.2.1
theorem adds_fresh : ∀ {ms K : List Int}, ms.Nodup → (∀ m ∈ ms, m ∉ K) → ms.foldl addK K = K ++ ms
  | [], K, _, _ => by simp
  | m :: ms, K, h, hf => by
    rw [List.nodup_cons] at h
    have h1 : addK K m = K ++ [m] := by unfold addK; rw [if_neg (hf m (List.mem_cons_self ..))]
    rw [List.foldl_cons, h1, adds_fresh h.2 fun x hx => by
      rw [List.mem_append, List.mem_singleton]
      rintro (z | rfl)
      · exact hf x (List.mem_cons_of_mem _ hx) z
      · exact h.1 hx]
    simp
def passM : List Sm → List Int → List Int × Bool
  | [], K => (K, false)
  | s :: ss, K => if roomL s K < 0 then (K, true) else passM ss (K ++ foundL s K)
inductive Pushes (ss : List Sm) : List Int → Bool → List Int → Prop
  | burst {K K' : List Int} : passM ss K = (K', true) → Pushes ss K true K'
  | rest {K K' : List Int} : passM ss K = (K', false) → K'.length = K.length → Pushes ss K false K'
  | more {K K' K2 : List Int} {b : Bool} : passM ss K = (K', false) → K'.length ≠ K.length → Pushes ss K' b K2 → Pushes ss K b K2
theorem Pushes.uniq {ss : List Sm} {K : List Int} {b c : Bool} {K1 K2 : List Int} (h : Pushes ss K b K1) (h2 : Pushes ss K c K2) : b = c ∧ K1 = K2 := by
  induction h with
  | burst e =>
    cases h2 with
    | burst f => rw [e] at f; cases f; exact ⟨rfl, rfl⟩
    | rest f _ => rw [e] at f; cases f
    | more f _ _ => rw [e] at f; cases f
  | rest e l =>
    cases h2 with
    | burst f => rw [e] at f; cases f
    | rest f _ => rw [e] at f; cases f; exact ⟨rfl, rfl⟩
    | more f l2 _ => rw [e] at f; cases f; exact absurd l l2
  | more e l _ ih =>
    cases h2 with
    | burst f => rw [e] at f; cases f
    | rest f l2 => rw [e] at f; cases f; exact absurd l2 l
    | more f _ q => rw [e] at f; cases f; exact ih q
theorem passM_sub : ∀ {ss : List Sm} {K K' : List Int} {b : Bool}, passM ss K = (K', b) → ∃ g, K' = K ++ g
  | [], K, K', b, e => by cases e; exact ⟨[], by simp⟩
  | s :: ss, K, K', b, e => by
    unfold passM at e
    split at e
    · cases e; exact ⟨[], by simp⟩
    · obtain ⟨g, rfl⟩ := passM_sub e
      exact ⟨foundL s K ++ g, by simp⟩
theorem Pushes.sub {ss : List Sm} {K K' : List Int} {b : Bool} (h : Pushes ss K b K') : ∀ k ∈ K, k ∈ K' := by
  induction h with
  | burst e => obtain ⟨g, rfl⟩ := passM_sub e; exact fun k hk => List.mem_append_left _ hk
  | rest e _ => obtain ⟨g, rfl⟩ := passM_sub e; exact fun k hk => List.mem_append_left _ hk
  | more e _ _ ih => obtain ⟨g, rfl⟩ := passM_sub e; exact fun k hk => ih k (List.mem_append_left _ hk)
theorem passM_kn {n : Nat} {all : List Sm} {M : List Int} : ∀ {ss : List Sm} {K K' : List Int} {b : Bool}, (∀ s ∈ ss, s ∈ all) → (∀ s ∈ ss, SumOk n s ∧ Rise (s.1.map fun t => (t.2.natAbs : Int))) → KnI n all M K → passM ss K = (K', b) → KnI n all M K'
  | [], K, K', b, _, _, h, e => by cases e; exact h
  | s :: ss, K, K', b, hm, hs, h, e => by
    unfold passM at e
    split at e
    · cases e; exact h
    · have h1 := h.adds (hs s (List.mem_cons_self ..)).1 (hm s (List.mem_cons_self ..))
      rw [adds_fresh (found_nodup (n := n) (hs s (List.mem_cons_self ..)).2) fun m hm => found_fresh hm] at h1
      exact passM_kn (fun t ht => hm t (List.mem_cons_of_mem _ ht)) (fun t ht => hs t (List.mem_cons_of_mem _ ht)) h1 e
theorem Pushes.kn {n : Nat} {ss : List Sm} {M K K' : List Int} {b : Bool} (hs : ∀ s ∈ ss, SumOk n s ∧ Rise (s.1.map fun t => (t.2.natAbs : Int))) (h : Pushes ss K b K') : KnI n ss M K → KnI n ss M K' := by
  induction h with
  | burst e => exact fun k => passM_kn (fun _ m => m) hs k e
  | rest e _ => exact fun k => passM_kn (fun _ m => m) hs k e
  | more e _ _ ih => exact fun k => ih (passM_kn (fun _ m => m) hs k e)
theorem passM_len : ∀ {ss : List Sm} {K K' : List Int}, passM ss K = (K', false) → K'.length = K.length → K' = K ∧ ∀ s ∈ ss, OkAt s K
  | [], K, K', e, _ => by cases e; exact ⟨rfl, by simp⟩
  | s :: ss, K, K', e, l => by
    unfold passM at e
    split at e
    · cases e
    · rename_i hr
      obtain ⟨g, hg⟩ := passM_sub e
      have hf : foundL s K = [] := by
        rw [hg] at l
        simp only [List.length_append] at l
        exact List.length_eq_zero_iff.mp (by omega)
      rw [hf, List.append_nil] at e
      obtain ⟨e1, e2⟩ := passM_len e l
      exact ⟨e1, fun t ht => (List.mem_cons.mp ht).elim (fun z => z ▸ ⟨by omega, hf⟩) (e2 t)⟩
theorem passM_burst : ∀ {ss : List Sm} {K K' : List Int}, passM ss K = (K', true) → ∃ s ∈ ss, roomL s K' < 0
  | s :: ss, K, K', e => by
    unfold passM at e
    split at e
    · rename_i h; cases e; exact ⟨s, List.mem_cons_self .., h⟩
    · obtain ⟨t, ht, h⟩ := passM_burst e
      exact ⟨t, List.mem_cons_of_mem _ ht, h⟩
theorem Pushes.bad {ss : List Sm} {K K' : List Int} {b : Bool} (h : Pushes ss K b K') : b = true → ∃ s ∈ ss, roomL s K' < 0 := by
  induction h with
  | burst e => exact fun _ => passM_burst e
  | rest e _ => exact fun z => Bool.noConfusion z
  | more e _ _ ih => exact ih
theorem Pushes.okAt {ss : List Sm} {K K' : List Int} {b : Bool} (h : Pushes ss K b K') : b = false → ∀ s ∈ ss, OkAt s K' := by
  induction h with
  | burst e => exact fun z => Bool.noConfusion z
  | rest e l => obtain ⟨e1, e2⟩ := passM_len e l; exact fun _ => e1 ▸ e2
  | more e _ _ ih => exact ih
/-- in another order, the same word -/
theorem Pushes.word {n : Nat} {ss ts : List Sm} {M K K' : List Int} {b c : Bool} (hs : ∀ s ∈ ss, SumOk n s ∧ Rise (s.1.map fun t => (t.2.natAbs : Int))) (hp : ts.Perm ss) (hM : KnI n ss M M) (h : Pushes ss M b K) (h2 : Pushes ts M c K') : b = c := by
  have hM2 : KnI n ts M M := ⟨hM.nd, hM.ok, hM.sub, fun C _ hm k hk => hm k hk⟩
  have hts : ∀ s ∈ ts, SumOk n s ∧ Rise (s.1.map fun t => (t.2.natAbs : Int)) := fun s m => hs s (hp.mem_iff.mp m)
  have k1 := h.kn hs hM
  have k2 := h2.kn hts hM2
  have key : ∀ {xs ys : List Sm} {A B : List Int}, (∀ s ∈ ys, s ∈ xs) → (∀ s ∈ ys, SumOk n s) → (∀ s ∈ xs, OkAt s A) → (∀ m ∈ M, m ∈ A) → KnI n ys M B → (∃ s ∈ ys, roomL s B < 0) → False := by
    intro xs ys A B hsub hok hA hMA kB ⟨s, hsy, hr⟩
    have S := shut_of hA
    have S2 : Shut ys fun m => decide (m ∈ A) := ⟨fun s m => S.room s (hsub s m), fun s m => S.push s (hsub s m)⟩
    have hc := kB.cl _ S2 fun m hm => by simpa using hMA m hm
    have := room_le (hok s hsy) hc
    have := S.room s (hsub s hsy)
    omega
  cases b <;> cases c
  · rfl
  · exact (key (fun s m => hp.mem_iff.mp m) (fun s m => (hts s m).1) (h.okAt rfl) h.sub k2 (h2.bad rfl)).elim
  · exact (key (fun s m => hp.mem_iff.mpr m) (fun s m => (hs s m).1) (h2.okAt rfl) h2.sub k1 (h.bad rfl)).elim
  · rfl
/-- each mark that is pushed may come anew -/
theorem passM_come {n : Nat} {F : List Int} {D : Int → Bool} : ∀ {ss : List Sm} {K K' : List Int} {b : Bool}, (∀ s ∈ ss, SumOk n s) → (∀ k ∈ K', k ∈ F) → (∀ s ∈ ss, ∀ t ∈ s.1, roomP s D < t.1 → t.2 ∈ F → D t.2 = true) → (∀ k ∈ K, D k = true) → passM ss K = (K', b) → ∀ k ∈ K', D k = true
  | [], K, K', b, _, _, _, h, e => by cases e; exact h
  | s :: ss, K, K', b, hs, hF, hD, h, e => by
    unfold passM at e
    split at e
    · cases e; exact h
    · obtain ⟨g, rfl⟩ := passM_sub e
      refine passM_come (fun t ht => hs t (List.mem_cons_of_mem _ ht)) hF (fun t ht => hD t (List.mem_cons_of_mem _ ht)) (fun k hk => ?_) e
      rcases List.mem_append.mp hk with hk | hk
      · exact h k hk
      · have hf := hF k (by simp [hk])
        have hk2 := hk
        unfold foundL at hk2
        obtain ⟨t, ht, rfl⟩ := List.mem_map.mp hk2
        rw [List.mem_filter] at ht
        have hr : roomL s K < t.1 := by
          have := ht.2
          simp only [Bool.and_eq_true, decide_eq_true_eq] at this
          exact this.1
        have := room_le (hs s (List.mem_cons_self ..)) h
        exact hD s (List.mem_cons_self ..) t ht.1 (by omega) hf
theorem Pushes.come {n : Nat} {D : Int → Bool} {ss : List Sm} {K K' : List Int} {b : Bool} (hs : ∀ s ∈ ss, SumOk n s) (h : Pushes ss K b K') : (∀ s ∈ ss, ∀ t ∈ s.1, roomP s D < t.1 → t.2 ∈ K' → D t.2 = true) → (∀ k ∈ K, D k = true) → ∀ k ∈ K', D k = true := by
  induction h with
  | burst e => exact fun hD h => passM_come hs (fun _ m => m) hD h e
  | rest e _ => exact fun hD h => passM_come hs (fun _ m => m) hD h e
  | more e _ q ih => exact fun hD h => ih hD (passM_come hs q.sub hD h e)
end DP
/-! QLW: marks that are known: dicts, lists; their order; omitted defaults; while. -/
namespace HL
open PySem L2
def knA (K : List Int) : List (Key × AV) := K.map fun k => (.inl k, .bl true)
theorem knA_dic (K : List Int) : knA K = dicA .bl (K.map fun k => (k, true)) := by simp [knA, dicA]
@[simp] theorem knA_len (K : List Int) : (knA K).length = K.length := by simp [knA]
theorem look_kn (K : List Int) (k : Int) : (lookA (knA K) (.inl k)).isSome = decide (k ∈ K) := by
  rw [knA_dic, lookA_dic]
  cases e : look (K.map fun k => (k, true)) k with
  | none =>
    have := look_none.mp e
    simp only [List.map_map, Function.comp_def, List.map_id'] at this
    simp [this]
  | some v =>
    by_cases h : k ∈ K
    · simp [h]
    · have : look (K.map fun k => (k, true)) k = none := look_none.mpr (by simpa [Function.comp_def] using h)
      rw [this] at e; cases e
@[simp] theorem putA_kn (K : List Int) (m : Int) : putA (knA K) (.inl m) (.bl true) = knA (DP.addK K m) := by
  rw [knA_dic, putA_dic, knA_dic]
  congr 1
  unfold put DP.addK
  by_cases h : m ∈ K
  · rw [if_pos (by simpa [Function.comp_def] using h), if_pos h, List.map_map]
    apply List.map_congr_left
    intro k _
    simp only [Function.comp]
    split <;> rfl
  · rw [if_neg (by simpa [Function.comp_def] using h), if_neg h]
    simp
/-- ints that are known, in a dict or a list -/
def KnC (c : Cell) (K : List Int) : Prop := c = .dic (knA K) ∨ c = .lst (K.map .int)
section
variable {h : AH} {n m : Nat} {K : List Int} {k : Int} {neg : Bool}
theorem gIn_kn {c : Cell} (e : h[n]? = some c) (hc : KnC c K) (neg : Bool) (k : Int) : gIn neg h (.int k) (.ref n) = some (.val (.bl (if neg = true then !decide (k ∈ K) else decide (k ∈ K)))) := by
  rcases hc with rfl | rfl
  · simp only [gIn, e, keyA, look_kn]
  · simp only [gIn, e]
    unfold lift2
    rw [readD_of (.int k), readD_of (.lst e (isDs_map (g := PyData.int) fun i _ => .int i))]
    simp only [Option.bind_some]
    have := DP.gIn_ints neg k K
    unfold DP.dInts at this
    rw [this]
    rfl
theorem gSort_kn (e : h[n]? = some (.dic (knA K))) (hl : K.length < 64) : gSort h [.ref n] = some (.new (.lst ((K.mergeSort DP.leI).map .int))) := by
  have := gSort_dic (enc := AV.bl) (l := K.map fun k => (k, true)) (h := h) (n := n) (by rw [e, knA_dic]) (by simpa using hl)
  rw [this]
  simp [Function.comp_def]
theorem leD_int (a b : Int) : DP.leD (.int a) (.int b) = DP.leI a b := by
  have e : PySem.W.dataLt (.int b) (.int a) = decide (b < a) := PySem.W.dataLt_int b a
  unfold DP.leD DP.leI
  rw [e]
  by_cases h : a ≤ b
  · rw [decide_eq_true h, decide_eq_false (by omega)]; rfl
  · rw [decide_eq_false h, decide_eq_true (by omega)]; rfl
theorem gSort_ints (e : h[n]? = some (.lst (K.map .int))) : gSort h [.ref n] = some (.new (.lst ((K.mergeSort DP.leI).map .int))) := by
  obtain ⟨ys, e1, e2, _⟩ := gSort_map (g := PyData.int) e (fun i => .int i) (fun _ => rfl) (DP.sortOk_map (n := 0) (fun x _ y _ => by simp [PySem.W.alike]) (.inr fun x _ => rfl) fun x _ => DP.shInt 0 x)
  rw [e1, e2]
  simp only [leD_int]
theorem gEq_ints {K L : List Int} (e1 : h[n]? = some (.lst (K.map .int))) (e2 : h[m]? = some (.lst (L.map .int))) (neg : Bool) : gEq neg h (.ref n) (.ref m) = some (.val (.bl (if neg = true then !decide (K = L) else decide (K = L)))) := by
  rw [gEq_rd (.lst e1 (isDs_map (g := PyData.int) fun b _ => .int b)) (.lst e2 (isDs_map (g := PyData.int) fun b _ => .int b)) (DP.shList (n := 0) fun b _ => DP.shInt 0 b) (DP.shList (n := 0) fun b _ => DP.shInt 0 b)]
  simp only [PyData.eqv, DP.eqvAll_inj DP.eqv_int]
theorem gEq_strs {x y : Str} (hx : PyData.strOk x = true) (hy : PyData.strOk y = true) (neg : Bool) : gEq neg h (.str x) (.str y) = some (.val (.bl (if neg = true then !decide (x = y) else decide (x = y)))) := by
  rw [gEq_rd (.str x) (.str y) (DP.shStr 0 hx) (DP.shStr 0 hy)]
  have : PyData.eqv (.str x) (.str y) = decide (x = y) := by
    simp only [PyData.eqv]
    by_cases h : x = y <;> simp [h]
  rw [this]
@[simp] theorem isi_ls (xs : List AV) (e : h[n]? = some (.lst xs)) : gIsi "list" h (.ref n) = some (.val (.bl true)) := by
  have : kitB "list" "list" = some true := by decide +kernel
  simp [gIsi, isiA, tyA, e, this]
theorem kn_sort_perm (K : List Int) : (K.mergeSort DP.leI).Perm K := List.mergeSort_perm K DP.leI
theorem sort_sort (K : List Int) : (K.mergeSort DP.leI).mergeSort DP.leI = K.mergeSort DP.leI := List.mergeSort_of_pairwise (List.pairwise_mergeSort DP.leI_trans DP.leI_total K)
theorem addsK_le : ∀ (ks acc : List Int), (ks.foldl DP.addK acc).length ≤ acc.length + ks.length
  | [], acc => by simp
  | k :: ks, acc => by
    have h1 := addsK_le ks (DP.addK acc k)
    have h2 : (DP.addK acc k).length ≤ acc.length + 1 := by unfold DP.addK; split <;> simp
    simp only [List.foldl_cons, List.length_cons]
    omega
/-- {k: True for k in ks} -/
theorem eDComp_kn {it : EM Sr} {v : Nat} {ρ : Env} {h1 : AH} {keep : List (Nat × Cell)} {ks : List Int} (hi : it ρ h = .ok ⟨ks.map .int, keep⟩ h1) (hk : kept h1 keep) (hv : v < ρ.length) (hz : ks.length ≤ 10000000) :
    eDComp it (gNm v) [v] (retM true) (eVar v) (eC (.bl true)) ρ h = .ok (.ref h1.length) (h1 ++ [.dic (knA (ks.foldl DP.addK []))]) := by
  have key : ∀ (ys K : List Int), K.length + ys.length ≤ 10000000 → compG keep (gNm v) (retM true) (inDic (eVar v) (eC (.bl true))) (wipeE ρ [v]) (ys.map AV.int) (knA K) h1 = .ok (knA (ys.foldl DP.addK K)) h1 := by
    intro ys
    induction ys with
    | nil => intro K _; simp [compG, hk]
    | cons y ys ih =>
      intro K hl
      simp only [List.length_cons] at hl
      have hs : DP.smallL (knA K).length = true := by simp [DP.smallL]; omega
      have e2 : eVar v (setE (wipeE ρ [v]) v (.int y)) h1 = .ok (.int y) h1 := by simp [hv]
      have h2 : (DP.addK K y).length ≤ K.length + 1 := by unfold DP.addK; split <;> simp
      simp only [List.map_cons, compG, hk, if_true, gNm_ap, retM_ap, inDic, e2, eC_ap, keyA, hs, putA_kn, List.foldl_cons]
      exact ih _ (by omega)
  unfold eDComp
  rw [bnd_ap, hi, bind_ok]
  have := key ks [] (by simpa using hz)
  simp only [show knA [] = [] from rfl] at this
  simp only [this]
@[simp] theorem eCallD_app {ρ : Env} (n : Nat) (f : FM) (dv : List AV) (fa : EM (List AV)) : eCallD n f dv fa ρ h = (fa ρ h).bind fun ds h => if (ds ++ dv).length = n then f (ds ++ dv) h else .no := nr rfl
end
theorem adds_nodup {ms : List Int} (h : ms.Nodup) : ms.foldl DP.addK [] = ms := by
  have := DP.adds_fresh (K := []) h (by simp)
  simpa using this
end HL
namespace LW
open PySem L2 HL
theorem pool_run (h : AH) (ns : List Int) (k : Int) (hn : ns.length ≤ 63) (h0 : 0 ≤ k) (h1 : k < 64) : ∃ g c, PoolC c ∧ m__law_pool [.scr ns, .int k] h = .ok (.ref (h ++ g).length) (h ++ g ++ [c]) := by
  have hk : -18446744073709551616 < k ∧ k < 18446744073709551616 := by omega
  have hm : ∀ g : Int, -18446744073709551616 < g % 2147483629 ∧ g % 2147483629 < 18446744073709551616 := fun g => by
    have := Int.emod_nonneg g (show (2147483629 : Int) ≠ 0 by decide)
    have := Int.emod_lt_of_pos g (show (0 : Int) < 2147483629 by decide)
    omega
  have hm2 : ∀ g : Int, -18446744073709551616 < g % 2147483647 ∧ g % 2147483647 < 18446744073709551616 := fun g => by
    have := Int.emod_nonneg g (show (2147483647 : Int) ≠ 0 by decide)
    have := Int.emod_lt_of_pos g (show (0 : Int) < 2147483647 by decide)
    omega
  have hi : ∀ g : Int, -18446744073709551616 < (if 1000000000000000000 ≤ g then (1 : Int) else 0) ∧ (if 1000000000000000000 ≤ g then (1 : Int) else 0) < 18446744073709551616 := fun g => by split <;> decide
  have ok : ∀ x : Int, PoolC (.lst [.int ((if x < 0 then -x else x) * (if 1000000000000000000 ≤ (if x < 0 then -x else x) then 1 else 0)), .int (((if x < 0 then -x else x) % 2147483629 + 7919 * k * k + 31 * k + 17) * 48271 % 2147483647 * (((if x < 0 then -x else x) % 2147483629 + 7919 * k * k + 31 * k + 17) * 48271 % 2147483647) % 2147483629)]) := fun x => by
    refine ⟨_, _, rfl, ?_, Int.emod_nonneg _ (by decide), ?_⟩
    · exact Int.mul_nonneg (by split <;> omega) (by split <;> omega)
    · have := Int.emod_lt_of_pos (((if x < 0 then -x else x) % 2147483629 + 7919 * k * k + 31 * k + 17) * 48271 % 2147483647 * (((if x < 0 then -x else x) % 2147483629 + 7919 * k * k + 31 * k + 17) * 48271 % 2147483647)) (show (0 : Int) < 2147483629 by decide)
      omega
  by_cases hlt : k < (ns.length : Int)
  · obtain ⟨x, e, _⟩ := DP.atI_some h0 hlt
    refine ⟨[.lst (cutA (ns.map .int) none (some 63))], _, ok x, ?_⟩
    rw [me__law_pool, b__law_pool]
    simp [gMul_l, gMul_r, gMod_int, gPow_int, hlt, e, hk, hm2, hi, DP.smallL]
  · refine ⟨[.lst (cutA (ns.map .int) none (some 63))], _, ok (11 * (ns.take 63).sum + k), ?_⟩
    rw [me__law_pool, b__law_pool]
    simp [gMul_l, gMul_r, gMod_int, gPow_int, hlt, hk, hm2, hi, DP.smallL]
theorem take_run {h : AH} {p : Nat} {c : Cell} (hp : h[p]? = some c) (hc : PoolC c) (n : Int) (h0 : 0 < n) (h1 : n ≤ 1000000000) : ∃ (r : Int) (c' : Cell), m__law_take [.ref p, .int n] h = .ok (.int r) (h.set p c') ∧ PoolC c' ∧ 0 ≤ r ∧ r < n := by
  obtain ⟨g, x, rfl, hg, hx, hx2⟩ := hc
  have hl := (List.getElem?_eq_some_iff.mp hp).1
  have hn : n < 2 ^ 200 := by omega
  have gs : ∀ c, (h.set p c)[p]? = some c := fun c => List.getElem?_set_self hl
  by_cases hpos : 0 < g
  · refine ⟨g % n, .lst [.int (g / n), .int x], ?_, ⟨g / n, x, rfl, Int.ediv_nonneg hg (by omega), hx, hx2⟩, Int.emod_nonneg _ (by omega), Int.emod_lt_of_pos _ h0⟩
    rw [me__law_take, b__law_take]; simp [hp, hpos, gMod_int h0, gFdiv_int h0 hn, ixN, atI]
  · generalize hy : (x * 48271 + 11) % 2147483647 = y
    have hy0 : 0 ≤ y := by rw [← hy]; exact Int.emod_nonneg _ (by decide)
    have hy1 : y < 2147483647 := by rw [← hy]; exact Int.emod_lt_of_pos _ (by decide)
    refine ⟨y * y % 2147483629 / 16 % n, .lst [.int g, .int y], ?_, ⟨g, y, rfl, hg, hy0, hy1⟩, Int.emod_nonneg _ (by omega), Int.emod_lt_of_pos _ h0⟩
    have hb : -18446744073709551616 < y ∧ y < 18446744073709551616 := by omega
    rw [me__law_take, b__law_take]; simp [hp, hpos, gMod_int, gMod_int h0, gFdiv_int, ixN, atI, gMul_r, gMul_l, hy, hb, gs]
theorem take_fr {h : AH} {p : Nat} {c : Cell} (hp : h[p]? = some c) (hc : PoolC c) (n : Int) (h0 : 0 < n) (h1 : n ≤ 1000000000) : ∃ (r : Int) (c' : Cell) (h' : AH), m__law_take [.ref p, .int n] h = .ok (.int r) h' ∧ h'[p]? = some c' ∧ PoolC c' ∧ Fr [p] h h' ∧ 0 ≤ r ∧ r < n := by
  obtain ⟨r, c', e, hc', h2, h3⟩ := take_run hp hc n h0 h1
  exact ⟨r, c', _, e, List.getElem?_set_self (lt_of_get hp), hc', Fr.set h c' (by simp), h2, h3⟩
theorem sum_run {h : AH} {p : Nat} {c : Cell} (hp : h[p]? = some c) (hc : PoolC c) (n : Nat) (h1 : n ≤ 1000) : ∃ (s : DP.Sm) (c' : Cell) (h' : AH), m__law_sum [.ref p, .int n] h = .ok (sumA s) h' ∧ h'[p]? = some c' ∧ PoolC c' ∧ Fr [p] h h' ∧ DP.SumOk2 n s := by
  have hpl := lt_of_get hp
  have hi : DP.in62 ((n : Int) + 1) = true := in62_of (by omega) (by omega)
  have hi1 : DP.in62 1 = true := in62_of (by omega) (by omega)
  have key := forL_nx (keep := []) (g := gNm 3) (body := sIf (tBool (eOp2 gGt (eCall 2 m__law_take (aCons (eVar 0) (aCons (eC (.int 3)) aNil))) (eC (.int 0)))) (sSeq (sSet 4 (eOp2 gIx (eLst (aCons (eC (.int 1)) (aCons (eC (.int 1)) (aCons (eC (.int 1)) (aCons (eC (.int 2)) (aCons (eC (.int 3)) (aCons (eC (.int 7)) (aCons (eOp2 gPow (eC (.int 10)) (eC (.int 20))) aNil)))))))) (eCall 2 m__law_take (aCons (eVar 0) (aCons (eC (.int 7)) aNil)))))
    (sExpr (eMeth "list" mAppend (eVar 2) (aCons (eTup (aCons (eVar 4) (aCons (eOp2 gIx (eLst (aCons (eVar 3) (aCons (eOp2 gSub (eC (.int 0)) (eVar 3)) aNil))) (eCall 2 m__law_take (aCons (eVar 0) (aCons (eC (.int 2)) aNil)))) aNil))) aNil)))) sNil)
    (enc := fun i : Nat => AV.int (1 + (i : Int))) (xs := List.range n) (ρ := [some (.ref p), some (.int n), some (.ref h.length), none, none, none, none, none]) (h := h ++ [.lst []])
    (fun ys ρ h' => ∃ (ts : List (Int × Int)) (c' : Cell) (a b : Option AV), Fr [p] h h' ∧ h'[p]? = some c' ∧ PoolC c' ∧ h'[h.length]? = some (.lst (ts.map termA)) ∧ (∀ t ∈ ts, (0 : Int) < t.1 ∧ DP.okM n t.2 ∧ t.1 ≤ 100000000000000000000 ∧ t.2.natAbs ≤ ys.length) ∧ DP.risesL (ts.map fun t => (t.2.natAbs : Int)) = true ∧ ts.length ≤ ys.length ∧ ρ = [some (.ref p), some (.int n), some (.ref h.length), a, b, none, none, none])
    ⟨[], c, none, none, Fr.add [p] h _, get_pre hp _, hc, by simp, by simp, rfl, by simp, rfl⟩ (fun _ _ _ _ => by simp [kept]) ?_
  · obtain ⟨ρ', h', e, ts, c', a, b, fr, hp', hc', hq', hts, hri, hl, rfl⟩ := key
    have hpq : h.length ≠ p := by omega
    have ec := eComp_keepA (it := iSeqM (eVar 2)) (g := gTupM 2 (gsCons (gNm 4) (gsCons (gNm 6) gsNil))) (vs := [4, 6]) (elt := eVar 4) (ρ := [some (.ref p), some (.int n), some (.ref h.length), a, b, none, none, none]) (h := h') (h1 := h') (keep := [(h.length, .lst (ts.map termA))]) (xs := ts) (enc := termA) (fun t => .int t.1)
      (by simp [srOf_ref hq']) (by intro z hz; simp only [List.mem_singleton] at hz; subst hz; exact hq') (by simp at hl; omega)
      (fun t _ => ⟨_, by simp [termA]; exact rfl, by simp⟩)
    have hsum := DP.sum_fac (n := n) (ts := ts) fun t ht => ⟨(hts t ht).1, (hts t ht).2.2.1⟩
    have hl' : ts.length ≤ n := by simpa using hl
    generalize htot : (ts.map (·.1)).sum = tt at hsum
    have hmul : (ts.length : Int) * 100000000000000000000 ≤ (n : Int) * 100000000000000000000 := by omega
    have hn0 : (0 : Int) ≤ (n : Int) * 100000000000000000000 := by omega
    have hgc : (h' ++ [Cell.lst (ts.map fun t => AV.int t.1)])[h'.length]? = some (.lst (ts.map fun t => AV.int t.1)) := by simp
    have hp2 := get_pre hp' [Cell.lst (ts.map fun t => AV.int t.1)]
    have hq2 := get_pre hq' [Cell.lst (ts.map fun t => AV.int t.1)]
    have f2 := fr.trans (Fr.add [p] h' [Cell.lst (ts.map fun t => AV.int t.1)])
    generalize h' ++ [Cell.lst (ts.map fun t => AV.int t.1)] = h2 at ec hgc hp2 hq2 f2
    obtain ⟨r, c3, h3, e3, hp3, hc3, f3, hr0, hr1⟩ := take_fr (h := h2 ++ [.lst [.int 1, .int 1, .int 2, .int tt, .int (tt + 1), .int 0, .int (-3), .int (1 + tt / 2)]]) (get_pre hp2 _) hc' 8 (by decide) (by decide)
    have g3 : h3[h2.length]? = some (.lst [.int 1, .int 1, .int 2, .int tt, .int (tt + 1), .int 0, .int (-3), .int (1 + tt / 2)]) := f3.same _ _ (by have := lt_of_get hp2; simp; omega) (by simp)
    have hq3 := f3.same _ _ (by simpa using hpq) (get_pre hq2 _)
    obtain ⟨x, e4, hm, _⟩ := DP.atI_some (xs := [AV.int 1, .int 1, .int 2, .int tt, .int (tt + 1), .int 0, .int (-3), .int (1 + tt / 2)]) hr0 (by simpa using hr1)
    have hx : ∃ i, x = .int i ∧ -10 ≤ i ∧ i ≤ 10 + (n : Int) * 100000000000000000000 := by
      simp only [List.mem_cons, List.not_mem_nil, or_false] at hm
      rcases hm with h | h | h | h | h | h | h | h <;> exact ⟨_, h, by omega, by omega⟩
    obtain ⟨i, rfl, hi0, hi10⟩ := hx
    refine ⟨(ts, i), c3, h3, ?_, hp3, hc3, (f2.trans (Fr.add [p] h2 _)).trans f3, ⟨⟨fun t ht => (hts t ht).1, fun t ht => (hts t ht).2.1, hl'⟩, hri, fun t ht => (hts t ht).2.2.1, hi0, hi10⟩⟩
    rw [me__law_sum, b__law_sum]
    simp [hi, hi1, rngA, DP.smallL]
    rw [e]
    simp [ec, hgc, htot, gFdiv_int, DP.smallL, e3, g3, e4, hq3, sumA]
  · rintro ys y zs ρ h' he ⟨ts, c', a, b, fr, hp', hc', hq', hts, hri, hl, rfl⟩
    have hy : ys.length < n ∧ y = ys.length := by
      have h1 := congrArg List.length he
      have h2 := congrArg (fun l => l[ys.length]?) he
      simp at h1 h2
      exact ⟨by omega, by rw [List.getElem?_range (by omega)] at h2; simpa using h2.symm⟩
    have hpq : h.length ≠ p := by omega
    obtain ⟨r1, c1, h1', e1, hp1, hc1, f1, r10, r11⟩ := take_fr hp' hc' 3 (by decide) (by decide)
    have hq1 := f1.same _ _ (by simpa using hpq) hq'
    by_cases hr : 0 < r1
    · obtain ⟨r2, c2, h2, e2, hp2, hc2, f2, r20, r21⟩ := take_fr (h := h1' ++ [.lst [.int 1, .int 1, .int 1, .int 2, .int 3, .int 7, .int 100000000000000000000]]) (get_pre hp1 _) hc1 7 (by decide) (by decide)
      have g2 : h2[h1'.length]? = some (.lst [.int 1, .int 1, .int 1, .int 2, .int 3, .int 7, .int 100000000000000000000]) := f2.same _ _ (by have := lt_of_get hp1; simp; omega) (by simp)
      obtain ⟨x, e3, hm, _⟩ := DP.atI_some (xs := [AV.int 1, .int 1, .int 1, .int 2, .int 3, .int 7, .int 100000000000000000000]) r20 (by simpa using r21)
      have hx : ∃ i, x = .int i ∧ 0 < i ∧ i ≤ 100000000000000000000 := by
        simp only [List.mem_cons, List.not_mem_nil, or_false] at hm
        rcases hm with h | h | h | h | h | h | h <;> exact ⟨_, h, by decide, by decide⟩
      obtain ⟨i, rfl, hi0, hi20⟩ := hx
      have hq2 := f2.same _ _ (by simpa using hpq) (get_pre hq1 _)
      obtain ⟨r4, c4, h4, e4, hp4, hc4, f4, r40, r41⟩ := take_fr (h := h2 ++ [.lst [.int (1 + (y : Int)), .int (0 - (1 + (y : Int)))]]) (get_pre hp2 _) hc2 2 (by decide) (by decide)
      have g4 : h4[h2.length]? = some (.lst [.int (1 + (y : Int)), .int (0 - (1 + (y : Int)))]) := f4.same _ _ (by have := lt_of_get hp2; simp; omega) (by simp)
      have hq4 := f4.same _ _ (by simpa using hpq) (get_pre hq2 _)
      obtain ⟨x, e5, hm, _⟩ := DP.atI_some (xs := [AV.int (1 + (y : Int)), .int (0 - (1 + (y : Int)))]) r40 (by simpa using r41)
      have hx : ∃ m, x = .int m ∧ DP.okM n m ∧ m.natAbs = y + 1 := by
        simp only [List.mem_cons, List.not_mem_nil, or_false] at hm
        rcases hm with h | h
        · exact ⟨_, h, by unfold DP.okM; omega, by omega⟩
        · exact ⟨_, h, by unfold DP.okM; omega, by omega⟩
      obtain ⟨m, rfl, hmk, hmy⟩ := hx
      have hs : ts.length ≤ 10000000 := by omega
      have f04 := ((((fr.trans f1).trans (Fr.add [p] _ _)).trans f2).trans (Fr.add [p] _ _)).trans f4
      refine ⟨_, h', [some (.ref p), some (.int n), some (.ref h.length), some (.int (1 + (y : Int))), some (.int i), none, none, none], h4.set h.length (.lst ((ts ++ [(i, m)]).map termA)), by simp; exact rfl, .inl ?_, ts ++ [(i, m)], c4, _, _, f04.fresh (Fr.set (X := [h.length]) h4 _ (by simp)) (by simp), by rw [List.getElem?_set_ne hpq]; exact hp4, hc4, List.getElem?_set_self (lt_of_get hq4), ?_, ?_, by simp; omega, rfl⟩
      · simp at e2 g2 e3 e4 g4 e5
        simp [e1, hr, DP.smallL, gPow_int, e2, g2, e3, hq2, e4, g4, e5, hq4, hs, termA]
      · intro t ht
        rcases List.mem_append.mp ht with ht | ht
        · have := hts t ht
          exact ⟨this.1, this.2.1, this.2.2.1, by have := this.2.2.2; simp; omega⟩
        · simp only [List.mem_singleton] at ht
          subst ht
          exact ⟨hi0, hmk, hi20, by simp; omega⟩
      · rw [List.map_append]
        refine DP.rises_snoc hri fun z hz => ?_
        obtain ⟨t, ht, rfl⟩ := List.mem_map.mp hz
        have := (hts t ht).2.2.2
        simp only
        omega
    · refine ⟨_, h', [some (.ref p), some (.int n), some (.ref h.length), some (.int (1 + (y : Int))), b, none, none, none], h1', by simp; exact rfl, .inl ?_, ts, c1, _, _, fr.trans f1, hp1, hc1, hq1, ?_, hri, by simp; omega, rfl⟩
      · simp [e1, hr]
      · intro t ht
        have := hts t ht
        exact ⟨this.1, this.2.1, this.2.2.1, by have := this.2.2.2; simp; omega⟩
theorem room_run {s : DP.Sm} {K : List Int} {h : AH} {n : Nat} {c : Cell} (e : h[n]? = some c) (hc : KnC c K) (hl : s.1.length ≤ 10000000) : ∃ g, m_room [sumA s, .ref n] h = .ok (.int (DP.roomL s K)) (h ++ g) := by
  refine ⟨[.lst ((s.1.filter fun t => !decide (-t.2 ∈ K)).map fun t => .int t.1)], ?_⟩
  rw [me_room, b_room]
  simp [sumA]
  rw [eComp_keep (keep := []) (h1 := h) (xs := s.1) (enc := termA) (fun t => !decide (-t.2 ∈ K)) (fun t => .int t.1) ?a ?k ?z ?b]
  case a => simp
  case k => simp [kept]
  case z => exact hl
  case b => intro t ht; exact ⟨_, by simp [termA]; exact rfl, by simp [gIn_kn e hc], by simp⟩
  simp [DP.roomL]
theorem pushed_by_run {s : DP.Sm} {K : List Int} {h : AH} {n : Nat} {c : Cell} (e : h[n]? = some c) (hc : KnC c K) (hl : s.1.length ≤ 10000000) :
    ∃ (q : Nat) (h' : AH), m_pushed_by [sumA s, .ref n] h = .ok (.tup [.ref q, .bl (decide (DP.roomL s K < 0))]) h' ∧ Fr [] h h' ∧ h.length ≤ q ∧ (¬ DP.roomL s K < 0 → h'[q]? = some (.lst ((DP.foundL s K).map .int))) := by
  obtain ⟨g, e1⟩ := room_run (s := s) e hc hl
  have f1 := Fr.add [] h g
  have e2 := get_pre e g
  have hlen : h.length ≤ (h ++ g).length := by simp
  generalize h ++ g = h1 at e1 f1 e2 hlen
  by_cases hr : DP.roomL s K < 0
  · refine ⟨h1.length, h1 ++ [.lst []], ?_, f1.trans (Fr.add _ _ _), hlen, fun z => absurd hr z⟩
    rw [me_pushed_by, b_pushed_by]
    simp [e1, hr, DP.smallL]
  · have ec := eComp_keep (it := iSeqM (eOp2 gIx (eVar 0) (eC (.int 0)))) (g := gTupM 2 (gsCons (gNm 4) (gsCons (gNm 5) gsNil))) (vs := [4, 5]) (cond := tAndM (tBool (eOp2 gGt (eVar 4) (eVar 2))) (tAndM (tBool (eOp2 (HL.gIn true) (eVar 5) (eVar 1))) (tBool (eOp2 (HL.gIn true) (eOp1 gNeg (eVar 5)) (eVar 1))))) (elt := eVar 5) (ρ := [some (sumA s), some (.ref n), some (.int (DP.roomL s K)), none, none, none]) (h := h1) (h1 := h1) (keep := []) (xs := s.1) (enc := termA)
      (fun t => decide (DP.roomL s K < t.1) && (!decide (t.2 ∈ K) && !decide (-t.2 ∈ K))) (fun t => .int t.2) (by simp) (by simp [kept]) hl (fun t ht => by
        refine ⟨_, by simp [termA]; exact rfl, ?_, by simp⟩
        by_cases c1 : DP.roomL s K < t.1 <;> by_cases c2 : t.2 ∈ K <;> simp [c1, c2, gIn_kn e2 hc])
    refine ⟨h1.length, h1 ++ [.lst ((DP.foundL s K).map .int)], ?_, f1.trans (Fr.add _ _ _), hlen, fun _ => by simp⟩
    rw [me_pushed_by, b_pushed_by]
    simp [e1, hr, ec, DP.smallL, DP.foundL, Function.comp_def]
/-- good sums -/
def SsOk (n : Nat) (ss : List DP.Sm) : Prop := ∀ s ∈ ss, DP.SumOk n s ∧ DP.Rise (s.1.map fun t => (t.2.natAbs : Int))
noncomputable abbrev onePB : SM := sSeq (sAsg1 (eCall 2 m_pushed_by (aCons (eVar 5) (aCons (eVar 2) aNil))) (gTupM 2 (gsCons (gNm 6) (gsCons (gNm 7) gsNil))))
    (sSeq (sIf (tBool (eVar 7)) (sRet (eTup (aCons (eC (.str "bursts")) (aCons (eOpN gSort (aCons (eVar 2) aNil)) aNil)))) sNil)
    (sFor (iSeqM (eVar 6)) (gNm 3) (sAsg2 (eC (.bl true)) (gSub1 (eVar 2) (eVar 3)) (gNm 4))))
/-- the marks that are found join -/
theorem join_run {x0 x1 x3 x5 x7 : Option AV} {d q : Nat} {ms : List Int} (hdq : d ≠ q) {K : List Int} {g : Bool} {h : AH} (hd : h[d]? = some (.dic (knA K))) (hq : h[q]? = some (.lst (ms.map .int))) (hl : K.length + ms.length ≤ 10000000) :
    ∃ (h' : AH) (y3 : Option AV), sFor (iSeqM (eVar 6)) (gNm 3) (sAsg2 (eC (.bl true)) (gSub1 (eVar 2) (eVar 3)) (gNm 4)) [x0, x1, some (.ref d), x3, some (.bl g), x5, some (.ref q), x7] h = .nx [x0, x1, some (.ref d), y3, some (.bl (g || !ms.isEmpty)), x5, some (.ref q), x7] h' ∧ Fr [d] h h' ∧ h'[d]? = some (.dic (knA (ms.foldl DP.addK K))) := by
  have key := forL_nx (keep := [(q, .lst (ms.map .int))]) (g := gNm 3) (body := sAsg2 (eC (.bl true)) (gSub1 (eVar 2) (eVar 3)) (gNm 4)) (enc := AV.int) (xs := ms) (ρ := [x0, x1, some (.ref d), x3, some (.bl g), x5, some (.ref q), x7]) (h := h)
    (fun ys ρ h' => ∃ y3, Fr [d] h h' ∧ h'[d]? = some (.dic (knA (ys.foldl DP.addK K))) ∧ h'[q]? = some (.lst (ms.map .int)) ∧ ρ = [x0, x1, some (.ref d), y3, some (.bl (g || !ys.isEmpty)), x5, some (.ref q), x7])
    ⟨x3, Fr.refl _ _, hd, hq, by simp⟩ (fun ys ρ h' i => ?_) ?_
  · obtain ⟨ρ', h', e, y3, fr, hd', _, rfl⟩ := key
    exact ⟨h', y3, by simp [srOf_ref hq, e], fr, hd'⟩
  · obtain ⟨y3, _, _, hq', _⟩ := i
    intro z hz
    simp only [List.mem_singleton] at hz
    subst hz
    exact hq'
  · rintro ys y zs ρ h' he ⟨y3, fr, hd', hq', rfl⟩
    have hsz : (ys.foldl DP.addK K).length ≤ 10000000 := by
      have h1 := addsK_le ys K
      have h2 := congrArg List.length he
      simp at h2
      omega
    refine ⟨_, h', [x0, x1, some (.ref d), some (.int y), some (.bl (g || !(ys ++ [y]).isEmpty)), x5, some (.ref q), x7], h'.set d (.dic (knA ((ys ++ [y]).foldl DP.addK K))), by simp; exact rfl, .inl ?_, _, fr.trans (Fr.set h' _ (by simp)), List.getElem?_set_self (lt_of_get hd'), by rw [List.getElem?_set_ne hdq]; exact hq', rfl⟩
    simp [hd', DP.smallL, hsz]
/-- one pass over the sums -/
def PassQ (ss : List DP.Sm) (n d w : Nat) (x1 : Option AV) (K0 : List Int) (h : AH) (o : Ou) : Prop :=
  (∃ (K : List Int) (x3 x5 x6 x7 : Option AV) (h' : AH), DP.passM ss K0 = (K, false) ∧ o = .nx [some (.ref w), x1, some (.ref d), x3, some (.bl (!decide (K.length = K0.length))), x5, x6, x7] h' ∧ Fr [d] h h' ∧ h'[d]? = some (.dic (knA K))) ∨
  (∃ (K : List Int) (q : Nat) (h' : AH), DP.passM ss K0 = (K, true) ∧ o = .rt (.tup [.str "bursts", .ref q]) h' ∧ Fr [d] h h' ∧ h.length ≤ q ∧ h'[q]? = some (.lst ((K.mergeSort DP.leI).map .int)))
theorem passM_app : ∀ (ys : List DP.Sm) (K K1 : List Int) (zs : List DP.Sm), DP.passM ys K = (K1, false) → DP.passM (ys ++ zs) K = DP.passM zs K1
  | [], K, K1, zs, e => by cases e; rfl
  | s :: ys, K, K1, zs, e => by
    unfold DP.passM at e
    rw [List.cons_append]
    conv => lhs; unfold DP.passM
    split at e
    · cases e
    · rename_i hr
      rw [if_neg hr]
      exact passM_app ys _ K1 zs e
theorem pass_run {n : Nat} {ss : List DP.Sm} {M K0 : List Int} (hn : n ≤ 12) (hs : SsOk n ss) (hK : DP.KnI n ss M K0) {h : AH} {w d : Nat} (hwd : w ≠ d) (hw : h[w]? = some (.lst (ss.map sumA))) (hd : h[d]? = some (.dic (knA K0))) (x1 x3 x5 x6 x7 : Option AV) :
    PassQ ss n d w x1 K0 h (forL [(w, .lst (ss.map sumA))] (gNm 5) onePB (ss.map sumA) [some (.ref w), x1, some (.ref d), x3, some (.bl false), x5, x6, x7] h) := by
  refine forL_inv (enc := sumA) (xs := ss) (Q := PassQ ss n d w x1 K0 h) (fun ys ρ h' => ∃ (K : List Int) (x3 x5 x6 x7 : Option AV), DP.passM ys K0 = (K, false) ∧ DP.KnI n ss M K ∧ Fr [d] h h' ∧ h'[w]? = some (.lst (ss.map sumA)) ∧ h'[d]? = some (.dic (knA K)) ∧ ρ = [some (.ref w), x1, some (.ref d), x3, some (.bl (!decide (K.length = K0.length))), x5, x6, x7]) ⟨K0, x3, x5, x6, x7, rfl, hK, Fr.refl _ _, hw, hd, by simp⟩ (fun ys ρ h' i => ?_) ?_ ?_
  · obtain ⟨K, x3, x5, x6, x7, _, _, _, hw', _⟩ := i
    intro z hz
    simp only [List.mem_singleton] at hz
    subst hz
    exact hw'
  · rintro ys s zs ρ h' he ⟨K, x3, x5, x6, x7, hp, hK, fr, hw', hd', rfl⟩
    have hss : s ∈ ss := by rw [he]; simp
    obtain ⟨so, sr⟩ := hs s hss
    have hsl := so.len
    have hKl := DP.okM_len hK.nd hK.ok
    obtain ⟨q, h1, e1, f1, hq, hfq⟩ := pushed_by_run (s := s) hd' (.inl rfl) (by omega)
    have hd1 := f1.same _ _ (by simp) hd'
    have hw1 := f1.same _ _ (by simp) hw'
    refine ⟨_, h', by simp; exact rfl, ?_⟩
    by_cases hr : DP.roomL s K < 0
    · have es := gSort_kn hd1 (by omega)
      have hbp : DP.passM ss K0 = (K, true) := by
        rw [he, passM_app ys K0 K _ hp]
        unfold DP.passM
        rw [if_pos hr]
      simp [onePB, e1, hr, es, DP.smallL]
      exact .inr ⟨K, h1.length, _, hbp, rfl, (fr.trans (f1.mono (by simp))).trans (Fr.add _ _ _), by have := fr.le; have := f1.le; omega, by simp⟩
    · have hf := hfq hr
      have hqd : d ≠ q := by have := lt_of_get hd'; omega
      have hfl : (DP.foundL s K).length ≤ 12 := by
        unfold DP.foundL
        rw [List.length_map]
        exact Nat.le_trans (List.length_filter_le _ _) (by omega)
      obtain ⟨h2, y3, e2, f2, hd2⟩ := join_run (x0 := some (.ref w)) (x1 := x1) (x3 := x3) (x5 := some (sumA s)) (x7 := some (.bl false)) hqd (g := !decide (K.length = K0.length)) hd1 hf (by omega)
      rw [DP.adds_fresh (DP.found_nodup (n := n) sr) fun m hm => DP.found_fresh hm] at hd2
      have hK2 := hK.adds so hss
      rw [DP.adds_fresh (DP.found_nodup (n := n) sr) fun m hm => DP.found_fresh hm] at hK2
      have hp2 : DP.passM (ys ++ [s]) K0 = (K ++ DP.foundL s K, false) := by
        rw [passM_app ys K0 K _ hp]
        unfold DP.passM
        rw [if_neg hr]
        rfl
      obtain ⟨gg, hgg⟩ := DP.passM_sub hp
      have hb : ((!decide (K.length = K0.length)) || !(DP.foundL s K).isEmpty) = !decide ((K ++ DP.foundL s K).length = K0.length) := by
        cases hfe : DP.foundL s K with
        | nil => simp
        | cons m ms =>
          have h1 : K0.length ≤ K.length := by rw [hgg]; simp
          have h2 : ((K ++ (m :: ms)).length ≠ K0.length) := by simp; omega
          rw [decide_eq_false h2]
          simp
      rw [hb] at e2
      simp only [onePB, sSeq_ap, sAsg1_ap, eCall_ap, aCons_ap, aNil_ap, eVar_ap, List.getElem?_cons_succ, List.getElem?_cons_zero, setE_ap, List.set_cons_succ, List.set_cons_zero, varR_some, bind_ok, List.length_cons, List.length_nil, e1, ou_ok, if_true, gTupM_ap, gsCons_ap, gNm_ap, seq_nx, gsNil_ap, gOnly_nx, sIf_ap, tBool_ap, boolR_bl, hr, decide_false, Bool.false_eq_true, if_false, sNil_ap, e2, steps_nx]
      exact ⟨_, _, _, _, _, hp2, hK2, (fr.trans (f1.mono (by simp))).trans f2, f2.same _ _ (by simpa using hwd) hw1, hd2, rfl⟩
  · rintro ρ h' ⟨K, x3, x5, x6, x7, hp, hK, fr, hw', hd', rfl⟩
    exact .inl ⟨K, _, _, _, _, h', hp, rfl, fr, hd'⟩
def TurnQ (ss : List DP.Sm) (d : Nat) (w : Nat) (x1 : Option AV) (K0 : List Int) (h : AH) (o : Ou) : Prop :=
  (∃ (K : List Int) (x3 x5 x6 x7 : Option AV) (h' : AH), DP.Pushes ss K0 false K ∧ o = .nx [some (.ref w), x1, some (.ref d), x3, some (.bl false), x5, x6, x7] h' ∧ Fr [d] h h' ∧ h'[d]? = some (.dic (knA K)) ∧ K.length < 64) ∨
  (∃ (K : List Int) (q : Nat) (h' : AH), DP.Pushes ss K0 true K ∧ o = .rt (.tup [.str "bursts", .ref q]) h' ∧ Fr [d] h h' ∧ h.length ≤ q ∧ h'[q]? = some (.lst ((K.mergeSort DP.leI).map .int)))
theorem turns_run {n : Nat} {ss : List DP.Sm} {M : List Int} (hn : n ≤ 12) (hs : SsOk n ss) {w d : Nat} (hwd : w ≠ d) (x1 : Option AV) : ∀ (fuel : Nat) (K : List Int) (x3 x5 x6 x7 : Option AV) (h : AH), 2 * n + 2 ≤ fuel + K.length → DP.KnI n ss M K → h[w]? = some (.lst (ss.map sumA)) → h[d]? = some (.dic (knA K)) →
    TurnQ ss d w x1 K h (whL (tBool (eVar 4)) (sSeq (sSet 4 (eC (.bl false))) (sFor (iSeqM (eVar 0)) (gNm 5) onePB)) fuel [some (.ref w), x1, some (.ref d), x3, some (.bl true), x5, x6, x7] h)
  | 0, K, x3, x5, x6, x7, h, hf, hK, hw, hd => by
    have := DP.okM_len hK.nd hK.ok
    omega
  | fuel + 1, K, x3, x5, x6, x7, h, hf, hK, hw, hd => by
    have hKl := DP.okM_len hK.nd hK.ok
    have hp := pass_run hn hs hK hwd hw hd x1 x3 x5 x6 x7
    rw [whL]
    simp [srOf_ref hw]
    rcases hp with ⟨K', y3, y5, y6, y7, h', ep, eo, fr, hd'⟩ | ⟨K', q, h', ep, eo, fr, hq, hq'⟩
    · rw [eo]
      simp only
      have hK' := DP.passM_kn (fun _ m => m) hs hK ep
      have hKl' := DP.okM_len hK'.nd hK'.ok
      by_cases hlen : K'.length = K.length
      · rw [hlen]
        cases fuel with
        | zero => omega
        | succ f =>
          rw [whL]
          simp
          exact .inl ⟨K', _, _, _, _, h', .rest ep hlen, rfl, fr, hd', by omega⟩
      · rw [decide_eq_false hlen]
        obtain ⟨gg, hgg⟩ := DP.passM_sub ep
        have hlt : K.length < K'.length := by
          have : K.length ≤ K'.length := by rw [hgg]; simp
          omega
        rcases turns_run hn hs hwd x1 fuel K' y3 y5 y6 y7 h' (by omega) hK' (fr.same _ _ (by simpa using hwd) hw) hd' with ⟨K2, z3, z5, z6, z7, h2, ep2, eo2, fr2, hd2, hl2⟩ | ⟨K2, q, h2, ep2, eo2, fr2, hq, hq'⟩
        · exact .inl ⟨K2, _, _, _, _, h2, .more ep hlen ep2, eo2, fr.trans fr2, hd2, hl2⟩
        · exact .inr ⟨K2, q, h2, .more ep hlen ep2, eo2, fr.trans fr2, by have := fr.le; omega, hq'⟩
    · rw [eo]
      exact .inr ⟨K', q, h', .burst ep, rfl, fr, hq, hq'⟩
def wordA (b : Bool) : AV := .str (if b = true then "bursts" else "rests")
/-- marks that may be handed in: a list, the default -/
theorem pushed_run {n : Nat} {ss : List DP.Sm} {M : List Int} (hn : n ≤ 12) (hs : SsOk n ss) (hM : M.Nodup) (hok : ∀ m ∈ M, DP.okM n m) {h : AH} {w : Nat} (hw : h[w]? = some (.lst (ss.map sumA))) {mv : AV} {keep : List (Nat × Cell)} (hmv : ∀ ρ, srOf mv ρ h = .ok ⟨M.map .int, keep⟩ h) (hk : kept h keep) :
    ∃ (b : Bool) (K : List Int) (q : Nat) (h' : AH), m_pushed [.ref w, mv] h = .ok (.tup [wordA b, .ref q]) h' ∧ DP.Pushes ss M b K ∧ Fr [] h h' ∧ h.length ≤ q ∧ h'[q]? = some (.lst ((K.mergeSort DP.leI).map .int)) := by
  have hMl := DP.okM_len hM hok
  have ed := eDComp_kn (it := iSeqM (eVar 1)) (v := 3) (ρ := [some (.ref w), some mv, none, none, none, none, none, none]) (h := h) (h1 := h) (keep := keep) (ks := M) (by simp [hmv]) hk (by simp) (by omega)
  rw [adds_nodup hM] at ed
  have hw1 := get_pre hw [Cell.dic (knA M)]
  have hd1 : (h ++ [Cell.dic (knA M)])[h.length]? = some (.dic (knA M)) := by simp
  have hwd : w ≠ h.length := by have := lt_of_get hw; omega
  have f1 := Fr.add [] h [Cell.dic (knA M)]
  have hlen1 : (h ++ [Cell.dic (knA M)]).length = h.length + 1 := by simp
  generalize h ++ [Cell.dic (knA M)] = h1 at ed hw1 hd1 f1 hlen1
  have hfu : 2 * n + 2 ≤ fu_pushed_1 + M.length := by
    have : fu_pushed_1 = 1000 := rfl
    omega
  rcases turns_run hn hs hwd (some mv) fu_pushed_1 M none none none none h1 hfu ⟨hM, hok, fun _ m => m, fun C _ hc => hc⟩ hw1 hd1 with ⟨K, z3, z5, z6, z7, h2, ep, eo, fr, hd2, hl2⟩ | ⟨K, q, h2, ep, eo, fr, hq, hq'⟩
  · have es := gSort_kn hd2 hl2
    refine ⟨false, K, h2.length, h2 ++ [.lst ((K.mergeSort DP.leI).map .int)], ?_, ep, f1.fresh (Y := [h.length]) (fr.trans (Fr.add _ _ _)) (by simp), by have := fr.le; omega, by simp⟩
    rw [me_pushed, b_pushed]
    unfold onePB at eo
    simp [ed, eo, es, DP.smallL, wordA]
  · refine ⟨true, K, q, h2, ?_, ep, f1.fresh (Y := [h.length]) fr (by simp), by omega, hq'⟩
    rw [me_pushed, b_pushed]
    unfold onePB at eo
    simp [ed, eo, wordA]
theorem spare_run {s : DP.Sm} {K : List Int} {h : AH} {n : Nat} {c : Cell} (e : h[n]? = some c) (hc : KnC c K) (hl : s.1.length ≤ 10000000) : ∃ g, m__law_spare [sumA s, .ref n] h = .ok (.int (DP.roomL s K)) (h ++ g) := by
  refine ⟨[.lst ((s.1.filter fun t => !decide (-t.2 ∈ K)).map fun t => .int t.1)], ?_⟩
  rw [me__law_spare, b__law_spare]
  simp
  rw [eComp_keep (keep := []) (h1 := h) (xs := s.1) (enc := termA) (fun t => !decide (-t.2 ∈ K)) (fun t => .int t.1) ?a ?k ?z ?b]
  case a => simp
  case k => simp [kept]
  case z => exact hl
  case b => intro t ht; exact ⟨_, by simp [termA]; exact rfl, by simp [gIn_kn e hc], by simp⟩
  simp [DP.roomL]
noncomputable abbrev joinLB : SM := sIf (tAndM (tBool (eOp2 gGt (eVar 5) (eVar 4))) (tAndM (tBool (eOp2 (HL.gIn true) (eVar 6) (eVar 1))) (tBool (eOp2 (HL.gIn true) (eOp2 HL.gSub (eC (.int 0)) (eVar 6)) (eVar 1))))) (sSeq (sExpr (eMeth "list" mAppend (eVar 1) (aCons (eVar 6) aNil)))
    (sSet 2 (eC (.bl true)))) sNil
noncomputable abbrev oneLB : SM := sSeq (sSet 4 (eCall 2 m__law_spare (aCons (eVar 3) (aCons (eVar 1) aNil))))
    (sSeq (sIf (tBool (eOp2 gLt (eVar 4) (eC (.int 0)))) (sRet (eLst (aCons (eC (.str "bursts")) (aCons (eOpN gSort (aCons (eVar 1) aNil)) aNil)))) sNil)
    (sFor (iSeqM (eOp2 gIx (eVar 3) (eC (.int 0)))) (gTupM 2 (gsCons (gNm 5) (gsCons (gNm 6) gsNil))) joinLB))
/-- found, of the terms ys, where R is left over -/
def foundT (ys : Tms) (R : Int) (K : List Int) : List Int := (ys.filter fun t => decide (R < t.1) && (!decide (t.2 ∈ K) && !decide (-t.2 ∈ K))).map (·.2)
theorem foundT_all (s : DP.Sm) (K : List Int) : foundT s.1 (DP.roomL s K) K = DP.foundL s K := rfl
theorem joinL_run {s : DP.Sm} {R : Int} (hr : DP.Rise (s.1.map fun t => (t.2.natAbs : Int))) (hz : ∀ t ∈ s.1, t.2 ≠ 0) (x0 x5 x6 : Option AV) {d : Nat} {K : List Int} {g : Bool} {h : AH} (hd : h[d]? = some (.lst (K.map .int))) (hl : K.length + s.1.length ≤ 10000000) :
    ∃ (h' : AH) (y5 y6 : Option AV), sFor (iSeqM (eOp2 gIx (eVar 3) (eC (.int 0)))) (gTupM 2 (gsCons (gNm 5) (gsCons (gNm 6) gsNil))) joinLB [x0, some (.ref d), some (.bl g), some (sumA s), some (.int R), x5, x6] h = .nx [x0, some (.ref d), some (.bl (g || !(foundT s.1 R K).isEmpty)), some (sumA s), some (.int R), y5, y6] h' ∧ Fr [d] h h' ∧ h'[d]? = some (.lst ((K ++ foundT s.1 R K).map .int)) := by
  have key := forL_nx (keep := []) (g := gTupM 2 (gsCons (gNm 5) (gsCons (gNm 6) gsNil))) (body := joinLB) (enc := termA) (xs := s.1) (ρ := [x0, some (.ref d), some (.bl g), some (sumA s), some (.int R), x5, x6]) (h := h)
    (fun ys ρ h' => ∃ y5 y6, Fr [d] h h' ∧ h'[d]? = some (.lst ((K ++ foundT ys R K).map .int)) ∧ ρ = [x0, some (.ref d), some (.bl (g || !(foundT ys R K).isEmpty)), some (sumA s), some (.int R), y5, y6])
    ⟨x5, x6, Fr.refl _ _, by simpa [foundT] using hd, by simp [foundT]⟩ (fun _ _ _ _ => by simp [kept]) ?_
  · obtain ⟨ρ', h', e, y5, y6, fr, hd', rfl⟩ := key
    exact ⟨h', y5, y6, by simp [e], fr, hd'⟩
  · rintro ys t zs ρ h' he ⟨y5, y6, fr, hd', rfl⟩
    have ht : t ∈ s.1 := by rw [he]; simp
    have htz := hz t ht
    have hfl : (foundT ys R K).length ≤ ys.length := by unfold foundT; rw [List.length_map]; exact List.length_filter_le _ _
    have hsz : (K ++ foundT ys R K).length ≤ 10000000 := by
      have h2 := congrArg List.length he
      simp at h2 ⊢
      omega
    have hsm : ∀ x : Int, x.natAbs = t.2.natAbs → (x ∈ K ++ foundT ys R K ↔ x ∈ K) := by
      intro x hx
      rw [List.mem_append]
      refine ⟨fun z => z.resolve_right fun z => ?_, .inl⟩
      unfold foundT at z
      obtain ⟨u, hu, rfl⟩ := List.mem_map.mp z
      have hu := (List.mem_filter.mp hu).1
      unfold DP.Rise at hr
      rw [he, List.map_append, List.pairwise_append] at hr
      have := hr.2.2 _ (List.mem_map.mpr ⟨u, hu, rfl⟩) _ (List.mem_map.mpr ⟨t, List.mem_cons_self .., rfl⟩)
      omega
    have g1 := gIn_kn hd' (.inr rfl) true t.2
    have g2 := gIn_kn hd' (.inr rfl) true (-t.2)
    have m1 := hsm t.2 rfl
    have m2 := hsm (-t.2) (by omega)
    simp only [m1] at g1
    simp only [m2] at g2
    have hF : foundT (ys ++ [t]) R K = foundT ys R K ++ (if (decide (R < t.1) && (!decide (t.2 ∈ K) && !decide (-t.2 ∈ K))) = true then [t.2] else []) := by
      unfold foundT
      rw [List.filter_append, List.map_append]
      congr 1
      by_cases c : (decide (R < t.1) && (!decide (t.2 ∈ K) && !decide (-t.2 ∈ K))) = true <;> simp [c]
    generalize foundT ys R K = F at hd' hsz hF g1 g2
    rw [hF]
    by_cases c : (decide (R < t.1) && (!decide (t.2 ∈ K) && !decide (-t.2 ∈ K))) = true
    · have c' := c
      simp only [Bool.and_eq_true, decide_eq_true_eq, Bool.not_eq_true', decide_eq_false_iff_not] at c'
      rw [if_pos c]
      refine ⟨_, h', [x0, some (.ref d), some (.bl (g || !(F ++ [t.2]).isEmpty)), some (sumA s), some (.int R), some (.int t.1), some (.int t.2)], h'.set d (.lst ((K ++ (F ++ [t.2])).map .int)), by simp [termA]; exact rfl, .inl ?_, _, _, fr.trans (Fr.set h' _ (by simp)), List.getElem?_set_self (lt_of_get hd'), rfl⟩
      simp at hd' hsz
      simp [joinLB, c'.1, c'.2.1, c'.2.2, g1, g2, hd', DP.smallL, hsz]
    · rw [if_neg c, List.append_nil]
      refine ⟨_, h', [x0, some (.ref d), some (.bl (g || !F.isEmpty)), some (sumA s), some (.int R), some (.int t.1), some (.int t.2)], h', by simp [termA]; exact rfl, .inl ?_, _, _, fr, hd', rfl⟩
      by_cases c1 : R < t.1 <;> by_cases c2 : t.2 ∈ K <;> by_cases c3 : -t.2 ∈ K <;> simp [c1, c2, c3] at c <;> simp [joinLB, c1, c2, c3, g1, g2]
def LPassQ (ss : List DP.Sm) (d w : Nat) (K0 : List Int) (h : AH) (o : Ou) : Prop :=
  (∃ (K : List Int) (x3 x4 x5 x6 : Option AV) (h' : AH), DP.passM ss K0 = (K, false) ∧ o = .nx [some (.ref w), some (.ref d), some (.bl (!decide (K.length = K0.length))), x3, x4, x5, x6] h' ∧ Fr [d] h h' ∧ h'[d]? = some (.lst (K.map .int))) ∨
  (∃ (K : List Int) (q r : Nat) (h' : AH), DP.passM ss K0 = (K, true) ∧ o = .rt (.ref r) h' ∧ Fr [d] h h' ∧ h.length ≤ q ∧ h'[q]? = some (.lst ((K.mergeSort DP.leI).map .int)) ∧ h'[r]? = some (.lst [.str "bursts", .ref q]))
theorem lpass_run {n : Nat} {ss : List DP.Sm} {M K0 : List Int} (hn : n ≤ 12) (hs : SsOk n ss) (hK : DP.KnI n ss M K0) {h : AH} {w d : Nat} (hwd : w ≠ d) (hw : h[w]? = some (.lst (ss.map sumA))) (hd : h[d]? = some (.lst (K0.map .int))) (x3 x4 x5 x6 : Option AV) :
    LPassQ ss d w K0 h (forL [(w, .lst (ss.map sumA))] (gNm 3) oneLB (ss.map sumA) [some (.ref w), some (.ref d), some (.bl false), x3, x4, x5, x6] h) := by
  refine forL_inv (enc := sumA) (xs := ss) (Q := LPassQ ss d w K0 h) (fun ys ρ h' => ∃ (K : List Int) (x3 x4 x5 x6 : Option AV), DP.passM ys K0 = (K, false) ∧ DP.KnI n ss M K ∧ Fr [d] h h' ∧ h'[w]? = some (.lst (ss.map sumA)) ∧ h'[d]? = some (.lst (K.map .int)) ∧ ρ = [some (.ref w), some (.ref d), some (.bl (!decide (K.length = K0.length))), x3, x4, x5, x6]) ⟨K0, x3, x4, x5, x6, rfl, hK, Fr.refl _ _, hw, hd, by simp⟩ (fun ys ρ h' i => ?_) ?_ ?_
  · obtain ⟨K, x3, x5, x6, x7, _, _, _, hw', _⟩ := i
    intro z hz
    simp only [List.mem_singleton] at hz
    subst hz
    exact hw'
  · rintro ys s zs ρ h' he ⟨K, x3, x4, x5, x6, hp, hK, fr, hw', hd', rfl⟩
    have hss : s ∈ ss := by rw [he]; simp
    obtain ⟨so, sr⟩ := hs s hss
    have hsl := so.len
    have hKl := DP.okM_len hK.nd hK.ok
    obtain ⟨g1, e1⟩ := spare_run (s := s) hd' (.inr rfl) (by omega)
    have f1 := Fr.add [] h' g1
    have hd1 := get_pre hd' g1
    have hw1 := get_pre hw' g1
    generalize h' ++ g1 = h1 at e1 f1 hd1 hw1
    refine ⟨_, h', by simp; exact rfl, ?_⟩
    by_cases hr : DP.roomL s K < 0
    · have es := gSort_ints hd1
      have hbp : DP.passM ss K0 = (K, true) := by
        rw [he, passM_app ys K0 K _ hp]
        unfold DP.passM
        rw [if_pos hr]
      simp [oneLB, e1, hr, es, DP.smallL]
      exact .inr ⟨K, h1.length, h1.length + 1, _, hbp, rfl, (fr.trans (f1.mono (by simp))).trans (Fr.add _ _ _), by have := fr.le; have := f1.le; omega, by simp, by simp⟩
    · obtain ⟨h2, y5, y6, e2, f2, hd2⟩ := joinL_run (R := DP.roomL s K) sr (fun t ht => by have := so.ok t ht; unfold DP.okM at this; omega) (some (.ref w)) x5 x6 (g := !decide (K.length = K0.length)) hd1 (by omega)
      rw [foundT_all] at e2 hd2
      have hK2 := hK.adds so hss
      rw [DP.adds_fresh (DP.found_nodup (n := n) sr) fun m hm => DP.found_fresh hm] at hK2
      have hp2 : DP.passM (ys ++ [s]) K0 = (K ++ DP.foundL s K, false) := by
        rw [passM_app ys K0 K _ hp]
        unfold DP.passM
        rw [if_neg hr]
        rfl
      obtain ⟨gg, hgg⟩ := DP.passM_sub hp
      have hb : ((!decide (K.length = K0.length)) || !(DP.foundL s K).isEmpty) = !decide ((K ++ DP.foundL s K).length = K0.length) := by
        cases hfe : DP.foundL s K with
        | nil => simp
        | cons m ms =>
          have h1 : K0.length ≤ K.length := by rw [hgg]; simp
          have h2 : ((K ++ (m :: ms)).length ≠ K0.length) := by simp; omega
          rw [decide_eq_false h2]
          simp
      rw [hb] at e2
      simp only [oneLB, sSeq_ap, sSet_ap, eCall_ap, aCons_ap, aNil_ap, eVar_ap, List.getElem?_cons_succ, List.getElem?_cons_zero, setE_ap, List.set_cons_succ, List.set_cons_zero, varR_some, bind_ok, List.length_cons, List.length_nil, e1, ou_ok, if_true, seq_nx, sIf_ap, tBool_ap, eOp2_ap, eC_ap, gLt_int, opR_val, boolR_bl, hr, decide_false, Bool.false_eq_true, if_false, sNil_ap, e2, steps_nx]
      exact ⟨_, _, _, _, _, hp2, hK2, (fr.trans (f1.mono (by simp))).trans f2, f2.same _ _ (by simpa using hwd) hw1, hd2, rfl⟩
  · rintro ρ h' ⟨K, x3, x4, x5, x6, hp, hK, fr, hw', hd', rfl⟩
    exact .inl ⟨K, _, _, _, _, h', hp, rfl, fr, hd'⟩
def LTurnQ (ss : List DP.Sm) (d w : Nat) (K0 : List Int) (h : AH) (o : Ou) : Prop :=
  (∃ (K : List Int) (x3 x4 x5 x6 : Option AV) (h' : AH), DP.Pushes ss K0 false K ∧ o = .nx [some (.ref w), some (.ref d), some (.bl false), x3, x4, x5, x6] h' ∧ Fr [d] h h' ∧ h'[d]? = some (.lst (K.map .int))) ∨
  (∃ (K : List Int) (q r : Nat) (h' : AH), DP.Pushes ss K0 true K ∧ o = .rt (.ref r) h' ∧ Fr [d] h h' ∧ h.length ≤ q ∧ h'[q]? = some (.lst ((K.mergeSort DP.leI).map .int)) ∧ h'[r]? = some (.lst [.str "bursts", .ref q]))
theorem lturns_run {n : Nat} {ss : List DP.Sm} {M : List Int} (hn : n ≤ 12) (hs : SsOk n ss) {w d : Nat} (hwd : w ≠ d) : ∀ (fuel : Nat) (K : List Int) (x3 x4 x5 x6 : Option AV) (h : AH), 2 * n + 2 ≤ fuel + K.length → DP.KnI n ss M K → h[w]? = some (.lst (ss.map sumA)) → h[d]? = some (.lst (K.map .int)) →
    LTurnQ ss d w K h (whL (tBool (eVar 2)) (sSeq (sSet 2 (eC (.bl false))) (sFor (iSeqM (eVar 0)) (gNm 3) oneLB)) fuel [some (.ref w), some (.ref d), some (.bl true), x3, x4, x5, x6] h)
  | 0, K, x3, x5, x6, x7, h, hf, hK, hw, hd => by
    have := DP.okM_len hK.nd hK.ok
    omega
  | fuel + 1, K, x3, x5, x6, x7, h, hf, hK, hw, hd => by
    have hKl := DP.okM_len hK.nd hK.ok
    have hp := lpass_run hn hs hK hwd hw hd x3 x5 x6 x7
    rw [whL]
    simp [srOf_ref hw]
    rcases hp with ⟨K', y3, y5, y6, y7, h', ep, eo, fr, hd'⟩ | ⟨K', q, r, h', ep, eo, fr, hq, hq'⟩
    · rw [eo]
      simp only
      have hK' := DP.passM_kn (fun _ m => m) hs hK ep
      have hKl' := DP.okM_len hK'.nd hK'.ok
      by_cases hlen : K'.length = K.length
      · rw [hlen]
        cases fuel with
        | zero => omega
        | succ f =>
          rw [whL]
          simp
          exact .inl ⟨K', _, _, _, _, h', .rest ep hlen, rfl, fr, hd'⟩
      · rw [decide_eq_false hlen]
        obtain ⟨gg, hgg⟩ := DP.passM_sub ep
        have hlt : K.length < K'.length := by
          have : K.length ≤ K'.length := by rw [hgg]; simp
          omega
        rcases lturns_run hn hs hwd fuel K' y3 y5 y6 y7 h' (by omega) hK' (fr.same _ _ (by simpa using hwd) hw) hd' with ⟨K2, z3, z5, z6, z7, h2, ep2, eo2, fr2, hd2⟩ | ⟨K2, q, r, h2, ep2, eo2, fr2, hq, hq'⟩
        · exact .inl ⟨K2, _, _, _, _, h2, .more ep hlen ep2, eo2, fr.trans fr2, hd2⟩
        · exact .inr ⟨K2, q, r, h2, .more ep hlen ep2, eo2, fr.trans fr2, by have := fr.le; omega, hq'⟩
    · rw [eo]
      exact .inr ⟨K', q, r, h', .burst ep, rfl, fr, hq, hq'⟩
theorem lpushed_run {n : Nat} {ss : List DP.Sm} {M : List Int} (hn : n ≤ 12) (hs : SsOk n ss) (hM : M.Nodup) (hok : ∀ m ∈ M, DP.okM n m) {h : AH} {w v : Nat} (hw : h[w]? = some (.lst (ss.map sumA))) (hv : h[v]? = some (.lst (M.map .int))) :
    ∃ (b : Bool) (K : List Int) (q r : Nat) (h' : AH), m__law_pushed [.ref w, .ref v] h = .ok (.ref r) h' ∧ DP.Pushes ss M b K ∧ Fr [] h h' ∧ h.length ≤ q ∧ h'[q]? = some (.lst ((K.mergeSort DP.leI).map .int)) ∧ h'[r]? = some (.lst [wordA b, .ref q]) := by
  have hw1 := get_pre hw [Cell.lst (M.map .int)]
  have hd1 : (h ++ [Cell.lst (M.map .int)])[h.length]? = some (.lst (M.map .int)) := by simp
  have hwd : w ≠ h.length := by have := lt_of_get hw; omega
  have f1 := Fr.add [] h [Cell.lst (M.map .int)]
  have hlen1 : (h ++ [Cell.lst (M.map .int)]).length = h.length + 1 := by simp
  generalize hh1 : h ++ [Cell.lst (M.map .int)] = h1 at hw1 hd1 f1 hlen1
  have hfu : 2 * n + 2 ≤ fu__law_pushed_1 + M.length := by
    have : fu__law_pushed_1 = 1000 := rfl
    omega
  rcases lturns_run hn hs hwd fu__law_pushed_1 M none none none none h1 hfu ⟨hM, hok, fun _ m => m, fun C _ hc => hc⟩ hw1 hd1 with ⟨K, z3, z5, z6, z7, h2, ep, eo, fr, hd2⟩ | ⟨K, q, r, h2, ep, eo, fr, hq, hq', hr'⟩
  · have es := gSort_ints hd2
    refine ⟨false, K, h2.length, h2.length + 1, h2 ++ [.lst ((K.mergeSort DP.leI).map .int), .lst [wordA false, .ref h2.length]], ?_, ep, f1.fresh (Y := [h.length]) (fr.trans (Fr.add _ _ _)) (by simp), by have := fr.le; omega, by simp, by simp⟩
    rw [me__law_pushed, b__law_pushed]
    unfold oneLB joinLB at eo
    simp [hv, hh1, eo, es, DP.smallL, wordA]
  · refine ⟨true, K, q, r, h2, ?_, ep, f1.fresh (Y := [h.length]) fr (by simp), by omega, hq', hr'⟩
    rw [me__law_pushed, b__law_pushed]
    unfold oneLB joinLB at eo
    simp [hv, hh1, eo, wordA]
/-- what is left, what is set -/
structure ComeI (M T L0 S0 : List Int) (tt : Nat) (L S : List Int) (g : Bool) : Prop where
  nd : L.Nodup
  all : ∀ k ∈ T, k ∈ L ∨ k ∈ S
  sub : ∀ k ∈ L, k ∈ T
  dis : ∀ k ∈ L, k ∉ S
  ms : ∀ m ∈ M, m ∈ S
  len : L.length + S.length = tt
  le : L.length ≤ L0.length
  yes : g = true → L.length < L0.length
  no : g = false → L = L0 ∧ S = S0
theorem ComeI.move {M T L0 S0 L S : List Int} {tt : Nat} {g : Bool} {m : Int} (h : ComeI M T L0 S0 tt L S g) (hm : m ∈ L) : ComeI M T L0 S0 tt (L.eraseIdx (L.idxOf m)) (S ++ [m]) true := by
  have e : L.eraseIdx (L.idxOf m) = L.erase m := (List.erase_eq_eraseIdx_of_idxOf rfl).symm
  rw [e]
  have hl : (L.erase m).length = L.length - 1 := List.length_erase_of_mem hm
  have hp : 0 < L.length := List.length_pos_of_mem hm
  have hle := h.le
  refine ⟨h.nd.erase m, fun k hk => ?_, fun k hk => h.sub k (List.mem_of_mem_erase hk), fun k hk z => ?_, fun k hk => List.mem_append_left _ (h.ms k hk), ?_, by omega, fun _ => by omega, fun z => Bool.noConfusion z⟩
  · rcases h.all k hk with z | z
    · by_cases e2 : k = m
      · subst e2; exact .inr (by simp)
      · exact .inl ((List.mem_erase_of_ne e2).mpr z)
    · exact .inr (List.mem_append_left _ z)
  · rcases List.mem_append.mp z with z | z
    · exact h.dis k (List.mem_of_mem_erase hk) z
    · simp only [List.mem_singleton] at z
      subst z
      exact (List.Nodup.not_mem_erase h.nd) hk
  · have := h.len
    simp only [List.length_append, List.length_singleton]
    omega
noncomputable abbrev comeB : SM := sIf (tAndM (tBool (eOp2 gGt (eVar 9) (eVar 8))) (tBool (eOp2 (HL.gIn false) (eVar 4) (eVar 3)))) (sSeq (sExpr (eMeth "list" mRemove (eVar 3) (aCons (eVar 4) aNil)))
    (sSeq (sExpr (eMeth "list" mAppend (eVar 5) (aCons (eVar 4) aNil)))
    (sSet 6 (eC (.bl true))))) sNil
theorem mRemove_ints {h : AH} {n : Nat} {L : List Int} {m : Int} (e : h[n]? = some (.lst (L.map .int))) (hm : m ∈ L) : mRemove h (.ref n) [.int m] = some (.non, h.set n (.lst ((L.eraseIdx (L.idxOf m)).map .int))) := by
  unfold mRemove
  simp only [lstAt_cel, e, celL_lst, Option.bind_some, intsA_map, hm, if_true]
theorem comeT_run {M T L0 S0 L S : List Int} {tt : Nat} {g : Bool} (htt : tt ≤ 10000000) {s : DP.Sm} {R : Int} {w v u a b : Nat} (hab : a ≠ b) (hI : ComeI M T L0 S0 tt L S g) (x4 x9 : Option AV) {h : AH} (ha : h[a]? = some (.lst (L.map .int))) (hb : h[b]? = some (.lst (S.map .int))) :
    ∃ (h' : AH) (L' S' : List Int) (g' : Bool) (y4 y9 : Option AV), forL [] (gTupM 2 (gsCons (gNm 9) (gsCons (gNm 4) gsNil))) comeB (s.1.map termA) [some (.ref w), some (.ref v), some (.ref u), some (.ref a), x4, some (.ref b), some (.bl g), some (sumA s), some (.int R), x9] h = .nx [some (.ref w), some (.ref v), some (.ref u), some (.ref a), y4, some (.ref b), some (.bl g'), some (sumA s), some (.int R), y9] h' ∧ Fr [a, b] h h' ∧ h'[a]? = some (.lst (L'.map .int)) ∧ h'[b]? = some (.lst (S'.map .int)) ∧ ComeI M T L0 S0 tt L' S' g' ∧ (g' = false → g = false ∧ ∀ t ∈ s.1, R < t.1 → t.2 ∉ L0) := by
  have key := forL_nx (keep := []) (g := gTupM 2 (gsCons (gNm 9) (gsCons (gNm 4) gsNil))) (body := comeB) (enc := termA) (xs := s.1) (ρ := [some (.ref w), some (.ref v), some (.ref u), some (.ref a), x4, some (.ref b), some (.bl g), some (sumA s), some (.int R), x9]) (h := h)
    (fun ys ρ h' => ∃ (L' S' : List Int) (g' : Bool) (y4 y9 : Option AV), Fr [a, b] h h' ∧ h'[a]? = some (.lst (L'.map .int)) ∧ h'[b]? = some (.lst (S'.map .int)) ∧ ComeI M T L0 S0 tt L' S' g' ∧ (g' = false → g = false ∧ ∀ t ∈ ys, R < t.1 → t.2 ∉ L0) ∧ ρ = [some (.ref w), some (.ref v), some (.ref u), some (.ref a), y4, some (.ref b), some (.bl g'), some (sumA s), some (.int R), y9])
    ⟨L, S, g, x4, x9, Fr.refl _ _, ha, hb, hI, fun z => ⟨z, by simp⟩, rfl⟩ (fun _ _ _ _ => by simp [kept]) ?_
  · obtain ⟨ρ', h', e, L', S', g', y4, y9, fr, ha', hb', hI', hn, rfl⟩ := key
    exact ⟨h', L', S', g', y4, y9, e, fr, ha', hb', hI', hn⟩
  · rintro ys t zs ρ h' he ⟨L', S', g', y4, y9, fr, ha', hb', hI', hn, rfl⟩
    have g1 := gIn_kn ha' (.inr rfl) false t.2
    by_cases c1 : R < t.1
    · by_cases c2 : t.2 ∈ L'
      · have hSl : S'.length ≤ 10000000 := by have := hI'.len; omega
        refine ⟨_, h', [some (.ref w), some (.ref v), some (.ref u), some (.ref a), some (.int t.2), some (.ref b), some (.bl true), some (sumA s), some (.int R), some (.int t.1)], (h'.set a (.lst ((L'.eraseIdx (L'.idxOf t.2)).map .int))).set b (.lst ((S' ++ [t.2]).map .int)), by simp [termA]; exact rfl, .inl ?_, _, _, true, _, _, (fr.trans (Fr.set h' _ (by simp))).trans (Fr.set _ _ (by simp)), ?_, List.getElem?_set_self (by simp; exact lt_of_get hb'), hI'.move c2, fun z => Bool.noConfusion z, rfl⟩
        · have hb2 : (h'.set a (.lst ((L'.eraseIdx (L'.idxOf t.2)).map .int)))[b]? = some (.lst (S'.map .int)) := by rw [List.getElem?_set_ne hab]; exact hb'
          simp [comeB, c1, g1, c2, ha', mRemove_ints ha' c2, hb2, DP.smallL, hSl]
        · rw [List.getElem?_set_ne (Ne.symm hab)]
          exact List.getElem?_set_self (lt_of_get ha')
      · refine ⟨_, h', [some (.ref w), some (.ref v), some (.ref u), some (.ref a), some (.int t.2), some (.ref b), some (.bl g'), some (sumA s), some (.int R), some (.int t.1)], h', by simp [termA]; exact rfl, .inl ?_, L', S', g', _, _, fr, ha', hb', hI', fun z => ⟨(hn z).1, fun x hx hr => ?_⟩, rfl⟩
        · simp [comeB, c1, g1, c2]
        · rcases List.mem_append.mp hx with hx | hx
          · exact (hn z).2 x hx hr
          · simp only [List.mem_singleton] at hx
            subst hx
            rw [← (hI'.no z).1]
            exact c2
    · refine ⟨_, h', [some (.ref w), some (.ref v), some (.ref u), some (.ref a), some (.int t.2), some (.ref b), some (.bl g'), some (sumA s), some (.int R), some (.int t.1)], h', by simp [termA]; exact rfl, .inl ?_, L', S', g', _, _, fr, ha', hb', hI', fun z => ⟨(hn z).1, fun x hx hr => ?_⟩, rfl⟩
      · simp [comeB, c1]
      · rcases List.mem_append.mp hx with hx | hx
        · exact (hn z).2 x hx hr
        · simp only [List.mem_singleton] at hx
          subst hx
          exact absurd hr c1
noncomputable abbrev comeOne : SM := sSeq (sSet 8 (eCall 2 m__law_spare (aCons (eVar 7) (aCons (eVar 5) aNil))))
    (sFor (iSeqM (eOp2 gIx (eVar 7) (eC (.int 0)))) (gTupM 2 (gsCons (gNm 9) (gsCons (gNm 4) gsNil))) comeB)
theorem comeP_run {n : Nat} {ss : List DP.Sm} (hs : SsOk n ss) (hn : n ≤ 12) {M T L S : List Int} {tt : Nat} (htt : tt ≤ 10000000) {w v u a b : Nat} (hab : a ≠ b) (hwa : w ≠ a) (hwb : w ≠ b) (hI : ComeI M T L S tt L S false) (x4 x7 x8 x9 : Option AV) {h : AH} (hw : h[w]? = some (.lst (ss.map sumA))) (ha : h[a]? = some (.lst (L.map .int))) (hb : h[b]? = some (.lst (S.map .int))) :
    ∃ (h' : AH) (L' S' : List Int) (g' : Bool) (y4 y7 y8 y9 : Option AV), forL [(w, .lst (ss.map sumA))] (gNm 7) comeOne (ss.map sumA) [some (.ref w), some (.ref v), some (.ref u), some (.ref a), x4, some (.ref b), some (.bl false), x7, x8, x9] h = .nx [some (.ref w), some (.ref v), some (.ref u), some (.ref a), y4, some (.ref b), some (.bl g'), y7, y8, y9] h' ∧ Fr [a, b] h h' ∧ h'[a]? = some (.lst (L'.map .int)) ∧ h'[b]? = some (.lst (S'.map .int)) ∧ ComeI M T L S tt L' S' g' ∧ (g' = false → ∀ s ∈ ss, ∀ t ∈ s.1, DP.roomL s S < t.1 → t.2 ∉ L) := by
  have key := forL_nx (keep := [(w, .lst (ss.map sumA))]) (g := gNm 7) (body := comeOne) (enc := sumA) (xs := ss) (ρ := [some (.ref w), some (.ref v), some (.ref u), some (.ref a), x4, some (.ref b), some (.bl false), x7, x8, x9]) (h := h)
    (fun ys ρ h' => ∃ (L' S' : List Int) (g' : Bool) (y4 y7 y8 y9 : Option AV), Fr [a, b] h h' ∧ h'[a]? = some (.lst (L'.map .int)) ∧ h'[b]? = some (.lst (S'.map .int)) ∧ ComeI M T L S tt L' S' g' ∧ (g' = false → ∀ s ∈ ys, ∀ t ∈ s.1, DP.roomL s S < t.1 → t.2 ∉ L) ∧ h'[w]? = some (.lst (ss.map sumA)) ∧ ρ = [some (.ref w), some (.ref v), some (.ref u), some (.ref a), y4, some (.ref b), some (.bl g'), y7, y8, y9])
    ⟨L, S, false, x4, x7, x8, x9, Fr.refl _ _, ha, hb, hI, by simp, hw, rfl⟩ (fun ys ρ h' i => ?_) ?_
  · obtain ⟨ρ', h', e, L', S', g', y4, y7, y8, y9, fr, ha', hb', hI', hn, _, rfl⟩ := key
    exact ⟨h', L', S', g', y4, y7, y8, y9, e, fr, ha', hb', hI', hn⟩
  · obtain ⟨L', S', g', y4, y7, y8, y9, _, _, _, _, _, hw', _⟩ := i
    intro z hz
    simp only [List.mem_singleton] at hz
    subst hz
    exact hw'
  · rintro ys s zs ρ h' he ⟨L', S', g', y4, y7, y8, y9, fr, ha', hb', hI', hno, hw', rfl⟩
    have hss : s ∈ ss := by rw [he]; simp
    obtain ⟨so, sr⟩ := hs s hss
    have hsl := so.len
    obtain ⟨g1, e1⟩ := spare_run (s := s) hb' (.inr rfl) (by omega)
    have f1 := Fr.add [a, b] h' g1
    have ha1 := get_pre ha' g1
    have hb1 := get_pre hb' g1
    have hw1 := get_pre hw' g1
    generalize h' ++ g1 = h1 at e1 f1 ha1 hb1 hw1
    obtain ⟨h2, L2, S2, g2, z4, z9, e2, f2, ha2, hb2, hI2, hn2⟩ := comeT_run (s := s) (R := DP.roomL s S') (w := w) (v := v) (u := u) htt hab hI' y4 y9 ha1 hb1
    refine ⟨_, h', [some (.ref w), some (.ref v), some (.ref u), some (.ref a), z4, some (.ref b), some (.bl g2), some (sumA s), some (.int (DP.roomL s S')), z9], h2, by simp; exact rfl, .inl ?_, L2, S2, g2, _, _, _, _, (fr.trans f1).trans f2, ha2, hb2, hI2, fun z x hx t ht hr => ?_, f2.same _ _ (by simp [hwa, hwb]) hw1, rfl⟩
    · simp [comeOne, e1, e2]
    · obtain ⟨z1, z2⟩ := hn2 z
      rcases List.mem_append.mp hx with hx | hx
      · exact hno z1 x hx t ht hr
      · simp only [List.mem_singleton] at hx
        subst hx
        refine z2 t ht ?_
        rw [(hI'.no z1).2]
        exact hr
theorem comeW_run {n : Nat} {ss : List DP.Sm} (hs : SsOk n ss) (hn : n ≤ 12) {M T : List Int} {tt : Nat} (htt : tt ≤ 10000000) {w v u a b : Nat} (hab : a ≠ b) (hwa : w ≠ a) (hwb : w ≠ b) : ∀ (fuel : Nat) (L S : List Int) (x4 x7 x8 x9 : Option AV) (h : AH), L.length + 2 ≤ fuel → ComeI M T L S tt L S false → h[w]? = some (.lst (ss.map sumA)) → h[a]? = some (.lst (L.map .int)) → h[b]? = some (.lst (S.map .int)) →
    ∃ (h' : AH) (L' S' : List Int) (y4 y7 y8 y9 : Option AV), whL (tBool (eVar 6)) (sSeq (sSet 6 (eC (.bl false))) (sFor (iSeqM (eVar 0)) (gNm 7) comeOne)) fuel [some (.ref w), some (.ref v), some (.ref u), some (.ref a), x4, some (.ref b), some (.bl true), x7, x8, x9] h = .nx [some (.ref w), some (.ref v), some (.ref u), some (.ref a), y4, some (.ref b), some (.bl false), y7, y8, y9] h' ∧ Fr [a, b] h h' ∧ h'[a]? = some (.lst (L'.map .int)) ∧ ComeI M T L' S' tt L' S' false ∧ ∀ s ∈ ss, ∀ t ∈ s.1, DP.roomL s S' < t.1 → t.2 ∉ L'
  | 0, L, S, x4, x7, x8, x9, h, hf, _, _, _, _ => by omega
  | fuel + 1, L, S, x4, x7, x8, x9, h, hf, hI, hw, ha, hb => by
    obtain ⟨h1, L1, S1, g1, y4, y7, y8, y9, e1, f1, ha1, hb1, hI1, hn1⟩ := comeP_run (v := v) (u := u) hs hn htt hab hwa hwb hI x4 x7 x8 x9 hw ha hb
    have st : whL (tBool (eVar 6)) (sSeq (sSet 6 (eC (.bl false))) (sFor (iSeqM (eVar 0)) (gNm 7) comeOne)) (fuel + 1) [some (.ref w), some (.ref v), some (.ref u), some (.ref a), x4, some (.ref b), some (.bl true), x7, x8, x9] h = whL (tBool (eVar 6)) (sSeq (sSet 6 (eC (.bl false))) (sFor (iSeqM (eVar 0)) (gNm 7) comeOne)) fuel [some (.ref w), some (.ref v), some (.ref u), some (.ref a), y4, some (.ref b), some (.bl g1), y7, y8, y9] h1 := by
      rw [whL]
      simp [srOf_ref hw]
      rw [e1]
    rw [st]
    cases g1 with
    | false =>
      cases fuel with
      | zero => omega
      | succ f =>
        obtain ⟨z1, z2⟩ := hI1.no rfl
        subst z1 z2
        refine ⟨h1, L1, S1, y4, y7, y8, y9, ?_, f1, ha1, hI1, hn1 rfl⟩
        rw [whL]
        simp
    | true =>
      have hlt := hI1.yes rfl
      obtain ⟨h2, L2, S2, z4, z7, z8, z9, e2, f2, ha2, hI2, hn2⟩ := comeW_run hs hn htt hab hwa hwb fuel L1 S1 y4 y7 y8 y9 h1 (by omega) ⟨hI1.nd, hI1.all, hI1.sub, hI1.dis, hI1.ms, hI1.len, Nat.le_refl _, fun z => Bool.noConfusion z, fun _ => ⟨rfl, rfl⟩⟩ (f1.same _ _ (by simp [hwa, hwb]) hw) ha1 hb1
      exact ⟨h2, L2, S2, z4, z7, z8, z9, e2, f1.trans f2, ha2, hI2, hn2⟩
theorem may_come_run {n : Nat} {ss : List DP.Sm} (hs : SsOk n ss) (hn : n ≤ 12) {M K : List Int} {b : Bool} (hP : DP.Pushes ss M b K) (hM : M.Nodup) (hok : ∀ m ∈ M, DP.okM n m) {h : AH} {w v u : Nat} (hw : h[w]? = some (.lst (ss.map sumA))) (hv : h[v]? = some (.lst (M.map .int))) (hu : h[u]? = some (.lst ((K.mergeSort DP.leI).map .int))) :
    ∃ h', m__law_may_come [.ref w, .ref v, .ref u] h = .ok (.bl true) h' ∧ Fr [] h h' := by
  have kn := hP.kn hs ⟨hM, hok, fun _ m => m, fun C _ hc => hc⟩
  have hKl := DP.okM_len kn.nd kn.ok
  have hMl := DP.okM_len hM hok
  have hperm := kn_sort_perm K
  have hTl : (K.mergeSort DP.leI).length = K.length := List.length_mergeSort K
  have hTn : (K.mergeSort DP.leI).Nodup := hperm.nodup_iff.mpr kn.nd
  have hTm : ∀ k, k ∈ K.mergeSort DP.leI ↔ k ∈ K := fun k => hperm.mem_iff
  generalize K.mergeSort DP.leI = T at *
  have e1 := eComp_keep (it := iSeqM (eVar 2)) (g := gNm 4) (vs := [4]) (cond := tBool (eOp2 (HL.gIn true) (eVar 4) (eVar 1))) (elt := eVar 4) (ρ := [some (.ref w), some (.ref v), some (.ref u), none, none, none, none, none, none, none]) (h := h) (h1 := h) (keep := [(u, .lst (T.map .int))]) (xs := T) (enc := AV.int) (fun m => !decide (m ∈ M)) (fun m => .int m)
    (by simp [srOf_ref hu]) (by intro z hz; simp only [List.mem_singleton] at hz; subst hz; exact hu) (by omega) (fun m _ => ⟨_, by simp; exact rfl, by simp [gIn_kn hv (.inr rfl)], by simp⟩)
  generalize hL : T.filter (fun m => !decide (m ∈ M)) = L at e1
  have hLl : L.length ≤ T.length := by rw [← hL]; exact List.length_filter_le _ _
  have hI : ComeI M T L M (L.length + M.length) L M false := by
    refine ⟨by rw [← hL]; exact hTn.filter _, fun k hk => ?_, fun k hk => by rw [← hL] at hk; exact (List.mem_filter.mp hk).1, fun k hk => by rw [← hL] at hk; simpa using (List.mem_filter.mp hk).2, fun _ m => m, rfl, Nat.le_refl _, fun z => Bool.noConfusion z, fun _ => ⟨rfl, rfl⟩⟩
    by_cases z : k ∈ M
    · exact .inr z
    · exact .inl (by rw [← hL]; exact List.mem_filter.mpr ⟨hk, by simpa using z⟩)
  have a1 : (h ++ [Cell.lst (L.map .int), Cell.lst (M.map .int)])[h.length]? = some (.lst (L.map .int)) := by simp
  have a2 : (h ++ [Cell.lst (L.map .int), Cell.lst (M.map .int)])[h.length + 1]? = some (.lst (M.map .int)) := by simp
  have hw2 := get_pre hw [Cell.lst (L.map .int), Cell.lst (M.map .int)]
  have hv2 := get_pre hv [Cell.lst (L.map .int), Cell.lst (M.map .int)]
  have hu2 := get_pre hu [Cell.lst (L.map .int), Cell.lst (M.map .int)]
  have hv1 := get_pre hv [Cell.lst (L.map .int)]
  have f1 := Fr.add [] h [Cell.lst (L.map .int), Cell.lst (M.map .int)]
  have hwl := lt_of_get hw
  have hvl := lt_of_get hv
  have hul := lt_of_get hu
  generalize hh2 : h ++ [Cell.lst (L.map .int), Cell.lst (M.map .int)] = h2 at a1 a2 hw2 hv2 hu2 f1
  obtain ⟨h3, L3, S3, y4, y7, y8, y9, e3, f3, ha3, hI3, hn3⟩ := comeW_run (v := v) (u := u) hs hn (show L.length + M.length ≤ 10000000 by omega) (show h.length ≠ h.length + 1 by omega) (show w ≠ h.length by omega) (show w ≠ h.length + 1 by omega) fu__law_may_come_1 L M none none none none h2 (by have : fu__law_may_come_1 = 1000 := rfl; omega) hI hw2 a1 a2
  have hin : ∀ k ∈ K, k ∈ S3 := by
    have := hP.come (n := n) (D := fun k => decide (k ∈ S3)) (fun s m => (hs s m).1) (fun s hss t ht hr hk => by
      rw [DP.roomP_mem] at hr
      have := hn3 s hss t ht hr
      simpa using (hI3.all t.2 ((hTm _).mpr hk)).resolve_left this) (fun k hk => by simpa using hI3.ms k hk)
    exact fun k hk => by simpa using this k hk
  have hL3 : L3 = [] := by
    cases e : L3 with
    | nil => rfl
    | cons k l =>
      have hk : k ∈ L3 := by rw [e]; exact List.mem_cons_self ..
      exact absurd (hin k ((hTm k).mp (hI3.sub k hk))) (hI3.dis k hk)
  subst hL3
  have hv3 := f3.same _ _ (by simp; omega) hv2
  have hu3 := f3.same _ _ (by simp; omega) hu2
  have q1 := gEq_lnil (h := h3 ++ [Cell.lst []]) (neg := false) (f := AV.int) (g := PyData.int) (n := 0) (xs := []) (p := h.length) (q := h3.length) (get_pre ha3 _) (by simp) (fun x _ => .int x) (fun x _ => DP.shInt 0 x)
  have hv4 := get_pre hv3 [Cell.lst []]
  have hu4 := get_pre hu3 [Cell.lst []]
  have hlen4 : (h3 ++ [Cell.lst []]).length = h3.length + 1 := by simp
  generalize hh4 : h3 ++ [Cell.lst []] = h4 at q1 hv4 hu4 hlen4
  have e5 := eComp_keep (it := iSeqM (eVar 1)) (g := gNm 4) (vs := [4]) (cond := tBool (eOp2 (HL.gIn true) (eVar 4) (eVar 2))) (elt := eVar 4) (ρ := [some (.ref w), some (.ref v), some (.ref u), some (.ref h.length), y4, some (.ref (h.length + 1)), some (.bl false), y7, y8, y9]) (h := h4) (h1 := h4) (keep := [(v, .lst (M.map .int))]) (xs := M) (enc := AV.int) (fun m => !decide (m ∈ T)) (fun m => .int m)
    (by simp [srOf_ref hv4]) (by intro z hz; simp only [List.mem_singleton] at hz; subst hz; exact hv4) (by omega) (fun m _ => ⟨_, by simp; exact rfl, by simp [gIn_kn hu4 (.inr rfl)], by simp⟩)
  have hfn : M.filter (fun m => !decide (m ∈ T)) = [] := by
    rw [List.filter_eq_nil_iff]
    intro m hm
    simp [(hTm m).mpr (hP.sub m hm)]
  rw [hfn] at e5
  have q2 := gEq_lnil (h := h4 ++ [Cell.lst [], Cell.lst []]) (neg := false) (f := AV.int) (g := PyData.int) (n := 0) (xs := []) (p := h4.length) (q := h4.length + 1) (by simp) (by simp) (fun x _ => .int x) (fun x _ => DP.shInt 0 x)
  refine ⟨h4 ++ [Cell.lst [], Cell.lst []], ?_, f1.fresh (Y := [h.length, h.length + 1]) (f3.trans ((Fr.add _ h3 _).trans (by rw [hh4]; exact Fr.add _ h4 _))) (by simp)⟩
  rw [me__law_may_come, b__law_may_come]
  unfold comeOne comeB at e3
  simp at e5 hh2
  simp [e1, hv1, hh2, e3, hh4, DP.smallL, q1, e5, q2]
theorem known_run {h : AH} {p : Nat} {c : Cell} (hp : h[p]? = some c) (hc : PoolC c) (n : Nat) (h1 : n ≤ 1000) : ∃ (ms : List Int) (q : Nat) (c' : Cell) (h' : AH), m__law_known [.ref p, .int n] h = .ok (.ref q) h' ∧ h'[p]? = some c' ∧ PoolC c' ∧ Fr [p] h h' ∧ h'[q]? = some (.lst (ms.map .int)) ∧ h.length ≤ q ∧ ms.Nodup ∧ ∀ m ∈ ms, DP.okM n m := by
  have hpl := lt_of_get hp
  have hi : DP.in62 ((n : Int) + 1) = true := in62_of (by omega) (by omega)
  have hi1 : DP.in62 1 = true := in62_of (by omega) (by omega)
  have key := forL_nx (keep := []) (g := gNm 3) (body := sIf (tBool (eOp2 (gEq false) (eCall 2 m__law_take (aCons (eVar 0) (aCons (eC (.int 4)) aNil))) (eC (.int 0)))) (sExpr (eMeth "list" mAppend (eVar 2) (aCons (eOp2 gIx (eLst (aCons (eVar 3) (aCons (eOp2 HL.gSub (eC (.int 0)) (eVar 3)) aNil))) (eCall 2 m__law_take (aCons (eVar 0) (aCons (eC (.int 2)) aNil)))) aNil))) sNil)
    (enc := fun i : Nat => AV.int (1 + (i : Int))) (xs := List.range n) (ρ := [some (.ref p), some (.int n), some (.ref h.length), none]) (h := h ++ [.lst []])
    (fun ys ρ h' => ∃ (ms : List Int) (c' : Cell) (a : Option AV), Fr [p] h h' ∧ h'[p]? = some c' ∧ PoolC c' ∧ h'[h.length]? = some (.lst (ms.map .int)) ∧ ms.Nodup ∧ (∀ m ∈ ms, DP.okM n m ∧ m.natAbs ≤ ys.length) ∧ ms.length ≤ ys.length ∧ ρ = [some (.ref p), some (.int n), some (.ref h.length), a])
    ⟨[], c, none, Fr.add [p] h _, get_pre hp _, hc, by simp, by simp, by simp, by simp, rfl⟩ (fun _ _ _ _ => by simp [kept]) ?_
  · obtain ⟨ρ', h', e, ms, c', a, fr, hp', hc', hq', hnd, hms, hl, rfl⟩ := key
    refine ⟨ms, h.length, c', h', ?_, hp', hc', fr, hq', Nat.le_refl _, hnd, fun m hm => (hms m hm).1⟩
    rw [me__law_known, b__law_known]
    simp [hi, hi1, rngA, DP.smallL]
    rw [e]
    simp
  · rintro ys y zs ρ h' he ⟨ms, c', a, fr, hp', hc', hq', hnd, hms, hl, rfl⟩
    have hy : ys.length < n ∧ y = ys.length := by
      have h1 := congrArg List.length he
      have h2 := congrArg (fun l => l[ys.length]?) he
      simp at h1 h2
      exact ⟨by omega, by rw [List.getElem?_range (by omega)] at h2; simpa using h2.symm⟩
    have hpq : h.length ≠ p := by omega
    obtain ⟨r1, c1, h1', e1, hp1, hc1, f1, r10, r11⟩ := take_fr hp' hc' 4 (by decide) (by decide)
    have hq1 := f1.same _ _ (by simpa using hpq) hq'
    by_cases hr : r1 = 0
    · obtain ⟨r4, c4, h4, e4, hp4, hc4, f4, r40, r41⟩ := take_fr (h := h1' ++ [.lst [.int (1 + (y : Int)), .int (0 - (1 + (y : Int)))]]) (get_pre hp1 _) hc1 2 (by decide) (by decide)
      have g4 : h4[h1'.length]? = some (.lst [.int (1 + (y : Int)), .int (0 - (1 + (y : Int)))]) := f4.same _ _ (by have := lt_of_get hp1; simp; omega) (by simp)
      have hq4 := f4.same _ _ (by simpa using hpq) (get_pre hq1 _)
      obtain ⟨x, e5, hm, _⟩ := DP.atI_some (xs := [AV.int (1 + (y : Int)), .int (0 - (1 + (y : Int)))]) r40 (by simpa using r41)
      have hx : ∃ m, x = .int m ∧ DP.okM n m ∧ m.natAbs = y + 1 := by
        simp only [List.mem_cons, List.not_mem_nil, or_false] at hm
        rcases hm with h | h
        · exact ⟨_, h, by unfold DP.okM; omega, by omega⟩
        · exact ⟨_, h, by unfold DP.okM; omega, by omega⟩
      obtain ⟨m, rfl, hmk, hmy⟩ := hx
      have hs : ms.length ≤ 10000000 := by omega
      have f04 := ((fr.trans f1).trans (Fr.add [p] _ _)).trans f4
      refine ⟨_, h', [some (.ref p), some (.int n), some (.ref h.length), some (.int (1 + (y : Int)))], h4.set h.length (.lst ((ms ++ [m]).map .int)), by simp; exact rfl, .inl ?_, ms ++ [m], c4, _, f04.fresh (Fr.set (X := [h.length]) h4 _ (by simp)) (by simp), by rw [List.getElem?_set_ne hpq]; exact hp4, hc4, List.getElem?_set_self (lt_of_get hq4), ?_, ?_, by simp; omega, rfl⟩
      · simp at e4 g4 e5
        simp [e1, hr, hq1, DP.smallL, e4, g4, e5, hq4, hs]
      · rw [List.nodup_append]
        refine ⟨hnd, by simp, fun a ha b hb => ?_⟩
        simp only [List.mem_singleton] at hb
        subst hb
        have := (hms a ha).2
        exact fun z => by subst z; omega
      · intro t ht
        rcases List.mem_append.mp ht with ht | ht
        · have := hms t ht
          exact ⟨this.1, by have := this.2; simp; omega⟩
        · simp only [List.mem_singleton] at ht
          subst ht
          exact ⟨hmk, by simp; omega⟩
    · refine ⟨_, h', [some (.ref p), some (.int n), some (.ref h.length), some (.int (1 + (y : Int)))], h1', by simp; exact rfl, .inl ?_, ms, c1, _, fr.trans f1, hp1, hc1, hq1, hnd, ?_, by simp; omega, rfl⟩
      · simp [e1, hr]
      · intro t ht
        have := hms t ht
        exact ⟨this.1, by have := this.2; simp; omega⟩
theorem rise_rises : ∀ {ks : List Int}, DP.risesL ks = true → DP.Rise ks
  | [], _ => List.Pairwise.nil
  | [_], _ => List.pairwise_singleton ..
  | a :: b :: l, h => by
    simp only [DP.risesL, Bool.and_eq_true, decide_eq_true_eq] at h
    have ih := rise_rises (ks := b :: l) h.2
    unfold DP.Rise at *
    rw [List.pairwise_cons]
    refine ⟨fun x hx => ?_, ih⟩
    rcases List.mem_cons.mp hx with rfl | hx
    · exact h.1
    · have := (List.pairwise_cons.mp ih).1 x hx
      omega
theorem nice2 {B n : Nat} {a b : PyData} (ha : DP.Nice B n a) (hb : DP.Nice B n b) : DP.Nice (2 * (B + 2) + 3) (n + 1) (.tuple [a, b]) := DP.nice_tup (ds := [a, b]) fun d hd => by
  simp only [List.mem_cons, List.not_mem_nil, or_false] at hd
  rcases hd with rfl | rfl
  · exact ha
  · exact hb
theorem nice_sum {n : Nat} {s : DP.Sm} (h : DP.SumOk2 n s) (hn : n ≤ 12) : DP.Nice 50000 3 (DP.dSum s) := by
  have hl := h.ok.len
  have nT : DP.Nice 24135 2 (.tuple (s.1.map DP.dTerm)) := (DP.nice_tup (B := 2009) (n := 1) fun d hd => by
    obtain ⟨t, ht, rfl⟩ := List.mem_map.mp hd
    have h1 := h.fac t ht
    have h2 := h.ok.pos t ht
    obtain ⟨h4, h5⟩ := h.ok.ok t ht
    exact (nice2 (DP.nice_ints (i := t.1) (by omega) (by omega)) (DP.nice_ints (i := t.2) (by omega) (by omega))).mono (by decide) (by decide)).mono (by rw [List.length_map]; omega) (by decide)
  have hlow := h.low
  have hhigh := h.high
  exact (nice2 nT ((DP.nice_ints (i := s.2) (by omega) (by omega)).mono (by decide) (by decide))).mono (by decide) (by decide)
def bothD (ss : List DP.Sm) (M : List Int) : PyData := .list [.list (ss.map DP.dSum), .list (M.map .int)]
theorem nice_both {n : Nat} {ss : List DP.Sm} {M : List Int} (hs : ∀ s ∈ ss, DP.SumOk2 n s) (hn : n ≤ 12) (hl : ss.length ≤ 10) (hM : ∀ m ∈ M, DP.okM n m) (hml : M.length ≤ 24) : DP.Nice 1001000 5 (bothD ss M) := (DP.nice_list (B := 500100) (n := 4) (ds := [.list (ss.map DP.dSum), .list (M.map .int)]) fun d hd => by
  simp only [List.mem_cons, List.not_mem_nil, or_false] at hd
  rcases hd with rfl | rfl
  · exact (DP.nice_list (B := 50000) (n := 3) fun d hd => by
      obtain ⟨s, h, rfl⟩ := List.mem_map.mp hd
      exact nice_sum (hs s h) hn).mono (by rw [List.length_map]; omega) (by decide)
  · exact (DP.nice_list (B := 1001) (n := 0) fun d hd => by
      obtain ⟨m, h, rfl⟩ := List.mem_map.mp hd
      have := hM m h
      unfold DP.okM at this
      exact DP.nice_ints (by omega) (by omega)).mono (by rw [List.length_map]; omega) (by decide)).mono (by simp) (by decide)
theorem roomL_mem {s : DP.Sm} {K L : List Int} (h : ∀ k, k ∈ K ↔ k ∈ L) : DP.roomL s K = DP.roomL s L := by
  unfold DP.roomL
  simp only [h]
theorem ssOk_of {n : Nat} {ss : List DP.Sm} (h : ∀ s ∈ ss, DP.SumOk2 n s) : SsOk n ss := fun s m => ⟨(h s m).ok, rise_rises (h s m).rise⟩
theorem okW (b : Bool) : PyData.strOk (if b = true then "bursts" else "rests" : Str) = true := by cases b <;> decide +kernel
theorem right_run {n : Nat} {ss : List DP.Sm} (hs : ∀ s ∈ ss, DP.SumOk2 n s) (hn : n ≤ 12) (hsl : ss.length ≤ 10) {M : List Int} (hM : M.Nodup) (hok : ∀ m ∈ M, DP.okM n m) {h : AH} {w v : Nat} (hw : h[w]? = some (.lst (ss.map sumA))) (hv : h[v]? = some (.lst (M.map .int))) :
    ∃ h', m__law_right [.ref w, .ref v] h = .ok (.bl true) h' ∧ Fr [] h h' := by
  have hMl := DP.okM_len hM hok
  have hss := ssOk_of hs
  have hnb := nice_both hs hn hsl hok (by omega)
  have hrep : ∀ h' : AH, h'[w]? = some (.lst (ss.map sumA)) → h'[v]? = some (.lst (M.map .int)) → gRepr (h' ++ [Cell.lst [.ref w, .ref v]]) [.ref h'.length] = some (.val (.str (bothD ss M).shown)) := fun h' a b => gRepr_of (.lst (xs := [.ref w, .ref v]) (by simp) (.cons (.lst (get_pre a _) (isDs_map fun s _ => isD_sum s)) (.cons (.lst (get_pre b _) (isDs_map fun m _ => .int m)) .nil))) hnb
  have hr0 := hrep h hw hv
  have hw1 := get_pre hw [Cell.lst [.ref w, .ref v]]
  have hv1 := get_pre hv [Cell.lst [.ref w, .ref v]]
  have f1 := Fr.add [] h [Cell.lst [.ref w, .ref v]]
  generalize hh1 : h ++ [Cell.lst [.ref w, .ref v]] = h1 at hr0 hw1 hv1 f1
  obtain ⟨b, K, q, h2, e2, hP, f2, hq1, hq2⟩ := pushed_run hn hss hM hok hw1 (mv := .ref v) (keep := [(v, .lst (M.map .int))]) (fun ρ => srOf_ref hv1) (by intro z hz; simp only [List.mem_singleton] at hz; subst hz; exact hv1)
  have hw2 := f2.same _ _ (by simp) hw1
  have hv2 := f2.same _ _ (by simp) hv1
  obtain ⟨b', K', q', r', h3, e3, hP', f3, hq3, hq3', hr3⟩ := lpushed_run hn hss hM hok hw2 hv2
  obtain ⟨rfl, rfl⟩ := hP.uniq hP'
  have hw3 := f3.same _ _ (by simp) hw2
  have hv3 := f3.same _ _ (by simp) hv2
  have hqq := f3.same _ _ (by simp) hq2
  have es := gSort_ints hqq
  rw [sort_sort] at es
  have q4 := get_pre hqq [Cell.lst ((K.mergeSort DP.leI).map .int)]
  have q5 := gEq_ints (h := h3 ++ [Cell.lst ((K.mergeSort DP.leI).map .int)]) (n := q) (m := h3.length) (K := K.mergeSort DP.leI) (L := K.mergeSort DP.leI) q4 (by simp) true
  have hw4 := get_pre hw3 [Cell.lst ((K.mergeSort DP.leI).map .int)]
  have hv4 := get_pre hv3 [Cell.lst ((K.mergeSort DP.leI).map .int)]
  have hq4' := get_pre hq3' [Cell.lst ((K.mergeSort DP.leI).map .int)]
  have f4 := Fr.add [] h3 [Cell.lst ((K.mergeSort DP.leI).map .int)]
  generalize hh4 : h3 ++ [Cell.lst ((K.mergeSort DP.leI).map .int)] = h4 at q4 q5 hw4 hv4 hq4' f4
  have q6 := gEq_ints (h := h4) q4 hq4' true
  have hwd := fun neg => gEq_strs (h := h3) (okW b) (okW b) neg
  have hwr := gEq_strs (h := h4) (x := if b = true then "bursts" else "rests") (y := "rests") (okW b) (by decide +kernel) false
  have hwb : ∀ h : AH, gEq false h (.str (if b = true then "bursts" else "rests" : Str)) (.str "bursts") = _ := fun h => gEq_strs (h := h) (okW b) (by decide +kernel) false
  have f14 := ((f1.trans f2).trans f3).trans f4
  have n1 : ¬ (Str.ofString "rests" = Str.ofString "bursts") := by decide +kernel
  have n2 : ¬ (Str.ofString "bursts" = Str.ofString "rests") := by decide +kernel
  cases b with
  | false =>
    have hr4 := hrep h4 hw4 hv4
    refine ⟨h4 ++ [Cell.lst [.ref w, .ref v]], ?_, f14.trans (Fr.add _ _ _)⟩
    rw [me__law_right, b__law_right]
    simp [wordA, n1, n2] at e2 hr3 hwd hwr hwb
    simp [DP.smallL, hh1, hr0, e2, e3, gTupM_ref hr3, hwd, hqq, es, hh4, q5, hwr, q6, hwb, hr4]
  | true =>
    obtain ⟨h5, e5, f5⟩ := may_come_run hss hn hP hM hok hw4 hv4 q4
    have hw5 := f5.same _ _ (by simp) hw4
    have hv5 := f5.same _ _ (by simp) hv4
    have hq5 := f5.same _ _ (by simp) q4
    obtain ⟨h6, gr, e6⟩ := eComp_run (it := iSeqM (eVar 0)) (g := gNm 6) (vs := [6]) (cond := tBool (eOp2 gLt (eCall 2 m__law_spare (aCons (eVar 6) (aCons (eOp2 gIx (eVar 3) (eC (.int 1))) aNil))) (eC (.int 0)))) (elt := eVar 6) (ρ := [some (.ref w), some (.ref v), some (.str (bothD ss M).shown), some (.tup [.str "bursts", .ref q]), some (.str "bursts"), some (.ref q'), none]) (h := h5) (h1 := h5) (keep := [(w, .lst (ss.map sumA))]) (enc := sumA) (xs := ss) (fun s => decide (DP.roomL s (K.mergeSort DP.leI) < 0)) sumA
      (by simp [srOf_ref hw5]) (by intro z hz; simp only [List.mem_singleton] at hz; subst hz; exact hw5) (by omega) fun s hm h2 g2 => by
        obtain ⟨g, eg⟩ := spare_run (s := s) (g2.get hq5) (.inr rfl) (by have := (hs s hm).ok.len; omega)
        exact ⟨_, h2, h2 ++ g, by simp; exact rfl, Gr.refl _, by simp [eg], Gr.add _ _, fun _ => ⟨h2 ++ g, by simp, Gr.refl _⟩⟩
    have f6 := Fr.gr (X := []) gr
    obtain ⟨s0, hs0, hr0'⟩ := hP.bad rfl
    have hne : (ss.filter fun s => decide (DP.roomL s (K.mergeSort DP.leI) < 0)).isEmpty = false := by
      cases e : ss.filter (fun s => decide (DP.roomL s (K.mergeSort DP.leI) < 0)) with
      | nil =>
        rw [List.filter_eq_nil_iff] at e
        have := e s0 hs0
        rw [roomL_mem fun k => (kn_sort_perm K).mem_iff] at this
        simp [hr0'] at this
      | cons a l => rfl
    have q7 := gEq_lnil (h := h6 ++ [Cell.lst ((ss.filter fun s => decide (DP.roomL s (K.mergeSort DP.leI) < 0)).map sumA), Cell.lst []]) (neg := false) (f := sumA) (g := DP.dSum) (n := 3) (xs := ss.filter fun s => decide (DP.roomL s (K.mergeSort DP.leI) < 0)) (p := h6.length) (q := h6.length + 1) (by simp) (by simp) (fun s _ => isD_sum s) (fun s _ => DP.sh_sum s)
    rw [hne] at q7
    have f7 := f6.trans (Fr.add [] h6 [Cell.lst ((ss.filter fun s => decide (DP.roomL s (K.mergeSort DP.leI) < 0)).map sumA), Cell.lst []])
    generalize hh7 : h6 ++ [Cell.lst ((ss.filter fun s => decide (DP.roomL s (K.mergeSort DP.leI) < 0)).map sumA), Cell.lst []] = h7 at q7 f7
    have hr7 := hrep h7 (f7.same _ _ (by simp) hw5) (f7.same _ _ (by simp) hv5)
    refine ⟨h7 ++ [Cell.lst [.ref w, .ref v]], ?_, (f14.trans f5).trans (f7.trans (Fr.add _ _ _))⟩
    rw [me__law_right, b__law_right]
    simp [wordA, n1, n2] at e2 hr3 hwd hwr hwb
    simp [DP.smallL, hh1, hr0, e2, e3, gTupM_ref hr3, hwd, hqq, es, hh4, q5, hwr, hwb, e5, e6, hh7, q7, hr7]
def LawI (ns : List Int) (ρ : HL.Env) : Prop := ∃ a1 a2 a3 a4 a5 a6 a7 : Option AV, ρ = [some (.scr ns), a1, a2, a3, a4, a5, a6, a7, none]
theorem word_ix {h : AH} (b : Bool) (q : Nat) : gIx h (.tup [wordA b, .ref q]) (.int 0) = some (.val (wordA b)) := rfl
theorem word_ix1 {h : AH} (b : Bool) (q : Nat) : gIx h (.tup [wordA b, .ref q]) (.int 1) = some (.val (.ref q)) := rfl
theorem word_eq {h : AH} (b : Bool) : gEq true h (wordA b) (wordA b) = some (.val (.bl false)) := by
  have := gEq_strs (h := h) (okW b) (okW b) true
  unfold wordA
  rw [this]
  simp
theorem pushes_nil : ∀ {b : Bool} {K : List Int}, DP.Pushes [] [] b K → b = false ∧ K = [] := by
  intro b K h
  have : DP.Pushes [] [] false [] := .rest rfl rfl
  obtain ⟨e1, e2⟩ := h.uniq this
  exact ⟨e1, e2⟩
theorem pushes_bad : ∀ {b : Bool} {K : List Int}, DP.Pushes [([], 1)] [] b K → b = true := by
  intro b K h
  have : DP.Pushes [([], 1)] [] true [] := .burst rfl
  exact (h.uniq this).1
theorem law_run (ns : List Int) (hn : ns.length ≤ 63) : ∃ h', m_law [.scr ns] [] = .ok (.bl true) h' := by
  rw [me_law, b_law]
  simp
  generalize hr : max (1 : Int) (min (ns.length : Int) 20) = r
  have hr1 : 0 ≤ r ∧ r ≤ 20 := by omega
  have hi : DP.in62 r = true := in62_of hr1.1 (by omega)
  simp [hi, rngA]
  refine seq_of (P := fun o => ∃ h', o.fin.calm = .ok (.bl true) h') (fun ρ _ => LawI ns ρ) ?_ ?_
  · refine forL_inv (enc := fun i : Nat => AV.int (i : Int)) (Q := fun o => ∃ ρ h, o = .nx ρ h ∧ LawI ns ρ) (fun _ ρ _ => LawI ns ρ) ⟨none, none, none, none, none, none, none, rfl⟩ (fun _ _ _ _ => by simp [kept]) ?_ (fun ρ h i => ⟨ρ, h, rfl, i⟩)
    rintro ys k zs ρ h0 he ⟨a1, a2, a3, a4, a5, a6, a7, rfl⟩
    have hk : k < 20 := by
      have : k ∈ List.range r.toNat := by rw [he]; simp
      rw [List.mem_range] at this
      omega
    refine ⟨_, h0, by simp; exact rfl, ?_⟩
    obtain ⟨g0, c0, hc0, e0⟩ := pool_run h0 ns (k : Int) hn (by omega) (by omega)
    generalize hp : (h0 ++ g0).length = p at e0
    have hp0 : (h0 ++ g0 ++ [c0])[p]? = some c0 := by rw [← hp]; simp
    generalize h0 ++ g0 ++ [c0] = hh at e0 hp0
    obtain ⟨r1, c1, h1, e1, hp1, hc1, f1, r10, r11⟩ := take_fr hp0 hc0 6 (by decide) (by decide)
    obtain ⟨n, hnr⟩ : ∃ n : Nat, 1 + r1 = (n : Int) := ⟨(1 + r1).toNat, by omega⟩
    have hn6 : 1 ≤ n ∧ n ≤ 6 := by omega
    obtain ⟨r2, c2, h2, e2, hp2, hc2, f2, r20, r21⟩ := take_fr hp1 hc1 6 (by decide) (by decide)
    have hi2 : DP.in62 r2 = true := in62_of (by omega) (by omega)
    obtain ⟨vs, h3, e3, i3, hl3⟩ := eComp_inv (it := iRng1M (aCons (eCall 2 m__law_take (aCons (eVar 2) (aCons (eC (.int 6)) aNil))) aNil)) (g := gNm 8) (vs := [8]) (elt := eCall 2 m__law_sum (aCons (eVar 2) (aCons (eVar 3) aNil))) (ρ := [some (.scr ns), some (.int (k : Int)), some (.ref p), some (.int n), a4, a5, a6, a7, none]) (h := h1) (h1 := h2) (keep := []) (enc := fun i : Nat => AV.int (0 + (i : Int))) (xs := List.range r2.toNat)
      (fun vs h' => ∃ (ss : List DP.Sm) (c' : Cell), vs = ss.map sumA ∧ (∀ s ∈ ss, DP.SumOk2 n s) ∧ h'[p]? = some c' ∧ PoolC c')
      (by simp [e2, hi2, rngA]) ⟨[], c2, rfl, by simp, hp2, hc2⟩ (fun _ _ _ => by simp [kept]) (by simp; omega)
      (by
        rintro x acc h' _ _ ⟨ss, c', rfl, hss, hp', hc'⟩
        obtain ⟨s, c3, h3, e3, hp3, hc3, f3, hs⟩ := sum_run hp' hc' n (by omega)
        refine ⟨_, h', sumA s, h3, by simp; exact rfl, by simp [e3], ss ++ [s], c3, by simp, ?_, hp3, hc3⟩
        intro t ht
        rcases List.mem_append.mp ht with ht | ht
        · exact hss t ht
        · simp only [List.mem_singleton] at ht
          subst ht
          exact hs)
    obtain ⟨ss, c3, rfl, hss, hp3, hc3⟩ := i3
    have hsl : ss.length ≤ 10 := by simp at hl3; omega
    have hso := ssOk_of hss
    have hso2 : SsOk n ss.reverse := fun s m => hso s (by simpa using m)
    have hp4 := get_pre hp3 [Cell.lst (ss.map sumA)]
    have hw4 : (h3 ++ [Cell.lst (ss.map sumA)])[h3.length]? = some (.lst (ss.map sumA)) := by simp
    have hwp : h3.length ≠ p := by have := lt_of_get hp3; omega
    generalize h3.length = w at e3 hw4 hwp
    generalize h3 ++ [Cell.lst (ss.map sumA)] = h4 at e3 hp4 hw4
    obtain ⟨M, v, c5, h5, e5, hp5, hc5, f5, hv5, hvl, hMn, hMok⟩ := known_run hp4 hc3 n (by omega)
    have hw5 := f5.same _ _ (by simpa using hwp) hw4
    have hwv : w ≠ v := by have := lt_of_get hw4; omega
    simp [e0, e1, hnr, e3, e5, DP.smallL]
    have hl6 : (h5 ++ [Cell.lst [], Cell.lst [.ref v, .ref h5.length]])[h5.length + 1]? = some (.lst [.ref v, .ref h5.length]) := by simp
    have he6 : (h5 ++ [Cell.lst [], Cell.lst [.ref v, .ref h5.length]])[h5.length]? = some (.lst (([] : List Int).map .int)) := by simp
    have hw6 := get_pre hw5 [Cell.lst [], Cell.lst [.ref v, .ref h5.length]]
    have hv6 := get_pre hv5 [Cell.lst [], Cell.lst [.ref v, .ref h5.length]]
    rw [srOf_ref hl6]
    simp only [ou_ok]
    generalize h5 ++ [Cell.lst [], Cell.lst [.ref v, .ref h5.length]] = h6 at hl6 he6 hw6 hv6
    generalize h5.length + 1 = l at hl6
    generalize h5.length = e at hl6 he6
    have hpair : ∀ (x : Nat) (X : List Int), X.Nodup → (∀ m ∈ X, DP.okM n m) → ∀ (h' : AH), h'[w]? = some (.lst (ss.map sumA)) → h'[x]? = some (.lst (X.map .int)) → ∀ (x7 : Option AV), ∃ h2, sIf (tOrM (tNotM (tBool (eCall 2 m__law_right (aCons (eVar 4) (aCons (eOpN gList (aCons (eVar 6) aNil)) aNil))))) (tBool (eOp2 (gEq true) (eOp2 gIx (eCall 2 m_pushed (aCons (eVar 4) (aCons (eVar 6) aNil))) (eC (.int 0))) (eOp2 gIx (eCall 2 m_pushed (aCons (eOp1 gRevL (eVar 4)) (aCons (eVar 6) aNil))) (eC (.int 0)))))) (sRet (eC (.bl false))) sNil [some (.scr ns), some (.int (k : Int)), some (.ref p), some (.int n), some (.ref w), some (.ref v), some (.ref x), x7, none] h' = .nx [some (.scr ns), some (.int (k : Int)), some (.ref p), some (.int n), some (.ref w), some (.ref v), some (.ref x), x7, none] h2 ∧ Fr [] h' h2 := by
      intro x X hX hXok h' hw hx x7
      obtain ⟨h1, e1, f1⟩ := right_run hss (by omega) hsl hX hXok (h := h' ++ [Cell.lst (X.map .int)]) (w := w) (v := h'.length) (get_pre hw _) (by simp)
      have f01 := (Fr.add [] h' [Cell.lst (X.map .int)]).trans f1
      have hw1 := f01.same _ _ (by simp) hw
      have hx1 := f01.same _ _ (by simp) hx
      obtain ⟨b, K, q, h2, e2, hP, f2, _, _⟩ := pushed_run (n := n) (by omega) hso hX hXok hw1 (mv := .ref x) (keep := [(x, .lst (X.map .int))]) (fun ρ => srOf_ref hx1) (by intro z hz; simp only [List.mem_singleton] at hz; subst hz; exact hx1)
      have hw2 := f2.same _ _ (by simp) hw1
      have hx2 := f2.same _ _ (by simp) hx1
      have hx3 := get_pre hx2 [Cell.lst (ss.reverse.map sumA)]
      obtain ⟨b', K', q', h3, e3, hP', f3, _, _⟩ := pushed_run (n := n) (ss := ss.reverse) (by omega) hso2 hX hXok (h := h2 ++ [Cell.lst (ss.reverse.map sumA)]) (w := h2.length) (by simp) (mv := .ref x) (keep := [(x, .lst (X.map .int))]) (fun ρ => srOf_ref hx3) (by intro z hz; simp only [List.mem_singleton] at hz; subst hz; exact hx3)
      have hbb := hP.word hso ss.reverse_perm ⟨hX, hXok, fun _ m => m, fun C _ hc => hc⟩ hP'
      subst hbb
      refine ⟨h3, ?_, f01.trans (f2.trans ((Fr.add [] h2 _).trans f3))⟩
      simp at e3
      simp [hx, e1, e2, word_ix, hw2, e3, word_eq]
    obtain ⟨h7, e7, f7⟩ := hpair v M hMn hMok h6 hw6 hv6 a7
    obtain ⟨h8, e8, f8⟩ := hpair e [] List.nodup_nil (by simp) h7 (f7.same _ _ (by simp) hw6) (f7.same _ _ (by simp) he6) a7
    have k6 : kept h6 [(l, Cell.lst [.ref v, .ref e])] := by intro z hz; simp only [List.mem_singleton] at hz; subst hz; exact hl6
    have k7 : kept h7 [(l, Cell.lst [.ref v, .ref e])] := by intro z hz; simp only [List.mem_singleton] at hz; subst hz; exact f7.same _ _ (by simp) hl6
    have k8 : kept h8 [(l, Cell.lst [.ref v, .ref e])] := by intro z hz; simp only [List.mem_singleton] at hz; subst hz; exact (f7.trans f8).same _ _ (by simp) hl6
    have hw8 := (f7.trans f8).same _ _ (by simp) hw6
    have hv8 := (f7.trans f8).same _ _ (by simp) hv6
    obtain ⟨b, K, q, h9, e9, hP, f9, hq9, hK9⟩ := pushed_run (n := n) (by omega) hso hMn hMok hw8 (mv := .ref v) (keep := [(v, .lst (M.map .int))]) (fun ρ => srOf_ref hv8) (by intro z hz; simp only [List.mem_singleton] at hz; subst hz; exact hv8)
    have hqw : q ≠ w := by have := lt_of_get hw8; omega
    have hqv : q ≠ v := by have := lt_of_get hv8; omega
    have hKn := hP.kn hso ⟨hMn, hMok, fun _ m => m, fun C _ hc => hc⟩
    have hKl : K.length ≤ 10000000 := by
      have := DP.okM_len hKn.nd hKn.ok
      omega
    have hw10 : (h9.set q (.lst ((K.mergeSort DP.leI ++ [0]).map .int)))[w]? = some (.lst (ss.map sumA)) := by rw [List.getElem?_set_ne hqw]; exact f9.same _ _ (by simp) hw8
    have hv10 : (h9.set q (.lst ((K.mergeSort DP.leI ++ [0]).map .int)))[v]? = some (.lst (M.map .int)) := by rw [List.getElem?_set_ne hqv]; exact f9.same _ _ (by simp) hv8
    obtain ⟨h11, e11, f11⟩ := right_run hss (by omega) hsl hMn hMok hw10 hv10
    have hw11 := f11.same _ _ (by simp) hw10
    have hv11 := f11.same _ _ (by simp) hv10
    obtain ⟨b', K', q', h12, e12, hP', f12, _, _⟩ := pushed_run (n := n) (by omega) hso hMn hMok hw11 (mv := .ref v) (keep := [(v, .lst (M.map .int))]) (fun ρ => srOf_ref hv11) (by intro z hz; simp only [List.mem_singleton] at hz; subst hz; exact hv11)
    obtain ⟨rfl, rfl⟩ := hP.uniq hP'
    have hloop : forL [(l, Cell.lst [.ref v, .ref e])] (gNm 6) (sIf (tOrM (tNotM (tBool (eCall 2 m__law_right (aCons (eVar 4) (aCons (eOpN gList (aCons (eVar 6) aNil)) aNil))))) (tBool (eOp2 (gEq true) (eOp2 gIx (eCall 2 m_pushed (aCons (eVar 4) (aCons (eVar 6) aNil))) (eC (.int 0))) (eOp2 gIx (eCall 2 m_pushed (aCons (eOp1 gRevL (eVar 4)) (aCons (eVar 6) aNil))) (eC (.int 0)))))) (sRet (eC (.bl false))) sNil) [.ref v, .ref e] [some (.scr ns), some (.int (k : Int)), some (.ref p), some (.int n), some (.ref w), some (.ref v), a6, a7, none] h6 = .nx [some (.scr ns), some (.int (k : Int)), some (.ref p), some (.int n), some (.ref w), some (.ref v), some (.ref e), a7, none] h8 := by
      simp only [forL, k6, if_true, gNm_ap, setE_ap, List.set_cons_succ, List.set_cons_zero, e7, k7, e8, k8]
    rw [hloop]
    simp at e11 hw10 hv10
    simp [e9, word_ix, word_ix1, hK9, DP.smallL, hKl, e11, e12, word_eq, DP.pick]
    exact ⟨_, _, _, _, _, _, _, rfl⟩
  · rintro ρ h ⟨a1, a2, a3, a4, a5, a6, a7, rfl⟩
    obtain ⟨b, K, q, h1, e1, hP, f1, _, hK⟩ := pushed_run (n := 0) (ss := []) (M := []) (by decide) (fun s m => by cases m) List.nodup_nil (by simp) (h := h ++ [Cell.lst []]) (w := h.length) (by simp) (mv := .wt []) (keep := []) (fun ρ => rfl) (by simp [kept])
    obtain ⟨rfl, rfl⟩ := pushes_nil hP
    have hK' : h1[q]? = some (.lst []) := by simpa using hK
    obtain ⟨b, K, q2, h2, e2, hP2, f2, _, _⟩ := pushed_run (n := 0) (ss := [([], 1)]) (M := []) (by decide) (fun s m => by simp only [List.mem_singleton] at m; subst m; exact ⟨⟨by simp, by simp, by simp⟩, by simp [DP.Rise]⟩) List.nodup_nil (by simp) (h := h1 ++ [Cell.lst [], Cell.lst [sumA ([], 1)]]) (w := h1.length + 1) (by simp) (mv := .wt []) (keep := []) (fun ρ => rfl) (by simp [kept])
    have hb := pushes_bad hP2
    subst hb
    have q1 : gEq false (h1 ++ [Cell.lst []]) (.tup [wordA false, .ref q]) (.tup [.str "rests", .ref h1.length]) = some (.val (.bl true)) := by
      have r1 : IsD (h1 ++ [Cell.lst []]) (.tup [wordA false, .ref q]) (.tuple [.str "rests", .list []]) := .tup (.cons (.str _) (.cons (.lst (get_pre hK' _) .nil) .nil))
      have r2 : IsD (h1 ++ [Cell.lst []]) (.tup [.str "rests", .ref h1.length]) (.tuple [.str "rests", .list []]) := .tup (.cons (.str _) (.cons (.lst (xs := []) (by simp) .nil) .nil))
      have sh : DP.ShD 2 (.tuple [.str "rests", .list []]) := DP.shTup2 (DP.shStr 1 (by decide +kernel)) (DP.shNil 0)
      rw [gEq_rd r1 r2 sh sh]
      simp [PyData.eqv, PyData.eqvAll]
    have q2' : gEq false h2 (wordA true) (.str "bursts") = some (.val (.bl true)) := by
      have := gEq_strs (h := h2) (x := "bursts") (y := "bursts") (by decide +kernel) (by decide +kernel) false
      simpa [wordA] using this
    refine ⟨h2, ?_⟩
    simp [sumA] at e1 e2
    simp [DP.smallL, e1, q1, e2, word_ix, q2']
end LW
open PySem PySem.W PySem.Calls PyProof.Rows
theorem LW.holds (hl : ∀ ns : List Int, ns.length ≤ 63 → ∃ h', LW.m_law [.scr ns] [] = .ok (.bl true) h') : PySem.Challenge.rw_leastbroken_k13_what_sums_push.Holds := by
  w_on; o_law
  refine HandSHeadRun.head_any (r := OpenLaw.row PySem.Challenge.rw_leastbroken_k13_what_sums_push) (q := view (OpenLaw.row PySem.Challenge.rw_leastbroken_k13_what_sums_push).prog [19]) (H := LW.hk) (ob := LW.ob) (M := 4000) (loose := LW.loose) (d := HandSHeadRun.topDef (OpenLaw.row PySem.Challenge.rw_leastbroken_k13_what_sums_push).prog 19) (kwd := []) LW.ob_eq
    (by kernel_rfl) (fun s => by kernel_rfl) LW.run (by kernel_rfl) (by kernel_rfl) (by kernel_rfl) (by rfl) (by first | assumption | decide +kernel) (by decide +kernel) ⟨rfl, rfl, rfl, rfl, rfl, by decide +kernel⟩ ?hw ?hc
  case hw => w_witness2
  case hc =>
    refine DP.walk_ofG (l := PySem.Challenge.rw_leastbroken_k13_what_sums_push) (n := 63) (k := 5) (x := "_law_script") rfl (by decide) (by kernel_rfl) ⟨rfl, by decide, by decide⟩ ?F
    intro w mg fa h Y G hmg0
    obtain ⟨K, KX, c, ce⟩ := Y
    have hmg : mg ("law" : PySem.Str) = some (.ref fa) := by
      have e : (HandSHeadRun.topDef (OpenLaw.row PySem.Challenge.rw_leastbroken_k13_what_sums_push).prog 19).name = ("law" : PySem.Str) := by kernel_rfl
      rw [← e]
      exact hmg0
    obtain ⟨fd, hb, hF⟩ := LW.facts (P := (PySem.Challenge.rw_leastbroken_k13_what_sums_push).prog) (w := w) KX G hmg c ce
    exact ⟨K, fd, HL.spH K mg 1 LW.m_law, KX, hb, fun H a ns hl' hO hS => HL.law_sp hO hS (hl ns hl'), hF⟩
theorem PySem.Challenge.cw_leastbroken_k13_what_sums_push_holds : PySem.Challenge.rw_leastbroken_k13_what_sums_push.Holds :=
  LW.holds LW.law_run
