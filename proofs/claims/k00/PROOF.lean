import PyProof.Rows.All
import Wide.All
import OpenK.AllK
import Wide.FinOn
import HandS.ForMost
import HandS.ForExc
import HandS.Deep
import HandS.CallSlots
import HandS.TryMany
import HandS.TupAny
import HandS.TupMul
import HandS.IsInst
import HandS.Style
import HandS.Wide
import HandS.Flow
import HandS.ExcField
import HandS.ExcIs
import HandS.Conv
import HandS.SortKw
import HandS.TupLe
import KE.KExcSuper
import KE.KSuper
import HandS.ExcSuper
import HandS.Ends
import KE.RegKSuper
import KE.RegKIsAll
import PySem.Challenge.RW_evensplits_k00_errors
set_option Elab.async false
set_option linter.all false
set_option maxRecDepth 100000
/-! # The layer of pure code over the hand layer -/
namespace FW
open PySem PySem.Spec PyProof.Rows L2

/-! ### values, cells, code -/
abbrev D := PyData
inductive Val where
  | d (x : D) | loc (l : Nat) | exn
inductive Cell where
  | lst (xs : List D) | dct (kvs : List (D × D))
abbrev Env := List (Option Val)
abbrev Sto := List Cell
inductive R (α : Type) where
  | ok (a : α) (μ : Sto) | exc (cn : Str) (pl : D) (μ : Sto) | stuck
def R.bind {α β : Type} (r : R α) (f : α → Sto → R β) : R β := match r with
  | .ok a μ => f a μ
  | .exc cn pl μ => .exc cn pl μ
  | .stuck => .stuck
abbrev Cd (α : Type) := Env → Sto → R α
inductive O where
  | next (ρ : Env) (μ : Sto) | ret (v : Val) (μ : Sto) | brk (ρ : Env) (μ : Sto) | cont (ρ : Env) (μ : Sto)
  | exc (cn : Str) (pl : D) (ρ : Env) (μ : Sto) | stuck
abbrev Sc := Nat → Env → Sto → O
def lift {α : Type} (r : R α) (ρ : Env) (f : α → Sto → O) : O := match r with
  | .ok a μ => f a μ
  | .exc cn pl μ => .exc cn pl ρ μ
  | .stuck => .stuck
/-- what a value says when it is read -/
def rd (v : Val) (μ : Sto) : Option D := match v with
  | .d x => some x
  | .loc l => match μ[l]? with
    | some (.lst xs) => some (.list xs)
    | some (.dct kvs) => some (.dict kvs)
    | none => none
  | .exn => none

/-! ### what stands in the heap -/
def Sub (I H : Hp) : Prop := ∀ a o, I a = some o → H a = some o
theorem Sub.refl (I : Hp) : Sub I I := fun _ _ h => h
theorem Sub.trans {I J H : Hp} (a : Sub I J) (b : Sub J H) : Sub I H := fun c o h => b c o (a c o h)
theorem Sub.new {H : Hp} {p : Addr} {o : HO} (h : H p = none) : Sub H (upd H p o) := fun b u e => by
  rw [upd_ne (ne_of_none e h)]; exact e
theorem Sub.rd {I H : Hp} (s : Sub I H) {a : Addr} {u : HO} (h : L2.Rd I a u) : L2.Rd H a u := by
  rcases h with h | ⟨o, h⟩
  · exact .inl (s _ _ h)
  · exact .inr ⟨o, s _ _ h⟩
theorem Sub.seqL {K : PySem.W.Frag} {I H : Hp} (s : Sub I H) {a : Addr} {xs : List V} (h : SqL K I a xs) : SqL K H a xs := by
  rcases h with h | h
  · exact .inl (s.rd h)
  · exact .inr h
theorem Sub.seqT {K : PySem.W.Frag} {I H : Hp} (s : Sub I H) {a : Addr} {xs : List V} (h : SqT K I a xs) : SqT K H a xs := by
  rcases h with h | h
  · exact .inl (s.rd h)
  · exact .inr h
mutual
theorem Sub.dp {K : PySem.W.Frag} {I H : Hp} (s : Sub I H) : ∀ {v : V} {d : D}, Dp K I v d → Dp K H v d
  | _, _, .non => .non
  | _, _, .bl b => .bl b
  | _, _, .int i => .int i
  | _, _, .str x => .str x
  | _, _, .lst h t => .lst (s.seqL h) (s.dpAll t)
  | _, _, .tup h t => .tup (s.seqT h) (s.dpAll t)
theorem Sub.dpAll {K : PySem.W.Frag} {I H : Hp} (s : Sub I H) : ∀ {vs : List V} {ds : List D}, DpAll K I vs ds → DpAll K H vs ds
  | _, _, .nil => .nil
  | _, _, .cons h t => .cons (s.dp h) (s.dpAll t)
end
/-- data stands at a value -/
structure Rp (K : PySem.W.Frag) (I : Hp) (v : V) (d : D) : Prop where
  dp : Dp K I v d
  lay : d.canLay0 = true
structure RpAll (K : PySem.W.Frag) (I : Hp) (vs : List V) (ds : List D) : Prop where
  dp : DpAll K I vs ds
  lay : PyData.canLayAll0 ds = true
theorem Sub.rp {K : PySem.W.Frag} {I H : Hp} (s : Sub I H) {v : V} {d : D} (h : Rp K I v d) : Rp K H v d := ⟨s.dp h.dp, h.lay⟩
theorem Sub.rpAll {K : PySem.W.Frag} {I H : Hp} (s : Sub I H) {v : List V} {d : List D} (h : RpAll K I v d) : RpAll K H v d := ⟨s.dpAll h.dp, h.lay⟩
theorem RpAll.nil {K : PySem.W.Frag} {I : Hp} : RpAll K I [] [] := ⟨.nil, by simp [PyData.canLayAll0]⟩
theorem RpAll.cons {K : PySem.W.Frag} {I : Hp} {v : V} {d : D} {vs : List V} {ds : List D} (h : Rp K I v d) (t : RpAll K I vs ds) : RpAll K I (v :: vs) (d :: ds) :=
  ⟨.cons h.dp t.dp, by simp [PyData.canLayAll0, h.lay, t.lay]⟩
theorem RpAll.head {K : PySem.W.Frag} {I : Hp} {v : V} {d : D} {vs : List V} {ds : List D} (h : RpAll K I (v :: vs) (d :: ds)) : Rp K I v d ∧ RpAll K I vs ds := by
  obtain ⟨a, b⟩ := h
  cases a with
  | cons p q =>
    simp only [PyData.canLayAll0, Bool.and_eq_true] at b
    exact ⟨⟨p, b.1⟩, ⟨q, b.2⟩⟩
theorem RpAll.length {K : PySem.W.Frag} {I : Hp} : ∀ {vs : List V} {ds : List D}, RpAll K I vs ds → vs.length = ds.length
  | [], [], _ => rfl
  | [], _ :: _, h => nomatch h.dp
  | _ :: _, [], h => nomatch h.dp
  | v :: vs, d :: ds, h => by
    rw [List.length_cons, List.length_cons, RpAll.length h.head.2]
theorem RpAll.get {K : PySem.W.Frag} {I : Hp} : ∀ {vs : List V} {ds : List D} {i : Nat} {d : D}, RpAll K I vs ds → ds[i]? = some d → ∃ v, vs[i]? = some v ∧ Rp K I v d
  | [], [], i, d, _, e => by simp at e
  | [], _ :: _, _, _, h, _ => nomatch h.dp
  | _ :: _, [], _, _, h, _ => nomatch h.dp
  | v :: vs, d :: ds, 0, d', h, e => by
    simp at e; subst e
    exact ⟨v, rfl, h.head.1⟩
  | v :: vs, d :: ds, i + 1, d', h, e => by
    obtain ⟨w, e1, r⟩ := RpAll.get (i := i) h.head.2 (by simpa using e)
    exact ⟨w, by simpa using e1, r⟩
theorem RpAll.app {K : PySem.W.Frag} {I : Hp} : ∀ {vs ws : List V} {ds es : List D}, RpAll K I vs ds → RpAll K I ws es → RpAll K I (vs ++ ws) (ds ++ es)
  | [], _, [], _, _, t => t
  | [], _, _ :: _, _, h, _ => nomatch h.dp
  | _ :: _, _, [], _, h, _ => nomatch h.dp
  | v :: vs, ws, d :: ds, es, h, t => .cons h.head.1 (RpAll.app h.head.2 t)
theorem Rp.list {K : PySem.W.Frag} {I : Hp} {a : Addr} {ys : List V} {xs : List D} (h : SqL K I a ys) (t : RpAll K I ys xs) : Rp K I (.ref a) (.list xs) := ⟨.lst h t.dp, by simp [PyData.canLay0, t.lay]⟩
theorem Rp.tup {K : PySem.W.Frag} {I : Hp} {a : Addr} {ys : List V} {xs : List D} (h : SqT K I a ys) (t : RpAll K I ys xs) : Rp K I (.ref a) (.tuple xs) := ⟨.tup h t.dp, by simp [PyData.canLay0, t.lay]⟩
theorem Rp.of_list {K : PySem.W.Frag} {I : Hp} {v : V} {xs : List D} (h : Rp K I v (.list xs)) : ∃ a ys, v = .ref a ∧ SqL K I a ys ∧ RpAll K I ys xs := by
  obtain ⟨h, l⟩ := h
  cases h with
  | lst p q => exact ⟨_, _, rfl, p, q, by simpa [PyData.canLay0] using l⟩
theorem Rp.of_tup {K : PySem.W.Frag} {I : Hp} {v : V} {xs : List D} (h : Rp K I v (.tuple xs)) : ∃ a ys, v = .ref a ∧ SqT K I a ys ∧ RpAll K I ys xs := by
  obtain ⟨h, l⟩ := h
  cases h with
  | tup p q => exact ⟨_, _, rfl, p, q, by simpa [PyData.canLay0] using l⟩
theorem Rp.of_int {K : PySem.W.Frag} {I : Hp} {v : V} {i : Int} (h : Rp K I v (.int i)) : v = .int i := by obtain ⟨h, _⟩ := h; cases h; rfl
theorem Rp.of_bool {K : PySem.W.Frag} {I : Hp} {v : V} {b : Bool} (h : Rp K I v (.bool b)) : v = .bl b := by obtain ⟨h, _⟩ := h; cases h; rfl
theorem Rp.of_none {K : PySem.W.Frag} {I : Hp} {v : V} (h : Rp K I v .none) : v = .non := by obtain ⟨h, _⟩ := h; cases h; rfl
theorem Rp.of_str {K : PySem.W.Frag} {I : Hp} {v : V} {x : Str} (h : Rp K I v (.str x)) : v = .str x := by obtain ⟨h, _⟩ := h; cases h; rfl
theorem Rp.int {K : PySem.W.Frag} {I : Hp} {i : Int} : Rp K I (.int i) (.int i) := ⟨.int i, by simp [PyData.canLay0]⟩
theorem Rp.bool {K : PySem.W.Frag} {I : Hp} {b : Bool} : Rp K I (.bl b) (.bool b) := ⟨.bl b, by simp [PyData.canLay0]⟩
theorem Rp.non {K : PySem.W.Frag} {I : Hp} : Rp K I .non .none := ⟨.non, by simp [PyData.canLay0]⟩
theorem Rp.ref {K : PySem.W.Frag} {I : Hp} {v : V} {d : D} (h : Rp K I v d) : (∃ a, v = .ref a) ∨ (v = .non ∧ d = .none) ∨ (∃ b, v = .bl b ∧ d = .bool b) ∨ (∃ i, v = .int i ∧ d = .int i) ∨ (∃ x, v = .str x ∧ d = .str x) := by
  obtain ⟨h, _⟩ := h
  cases h with
  | non => exact .inr (.inl ⟨rfl, rfl⟩)
  | bl b => exact .inr (.inr (.inl ⟨b, rfl, rfl⟩))
  | int i => exact .inr (.inr (.inr (.inl ⟨i, rfl, rfl⟩)))
  | str x => exact .inr (.inr (.inr (.inr ⟨x, rfl, rfl⟩)))
  | lst _ _ => exact .inl ⟨_, rfl⟩
  | tup _ _ => exact .inl ⟨_, rfl⟩

/-- what a try's suite knows of the caught one; where the error classes stand -/
structure Ctx where
  ca : Str → Option Addr
  ea : Addr
  ed : Option (Addr × Str × D)

/-- a value at a value -/
def RV (C : Ctx) (K : PySem.W.Frag) (I : Hp) (β : Nat → Addr) (n : Nat) : Val → V → Prop
  | .d x, v => Rp K I v x
  | .loc l, v => v = .ref (β l) ∧ l < n
  | .exn, v => v = .ref C.ea

def CellOk (K : PySem.W.Frag) (I H : Hp) (a : Addr) : Cell → Prop
  | .lst xs => ∃ ys, H a = some (.lst ys) ∧ RpAll K I ys xs
  | .dct kvs => False

/-- the store stands in the heap -/
structure SR (K : PySem.W.Frag) (I : Hp) (β : Nat → Addr) (μ : Sto) (H : Hp) : Prop where
  imm : Sub I H
  fr : ∀ l, l < μ.length → I (β l) = none
  inj : ∀ l m, l < μ.length → m < μ.length → β l = β m → l = m
  cell : ∀ l c, μ[l]? = some c → CellOk K I H (β l) c
def XdAt (K : PySem.W.Frag) (I : Hp) (cn : Str) (pl : D) (dd : Addr) : Prop := ∃ v, I dd = some (.xd [("place", v), ("name", .str cn)]) ∧ Rp K I v pl
/-- the slots -/
structure ER (C : Ctx) (K : PySem.W.Frag) (I : Hp) (β : Nat → Addr) (ρ : Env) (μ : Sto) (σ : L2.St) : Prop where
  len : ρ.length = σ.length
  get : ∀ (i : Nat) (v : Val), ρ[i]? = some (some v) → ∃ w, σ[i]? = some (some w) ∧ RV C K I β μ.length v w
  ex : ∀ dd cn pl, C.ed = some (dd, cn, pl) → XdAt K I cn pl dd
/-- how the state may go on; n: cells below stay where they are -/
structure Ext (n : Nat) (I : Hp) (β : Nat → Addr) (μ : Sto) (H : Hp) (I' : Hp) (β' : Nat → Addr) (μ' : Sto) (H' : Hp) : Prop where
  imm : Sub I I'
  dom : ∀ a, H' a = none → H a = none
  bet : ∀ l, l < n → β' l = β l
  len : n ≤ μ'.length
  fram : ∀ a o, H a = some o → (∀ l, l < μ.length → β l ≠ a) → H' a = some o
  new : ∀ l, n ≤ l → l < μ'.length → H (β' l) = none ∨ ∃ m, n ≤ m ∧ m < μ.length ∧ β' l = β m
  imn : ∀ a o, I' a = some o → I a = some o ∨ H a = none ∨ ∃ l, l < μ.length ∧ β l = a

theorem Ext.refl {n : Nat} {I : Hp} {β : Nat → Addr} {μ : Sto} {H : Hp} (h : n ≤ μ.length) : Ext n I β μ H I β μ H :=
  ⟨Sub.refl _, fun _ h => h, fun _ _ => rfl, h, fun _ _ h _ => h, fun l h1 h2 => .inr ⟨l, h1, h2, rfl⟩, fun _ _ h => .inl h⟩
theorem Ext.trans {n : Nat} {I I1 I2 : Hp} {β β1 β2 : Nat → Addr} {μ μ1 μ2 : Sto} {H H1 H2 : Hp} (hn : n ≤ μ.length) (a : Ext n I β μ H I1 β1 μ1 H1) (b : Ext n I1 β1 μ1 H1 I2 β2 μ2 H2) : Ext n I β μ H I2 β2 μ2 H2 where
  imm := a.imm.trans b.imm
  dom := fun c h => a.dom c (b.dom c h)
  bet := fun l h => (b.bet l h).trans (a.bet l h)
  len := b.len
  fram := fun c o h hc => b.fram c o (a.fram c o h hc) fun l hl => by
    by_cases hln : l < n
    · rw [a.bet l hln]; exact hc l (Nat.lt_of_lt_of_le hln hn)
    · rcases a.new l (Nat.le_of_not_lt hln) hl with z | ⟨m, h1, h2, z⟩
      · intro e; rw [e, h] at z; cases z
      · rw [z]; exact hc m h2
  new := fun l h1 h2 => by
    rcases b.new l h1 h2 with z | ⟨m, h3, h4, z⟩
    · exact .inl (a.dom _ z)
    · rcases a.new m h3 h4 with y | ⟨k, h5, h6, y⟩
      · exact .inl (by rw [z]; exact y)
      · exact .inr ⟨k, h5, h6, z.trans y⟩
  imn := fun c o h => by
    rcases b.imn c o h with z | z | ⟨l, h1, z⟩
    · exact a.imn c o z
    · exact .inr (.inl (a.dom c z))
    · by_cases hln : l < n
      · exact .inr (.inr ⟨l, Nat.lt_of_lt_of_le hln hn, by rw [← a.bet l hln]; exact z⟩)
      · rcases a.new l (Nat.le_of_not_lt hln) h1 with y | ⟨m, _, h3, y⟩
        · exact .inr (.inl (by rw [← z]; exact y))
        · exact .inr (.inr ⟨m, h3, y.symm.trans z⟩)
theorem Ext.lower {n k : Nat} {I I1 : Hp} {β β1 : Nat → Addr} {μ μ1 : Sto} {H H1 : Hp} (hk : k ≤ n) (hn : n ≤ μ.length) (a : Ext n I β μ H I1 β1 μ1 H1) : Ext k I β μ H I1 β1 μ1 H1 where
  imm := a.imm
  dom := a.dom
  bet := fun l h => a.bet l (Nat.lt_of_lt_of_le h hk)
  len := Nat.le_trans hk a.len
  fram := a.fram
  new := fun l h1 h2 => by
    by_cases hln : l < n
    · exact .inr ⟨l, h1, Nat.lt_of_lt_of_le hln hn, a.bet l hln⟩
    · rcases a.new l (Nat.le_of_not_lt hln) h2 with z | ⟨m, h3, h4, z⟩
      · exact .inl z
      · exact .inr ⟨m, Nat.le_trans hk h3, h4, z⟩
  imn := a.imn
/-- composing two expressions' -/
theorem Ext.trans' {I I1 I2 : Hp} {β β1 β2 : Nat → Addr} {μ μ1 μ2 : Sto} {H H1 H2 : Hp} (a : Ext μ.length I β μ H I1 β1 μ1 H1) (b : Ext μ1.length I1 β1 μ1 H1 I2 β2 μ2 H2) : Ext μ.length I β μ H I2 β2 μ2 H2 :=
  a.trans (Nat.le_refl _) (b.lower a.len (Nat.le_refl _))
theorem RV.mono {C : Ctx} {K : PySem.W.Frag} {I I' : Hp} {β β' : Nat → Addr} {n m : Nat} (s : Sub I I') (hb : ∀ l, l < n → β' l = β l) (hm : n ≤ m) : ∀ {v : Val} {w : V}, RV C K I β n v w → RV C K I' β' m v w
  | .d _, _, h => s.rp h
  | .loc l, _, h => ⟨by rw [hb l h.2]; exact h.1, Nat.lt_of_lt_of_le h.2 hm⟩
  | .exn, _, h => h
theorem ER.mono {C : Ctx} {K : PySem.W.Frag} {I I' : Hp} {β β' : Nat → Addr} {ρ : Env} {μ μ' : Sto} {σ : L2.St} (e : ER C K I β ρ μ σ) (s : Sub I I') (hb : ∀ l, l < μ.length → β' l = β l) (hm : μ.length ≤ μ'.length) : ER C K I' β' ρ μ' σ where
  len := e.len
  get := fun i v h => by
    obtain ⟨w, h1, h2⟩ := e.get i v h
    exact ⟨w, h1, h2.mono s hb hm⟩
  ex := fun dd cn pl h => by
    obtain ⟨v, h1, h2⟩ := e.ex dd cn pl h
    exact ⟨v, s _ _ h1, s.rp h2⟩
theorem ER.ext {C : Ctx} {K : PySem.W.Frag} {I I' : Hp} {β β' : Nat → Addr} {ρ : Env} {μ μ' : Sto} {σ : L2.St} {H H' : Hp} (e : ER C K I β ρ μ σ) (x : Ext μ.length I β μ H I' β' μ' H') : ER C K I' β' ρ μ' σ := e.mono x.imm x.bet x.len
/-- a new immutable thing -/
theorem SR.lay {K : PySem.W.Frag} {I : Hp} {β : Nat → Addr} {μ : Sto} {H : Hp} {p : Addr} {o : HO} (h : SR K I β μ H) (hp : H p = none) : SR K (upd I p o) β μ (upd H p o) ∧ Ext μ.length I β μ H (upd I p o) β μ (upd H p o) := by
  have ip : I p = none := by
    cases e : I p with
    | none => rfl
    | some u => have := h.imm p u e; rw [hp] at this; cases this
  have nb : ∀ l, l < μ.length → β l ≠ p := fun l hl e => by
    obtain ⟨c, hc⟩ : ∃ c, μ[l]? = some c := ⟨_, List.getElem?_eq_getElem hl⟩
    have := h.cell l c hc
    cases c with
    | lst xs => obtain ⟨ys, q, _⟩ := this; rw [e, hp] at q; cases q
    | dct kvs => exact this
  refine ⟨⟨fun a u e => ?_, fun l hl => ?_, h.inj, fun l c hc => ?_⟩, ⟨Sub.new ip, fun a e => ?_, fun _ _ => rfl, Nat.le_refl _, fun a u e _ => Sub.new hp a u e, fun l h1 h2 => .inr ⟨l, h1, h2, rfl⟩, fun a u e => ?_⟩⟩
  · by_cases ha : a = p
    · subst ha; rw [upd_same] at e ⊢; exact e
    · rw [upd_ne ha] at e ⊢; exact h.imm a u e
  · rw [upd_ne (nb l hl)]; exact h.fr l hl
  · have hl : l < μ.length := (List.getElem?_eq_some_iff.mp hc).1
    have := h.cell l c hc
    cases c with
    | lst xs => obtain ⟨ys, q, t⟩ := this; exact ⟨ys, by rw [upd_ne (nb l hl)]; exact q, (Sub.new ip).rpAll t⟩
    | dct kvs => exact this
  · by_cases ha : a = p
    · subst ha; exact hp
    · rw [upd_ne ha] at e; exact e
  · by_cases ha : a = p
    · subst ha; exact .inr (.inl hp)
    · rw [upd_ne ha] at e; exact .inl e
end FW


set_option Elab.async false
set_option linter.all false
set_option maxRecDepth 100000
namespace FW
open PySem PySem.Spec PyProof.Rows L2

/-! ### an outcome and what is wanted behind it -/
def ExcAt (C : Ctx) (K : PySem.W.Frag) (I : Hp) (cn : Str) (pl : D) (cls : Value) (dd : Addr) : Prop := (∃ a, C.ca cn = some a ∧ cls = .ref a) ∧ XdAt K I cn pl dd
section
variable {C : Ctx} {K : PySem.W.Frag} {W : WX} {σ : L2.St} {I I1 : Hp} {β β1 : Nat → Addr} {μ μ1 : Sto} {H H1 : Hp} {α γ τ υ : Type}
/-- rel: how a pure result stands at a value -/
abbrev Rel (α τ : Type) := Hp → (Nat → Addr) → Nat → α → τ → Prop
def Res (C : Ctx) (K : PySem.W.Frag) (W : WX) (σ : L2.St) (I : Hp) (β : Nat → Addr) (μ : Sto) (H : Hp) (rel : Rel α τ) (Q : τ → Hp → Prop) : R α → Prop
  | .ok a μ' => ∀ I' β' H' t, Ext μ.length I β μ H I' β' μ' H' → SR K I' β' μ' H' → rel I' β' μ'.length a t → Q t H'
  | .exc cn pl μ' => ∀ I' β' H' cls dd, Ext μ.length I β μ H I' β' μ' H' → SR K I' β' μ' H' → ExcAt C K I' cn pl cls dd → W cls (some dd) σ H'
  | .stuck => False
theorem Res.re {rel : Rel α τ} {Q : τ → Hp → Prop} {r : R α} (x : Ext μ.length I β μ H I1 β1 μ1 H1) (h : Res C K W σ I β μ H rel Q r) : Res C K W σ I1 β1 μ1 H1 rel Q r := by
  cases r with
  | ok a μ' => exact fun I' β' H' t x' s' r' => h I' β' H' t (x.trans' x') s' r'
  | exc cn pl μ' => exact fun I' β' H' cls dd x' s' r' => h I' β' H' cls dd (x.trans' x') s' r'
  | stuck => exact h
theorem Res.bind {rel : Rel α τ} {rel2 : Rel γ υ} {Q : υ → Hp → Prop} {Q1 : τ → Hp → Prop} {r : R α} {g : α → Sto → R γ} (h : Res C K W σ I β μ H rel2 Q (r.bind g))
    (k : ∀ a μ1 I1 β1 H1 t, r = .ok a μ1 → Ext μ.length I β μ H I1 β1 μ1 H1 → SR K I1 β1 μ1 H1 → rel I1 β1 μ1.length a t → Res C K W σ I1 β1 μ1 H1 rel2 Q (g a μ1) → Q1 t H1) : Res C K W σ I β μ H rel Q1 r := by
  cases r with
  | ok a μ' => exact fun I' β' H' t x' s' r' => k a μ' I' β' H' t rfl x' s' r' (Res.re x' h)
  | exc cn pl μ' => exact h
  | stuck => exact h
theorem Res.mono {rel : Rel α τ} {Q Q1 : τ → Hp → Prop} {r : R α} (h : Res C K W σ I β μ H rel Q r) (k : ∀ t H1, Q t H1 → Q1 t H1) : Res C K W σ I β μ H rel Q1 r := by
  cases r with
  | ok a μ' => exact fun I' β' H' t x' s' r' => k _ _ (h I' β' H' t x' s' r')
  | exc cn pl μ' => exact h
  | stuck => exact h
/-- the end of a pure step -/
theorem Res.here {rel : Rel α τ} {Q : τ → Hp → Prop} {a : α} {t : τ} (s : SR K I β μ H) (h : Res C K W σ I β μ H rel Q (.ok a μ)) (r : rel I β μ.length a t) : Q t H :=
  h I β H t (Ext.refl (Nat.le_refl _)) s r
theorem Res.laid {rel : Rel α τ} {Q : τ → Hp → Prop} {a : α} {t : τ} {p : Addr} {o : HO} (s : SR K I β μ H) (hp : H p = none) (h : Res C K W σ I β μ H rel Q (.ok a μ)) (r : rel (upd I p o) β μ.length a t) : Q t (upd H p o) :=
  h _ _ _ t (s.lay hp).2 (s.lay hp).1 r
end

/-! ### the judgements -/
def rBool : Rel Bool Bool := fun _ _ _ a b => a = b
def RVs (C : Ctx) (K : PySem.W.Frag) (I : Hp) (β : Nat → Addr) (n : Nat) : List Val → List V → Prop := Paired (RV C K I β n)
def tE (C : Ctx) (K : PySem.W.Frag) (W : WX) (f : Cd Val) : TE := fun σ H Q => ∃ I β ρ μ, SR K I β μ H ∧ ER C K I β ρ μ σ ∧ Res C K W σ I β μ H (RV C K) Q (f ρ μ)
def tT (C : Ctx) (K : PySem.W.Frag) (W : WX) (f : Cd Bool) : TT := fun σ H Q => ∃ I β ρ μ, SR K I β μ H ∧ ER C K I β ρ μ σ ∧ Res C K W σ I β μ H rBool Q (f ρ μ)
def tA (C : Ctx) (K : PySem.W.Frag) (W : WX) (f : Cd (List Val)) : TA := fun σ H Q => ∃ I β ρ μ, SR K I β μ H ∧ ER C K I β ρ μ σ ∧ Res C K W σ I β μ H (RVs C K) Q (f ρ μ)
/-- e is the code f -/
def SE (C : Ctx) (X : Cx) (W : WX) (f : Cd Val) (e : Expr) : Prop := PE X e (tE C X.K W f)
def ST (C : Ctx) (X : Cx) (W : WX) (f : Cd Bool) (e : Expr) : Prop := PT X e (tT C X.K W f)
def SA (C : Ctx) (X : Cx) (W : WX) (f : Cd (List Val)) (es : List Expr) : Prop := PA X es (tA C X.K W f)
theorem PE_imp {X : Cx} {e : Expr} {t t' : TE} (h : PE X e t) (k : ∀ σ H Q, t' σ H Q → t σ H Q) : PE X e t' := ⟨fun pins s σ H Q I q => h.run pins s σ H Q I (k σ H Q q)⟩
theorem PT_imp {X : Cx} {e : Expr} {t t' : TT} (h : PT X e t) (k : ∀ σ H Q, t' σ H Q → t σ H Q) : PT X e t' := ⟨fun pins s σ H Q I q => h.run pins s σ H Q I (k σ H Q q)⟩
theorem PA_imp {X : Cx} {e : List Expr} {t t' : TA} (h : PA X e t) (k : ∀ σ H Q, t' σ H Q → t σ H Q) : PA X e t' := ⟨fun pos pins s σ H Q I q => h.run pos pins s σ H Q I (k σ H Q q)⟩
theorem PS_imp {X : Cx} {e : Stmt} {t t' : TS} (h : PS X e t) (k : ∀ D σ H, t' D σ H → t D σ H) : PS X e t' := ⟨fun pins s σ H D I q => h.run pins s σ H D I (k D σ H q)⟩
theorem PSs_imp {X : Cx} {e : List Stmt} {t t' : TS} (h : PSs X e t) (k : ∀ D σ H, t' D σ H → t D σ H) : PSs X e t' := ⟨fun pins s σ H D I q => h.run pins s σ H D I (k D σ H q)⟩
theorem PC_imp {X : Cx} {op : CmpOp} {a b : Expr} {t t' : TE} (h : PC X op a b t) (k : ∀ σ H Q, t' σ H Q → t σ H Q) : PC X op a b t' := ⟨fun pins s σ H Q I q => h.run pins s σ H Q I (k σ H Q q)⟩

/-! ### operands that are read -/
inductive RO (K : PySem.W.Frag) (I H : Hp) : V → D → Prop
  | d {v : V} {x : D} : Rp K I v x → RO K I H v x
  | lst {a : Addr} {ys : List V} {xs : List D} : H a = some (.lst ys) → RpAll K I ys xs → RO K I H (.ref a) (.list xs)
theorem RO.inH {K : PySem.W.Frag} {I H : Hp} {v : V} {x : D} (s : Sub I H) : RO K I H v x → Rp K H v x
  | .d h => s.rp h
  | .lst h t => .list (SqL.of h) (s.rpAll t)
theorem RO.of_list {K : PySem.W.Frag} {I H : Hp} {v : V} {xs : List D} (s : Sub I H) (h : RO K I H v (.list xs)) : ∃ a ys, v = .ref a ∧ SqL K H a ys ∧ RpAll K I ys xs := by
  cases h with
  | d h =>
    obtain ⟨a, ys, rfl, h, t⟩ := h.of_list
    exact ⟨a, ys, rfl, s.seqL h, t⟩
  | lst h t => exact ⟨_, _, rfl, SqL.of h, t⟩
theorem RO.of_tup {K : PySem.W.Frag} {I H : Hp} {v : V} {xs : List D} (h : RO K I H v (.tuple xs)) : ∃ a ys, v = .ref a ∧ SqT K I a ys ∧ RpAll K I ys xs := by
  cases h with
  | d h => exact h.of_tup
theorem RO.dat {K : PySem.W.Frag} {I H : Hp} {v : V} {x : D} (h : RO K I H v x) (n : ∀ xs, x ≠ .list xs) : Rp K I v x := by
  cases h with
  | d h => exact h
  | lst _ _ => exact (n _ rfl).elim
theorem RO.of_int {K : PySem.W.Frag} {I H : Hp} {v : V} {i : Int} (h : RO K I H v (.int i)) : v = .int i := (h.dat fun _ e => nomatch e).of_int
theorem RO.of_bool {K : PySem.W.Frag} {I H : Hp} {v : V} {i : Bool} (h : RO K I H v (.bool i)) : v = .bl i := (h.dat fun _ e => nomatch e).of_bool
theorem RO.of_str {K : PySem.W.Frag} {I H : Hp} {v : V} {i : Str} (h : RO K I H v (.str i)) : v = .str i := (h.dat fun _ e => nomatch e).of_str
theorem RO.of_none {K : PySem.W.Frag} {I H : Hp} {v : V} (h : RO K I H v .none) : v = .non := (h.dat fun _ e => nomatch e).of_none
theorem RV.rd {C : Ctx} {K : PySem.W.Frag} {I H : Hp} {β : Nat → Addr} {μ : Sto} (s : SR K I β μ H) : ∀ {v : Val} {w : V} {x : D}, RV C K I β μ.length v w → rd v μ = some x → RO K I H w x
  | .d y, w, x, h, e => by
    cases e
    exact .d h
  | .loc l, w, x, h, e => by
    obtain ⟨rfl, hl⟩ := h
    cases hc : μ[l]? with
    | none => simp only [FW.rd, hc] at e; cases e
    | some c =>
      have q := s.cell l c hc
      cases c with
      | lst xs =>
        simp only [FW.rd, hc] at e
        cases e
        obtain ⟨ys, h1, h2⟩ := q
        exact .lst h1 h2
      | dct kvs => exact q.elim
  | .exn, w, x, h, e => by cases e
/-- what follows a pure step that gives z -/
def Done (K : PySem.W.Frag) (I H : Hp) (z : D) (Q : VK) : Prop := (∀ w, Rp K I w z → Q w H) ∧ ∀ p o w, H p = none → Rp K (upd I p o) w z → Q w (upd H p o)
theorem Done.of {C : Ctx} {K : PySem.W.Frag} {W : WX} {σ : L2.St} {I : Hp} {β : Nat → Addr} {μ : Sto} {H : Hp} {z : D} {Q : VK} (s : SR K I β μ H) (h : Res C K W σ I β μ H (RV C K) Q (.ok (.d z) μ)) : Done K I H z Q :=
  ⟨fun w r => Res.here s h r, fun p o w hp r => Res.laid s hp h r⟩
/-- a place just laid holds it -/
theorem Sub.fresh {I H : Hp} {p : Addr} (s : Sub I H) (hp : H p = none) : I p = none := by
  cases e : I p with
  | none => rfl
  | some u => have := s p u e; rw [hp] at this; cases this
theorem Done.tup {K : PySem.W.Frag} {I H : Hp} {xs : List D} {ys : List V} {Q : VK} (s : Sub I H) (d : Done K I H (.tuple xs) Q) (r : RpAll K I ys xs) : ∀ p, H p = none → Q (.ref p) (upd H p (.tup ys)) :=
  fun p hp => d.2 p _ _ hp (.tup (SqT.of upd_same) ((Sub.new (s.fresh hp)).rpAll r))
theorem Done.lst {K : PySem.W.Frag} {I H : Hp} {xs : List D} {ys : List V} {Q : VK} (s : Sub I H) (d : Done K I H (.list xs) Q) (r : RpAll K I ys xs) : ∀ p, H p = none → Q (.ref p) (upd H p (.lst ys)) :=
  fun p hp => d.2 p _ _ hp (.list (SqL.of upd_same) ((Sub.new (s.fresh hp)).rpAll r))

/-! ### expressions -/
section
variable {C : Ctx} {X : Cx} {W : WX} {pos : Pos}
def cK (x : D) : Cd Val := fun _ μ => .ok (.d x) μ
def cV (i : Nat) : Cd Val := fun ρ μ => match ρ[i]? with
  | some (some v) => .ok v μ
  | _ => .stuck
theorem se_int {i : Int} {j} : SE C X W (cK (.int i)) (.Constant (.int i) j pos) := PE_imp pe_int fun σ H Q h => by
  obtain ⟨I, β, ρ, μ, s, e, h⟩ := h
  exact Res.here s h (Rp.int)
theorem se_bl {b : Bool} {j} : SE C X W (cK (.bool b)) (.Constant (.bool b) j pos) := PE_imp pe_bl fun σ H Q h => by
  obtain ⟨I, β, ρ, μ, s, e, h⟩ := h
  exact Res.here s h (Rp.bool)
theorem se_non {j} : SE C X W (cK .none) (.Constant .none j pos) := PE_imp pe_non fun σ H Q h => by
  obtain ⟨I, β, ρ, μ, s, e, h⟩ := h
  exact Res.here s h (Rp.non)
theorem se_str {x : Str} {j} (hx : PyData.canLay0 (.str x) = true := by decide +kernel) : SE C X W (cK (.str x)) (.Constant (.str x) j pos) := PE_imp pe_str fun σ H Q h => by
  obtain ⟨I, β, ρ, μ, s, e, h⟩ := h
  exact Res.here s h ⟨.str x, hx⟩
theorem se_var (i : Nat) {x : Str} (hN : X.N[i]? = some x := by rfl) (hv : Vis X.env.scope x := by first | exact Or.inl rfl | exact Or.inr (Or.inl rfl) | exact Or.inr (Or.inr rfl)) (hd : (x == ("__debug__" : Str)) = false := by decide)
    (hcd : (x == ("__classdict__" : Str)) = false := by decide) : SE C X W (cV i) (.Name x pos) := PE_imp (pe_var hN hv hd hcd) fun σ H Q h => by
  obtain ⟨I, β, ρ, μ, s, e, h⟩ := h
  unfold cV at h
  cases q : ρ[i]? with
  | none => rw [q] at h; exact h.elim
  | some o =>
    cases o with
    | none => rw [q] at h; exact h.elim
    | some v =>
      rw [q] at h
      obtain ⟨w, h1, h2⟩ := e.get i v q
      exact ⟨w, h1, Res.here s h h2⟩
/-- arguments -/
def aNil : Cd (List Val) := fun _ μ => .ok [] μ
def aCons (f : Cd Val) (g : Cd (List Val)) : Cd (List Val) := fun ρ μ => (f ρ μ).bind fun v μ1 => (g ρ μ1).bind fun vs μ2 => .ok (v :: vs) μ2
theorem sa_nil : SA C X W aNil [] := PA_imp pa_nil fun σ H Q h => by
  obtain ⟨I, β, ρ, μ, s, e, h⟩ := h
  exact Res.here s h .nil
theorem sa_cons {e : Expr} {es : List Expr} {f : Cd Val} {g : Cd (List Val)} (he : SE C X W f e) (hr : SA C X W g es) (hs : starEach (e :: es) X.env = (false, eval e X.env) :: starEach es X.env := by rfl) : SA C X W (aCons f g) (e :: es) := PA_imp (pa_cons he hr hs) fun σ H Q h => by
  obtain ⟨I, β, ρ, μ, s, e, h⟩ := h
  refine ⟨I, β, ρ, μ, s, e, Res.bind h fun v μ1 I1 β1 H1 w q x1 s1 r1 h1 => ?_⟩
  refine ⟨I1, β1, ρ, μ1, s1, e.ext x1, Res.bind h1 fun vs μ2 I2 β2 H2 ws q2 x2 s2 r2 h2 => ?_⟩
  exact Res.here s2 h2 (.cons (r1.mono x2.imm x2.bet x2.len) r2)
def dats : List Val → Option (List D)
  | [] => some []
  | .d x :: r => match dats r with
    | some xs => some (x :: xs)
    | none => none
  | _ :: _ => none
theorem dats_rp {K : PySem.W.Frag} {I : Hp} {β : Nat → Addr} {n : Nat} : ∀ {vs : List Val} {ws : List V} {xs : List D}, RVs C K I β n vs ws → dats vs = some xs → RpAll K I ws xs
  | [], _, _, .nil, e => by cases e; exact .nil
  | .d x :: r, _, _, .cons h t, e => by
    unfold dats at e
    cases q : dats r with
    | none => rw [q] at e; cases e
    | some xs =>
      rw [q] at e
      cases e
      exact .cons h (dats_rp t q)
  | .loc _ :: _, _, _, _, e => by cases e
  | .exn :: _, _, _, _, e => by cases e
def lim (n : Nat) : Bool := decide (n ≤ 100000)
theorem lim_size {n : Nat} (h : lim n = true) : n ≤ sizeLine := Nat.le_trans (of_decide_eq_true h) (by decide)
def cTup (f : Cd (List Val)) : Cd Val := fun ρ μ => (f ρ μ).bind fun vs μ1 => match dats vs with
  | some xs => if lim xs.length = true then .ok (.d (.tuple xs)) μ1 else .stuck
  | none => .stuck
def cLst (f : Cd (List Val)) : Cd Val := fun ρ μ => (f ρ μ).bind fun vs μ1 => match dats vs with
  | some xs => if lim xs.length = true then .ok (.d (.list xs)) μ1 else .stuck
  | none => .stuck
theorem se_tup {es : List Expr} {x1} {f : Cd (List Val)} (h : SA C X W f es) : SE C X W (cTup f) (.Tuple es x1 pos) := PE_imp (pe_tup h) fun σ H Q h => by
  obtain ⟨I, β, ρ, μ, s, e, h⟩ := h
  refine ⟨I, β, ρ, μ, s, e, Res.bind h fun vs μ1 I1 β1 H1 ws q x1 s1 r1 h1 => ?_⟩
  split at h1
  · rename_i xs hx
    split at h1
    · rename_i hl
      have rr := dats_rp r1 hx
      have d := Done.of s1 h1
      exact ⟨by rw [rr.length]; exact lim_size hl, d.tup s1.imm rr⟩
    · exact h1.elim
  · exact h1.elim
theorem se_lst {es : List Expr} {f : Cd (List Val)} (h : SA C X W f es) : SE C X W (cLst f) (.List es pos) := PE_imp (pe_lst h) fun σ H Q h => by
  obtain ⟨I, β, ρ, μ, s, e, h⟩ := h
  refine ⟨I, β, ρ, μ, s, e, Res.bind h fun vs μ1 I1 β1 H1 ws q x1 s1 r1 h1 => ?_⟩
  split at h1
  · rename_i xs hx
    split at h1
    · rename_i hl
      have rr := dats_rp r1 hx
      have d := Done.of s1 h1
      exact ⟨by rw [rr.length]; exact lim_size hl, d.lst s1.imm rr⟩
    · exact h1.elim
  · exact h1.elim
/-! two operands, read -/
def p2 (op : D → D → Option D) (a b : Val) (μ : Sto) : R Val := match rd a μ, rd b μ with
  | some x, some y => match op x y with
    | some z => .ok (.d z) μ
    | none => .stuck
  | _, _ => .stuck
def cOp (op : D → D → Option D) (f g : Cd Val) : Cd Val := fun ρ μ => (f ρ μ).bind fun a μ1 => (g ρ μ1).bind fun b μ2 => p2 op a b μ2
/-- r serves op -/
def Ser (K : PySem.W.Frag) (r : R2) (op : D → D → Option D) : Prop := ∀ (I H : Hp) (v u : V) (x y z : D) (Q : VK), Sub I H → RO K I H v x → RO K I H u y → op x y = some z → Done K I H z Q → r v u H Q
theorem Ser.go {K : PySem.W.Frag} {r : R2} {op : D → D → Option D} (h : Ser K r op) {σ : L2.St} {I H : Hp} {β : Nat → Addr} {μ : Sto} {a b : Val} {v u : V} {Q : VK} (s : SR K I β μ H) (ra : RV C K I β μ.length a v) (rb : RV C K I β μ.length b u)
    (q : Res C K W σ I β μ H (RV C K) Q (p2 op a b μ)) : r v u H Q := by
  unfold p2 at q
  split at q
  · rename_i x y hx hy
    split at q
    · rename_i z hz
      exact h I H v u x y z Q s.imm (ra.rd s hx) (rb.rd s hy) hz (Done.of s q)
    · exact q.elim
  · exact q.elim
theorem op_imp {r : R2} {op : D → D → Option D} {f g : Cd Val} (hs : Ser X.K r op) {σ : L2.St} {H : Hp} {Q : VK} (h : tE C X.K W (cOp op f g) σ H Q) : tOp r (tE C X.K W f) (tE C X.K W g) σ H Q := by
  obtain ⟨I, β, ρ, μ, s, e, h⟩ := h
  refine ⟨I, β, ρ, μ, s, e, Res.bind h fun a μ1 I1 β1 H1 v q x1 s1 r1 h1 => ?_⟩
  refine ⟨I1, β1, ρ, μ1, s1, e.ext x1, Res.bind h1 fun b μ2 I2 β2 H2 u q2 x2 s2 r2 h2 => ?_⟩
  exact hs.go s2 (r1.mono x2.imm x2.bet x2.len) r2 h2
theorem se_op {op : Operator} {r : R2} {o : D → D → Option D} {a b : Expr} {f g : Cd Val} (ho : OpR X (binaryOp op) r) (hs : Ser X.K r o) (ha : SE C X W f a) (hb : SE C X W g b) : SE C X W (cOp o f g) (.BinOp a op b pos) :=
  PE_imp (pe_op ho ha hb) fun σ H Q h => op_imp hs h
theorem se_cmp {op : CmpOp} {r : R2} {o : D → D → Option D} {a b : Expr} {f g : Cd Val} (ho : OpR X (compareOp op) r) (hs : Ser X.K r o) (ha : SE C X W f a) (hb : SE C X W g b) (hm : behindInMarks op b = false) : SE C X W (cOp o f g) (.Compare a [op] [b] pos) :=
  PE_imp (pe_cmpR ho ha hb hm) fun σ H Q h => op_imp hs h
/-! tests -/
def tr (v : Val) (μ : Sto) : R Bool := match rd v μ with
  | some (.bool b) => .ok b μ
  | _ => .stuck
/-- a value that is a bool, as a test -/
def cTr (f : Cd Val) : Cd Bool := fun ρ μ => (f ρ μ).bind tr
theorem tr_imp {f : Cd Val} {σ : L2.St} {H : Hp} {Q : Bool → Hp → Prop} (h : tT C X.K W (cTr f) σ H Q) : tE C X.K W f σ H fun x H' => ∃ k, x = .bl k ∧ Q k H' := by
  obtain ⟨I, β, ρ, μ, s, e, h⟩ := h
  refine ⟨I, β, ρ, μ, s, e, Res.bind h fun a μ1 I1 β1 H1 v q x1 s1 r1 h1 => ?_⟩
  unfold tr at h1
  split at h1
  · rename_i b hb
    exact ⟨b, (r1.rd s1 hb).of_bool, Res.here s1 h1 rfl⟩
  · exact h1.elim
theorem st_cmp {op : CmpOp} {r : R2} {o : D → D → Option D} {a b : Expr} {f g : Cd Val} (ho : OpR X (compareOp op) r) (hs : Ser X.K r o) (ha : SE C X W f a) (hb : SE C X W g b) (hm : behindInMarks op b = false) : ST C X W (cTr (cOp o f g)) (.Compare a [op] [b] pos) :=
  PT_imp (pt_cmpR ho ha hb hm) fun σ H Q h => by
    have h' := tr_imp (X := X) h
    exact op_imp hs h'
theorem st_val {e : Expr} {f : Cd Val} (h : SE C X W f e) (he : ∀ whole, isTrue e X.env whole = (do let v ← whole; standAt e.pos; holding [v] (truthy v)) := by intro _; rfl) : ST C X W (cTr f) e :=
  PT_imp (pt_val h he) fun σ H Q h => tr_imp (X := X) h
end
end FW


set_option Elab.async false
set_option linter.all false
set_option maxRecDepth 100000
namespace FW
open PySem PySem.Spec PyProof.Rows L2

/-! ### operators on data -/
def dAdd : D → D → Option D
  | .int i, .int j => some (.int (i + j))
  | .tuple xs, .tuple ys => if lim (xs.length + ys.length) = true then some (.tuple (xs ++ ys)) else none
  | .list xs, .list ys => if lim (xs.length + ys.length) = true then some (.list (xs ++ ys)) else none
  | _, _ => none
def dSub : D → D → Option D
  | .int i, .int j => some (.int (i - j))
  | _, _ => none
def mulOk (i j : Int) : Bool := decide (-(2 ^ 64) < i ∧ i < 2 ^ 64) || decide (-(2 ^ 64) < j ∧ j < 2 ^ 64)
def dMul : D → D → Option D
  | .int i, .int j => if mulOk i j = true then some (.int (i * j)) else none
  | _, _ => none
def divOk (j : Int) : Bool := decide (0 < j ∧ j < 2 ^ 4000)
def dDiv : D → D → Option D
  | .int i, .int j => if divOk j = true then some (.int (i / j)) else none
  | _, _ => none
def dMod : D → D → Option D
  | .int i, .int j => if decide (0 < j) = true then some (.int (i % j)) else none
  | _, _ => none
def dPow : D → D → Option D
  | .int i, .int j => if decide (0 ≤ j ∧ j ≤ 1000 ∧ -1000 ≤ i ∧ i ≤ 1000) = true then some (.int (i ^ j.toNat)) else none
  | _, _ => none
def dLt : D → D → Option D
  | .int i, .int j => some (.bool (decide (i < j)))
  | _, _ => none
def dLe : D → D → Option D
  | .int i, .int j => some (.bool (decide (i ≤ j)))
  | _, _ => none
def dGt : D → D → Option D
  | .int i, .int j => some (.bool (decide (j < i)))
  | _, _ => none
/-- >= of two tuples of ints -/
def ints? : List D → Option (List Int)
  | [] => some []
  | .int i :: r => match ints? r with
    | some l => some (i :: l)
    | none => none
  | _ :: _ => none
def geI : List Int → List Int → Bool
  | _, [] => true
  | [], _ :: _ => false
  | x :: xs, y :: ys => if x = y then geI xs ys else decide (x ≥ y)
def dGe : D → D → Option D
  | .int i, .int j => some (.bool (decide (j ≤ i)))
  | .tuple xs, .tuple ys => match ints? xs, ints? ys with
    | some a, some b => some (.bool (geI a b))
    | _, _ => none
  | _, _ => none
def shal (x y : D) : Bool := decide (min x.depth y.depth ≤ 64)
def dEq (x y : D) : Option D := if shal x y = true then some (.bool (PyData.eqv x y)) else none
def dNe (x y : D) : Option D := if shal x y = true then some (.bool (!PyData.eqv x y)) else none
def inOk (x : D) (ds : List D) : Bool := decide (min (PyData.depthAll ds) x.depth ≤ 64)
def dIn (x y : D) : Option D := match y with
  | .list ds => if inOk x ds = true then some (.bool (ds.any fun z => PyData.eqv z x)) else none
  | .tuple ds => if inOk x ds = true then some (.bool (ds.any fun z => PyData.eqv z x)) else none
  | _ => none
def dNotIn (x y : D) : Option D := match y with
  | .list ds => if inOk x ds = true then some (.bool (!ds.any fun z => PyData.eqv z x)) else none
  | .tuple ds => if inOk x ds = true then some (.bool (!ds.any fun z => PyData.eqv z x)) else none
  | _ => none
def isNone : D → Bool
  | .none => true
  | _ => false
def dIs (x y : D) : Option D := match x, y with
  | x, .none => some (.bool (isNone x))
  | .bool a, .bool b => some (.bool (decide (a = b)))
  | _, _ => none
def dIsNot (x y : D) : Option D := match x, y with
  | x, .none => some (.bool (!isNone x))
  | .bool a, .bool b => some (.bool (!decide (a = b)))
  | _, _ => none
/-- the item at an index of any sign -/
def dIx : D → D → Option D
  | .list xs, .int i => atI xs i
  | .tuple xs, .int i => atI xs i
  | _, _ => none

section
variable {X : Cx}
/-! list + list, of any two lists that are read -/
def rCatS (K : PySem.W.Frag) : R2 := fun x y H Q => ∃ l b xs zs, x = .ref l ∧ y = .ref b ∧ SqL K H l xs ∧ SqL K H b zs ∧ xs.length + zs.length ≤ sizeLine ∧ ∀ p, H p = none → Q (.ref p) (upd H p (.lst (xs ++ zs)))
theorem op_catS : OpR X (binaryOp .Add) (rCatS X.K) := by
  intro pins s σ H x y v u Q I rx ry h
  obtain ⟨l, b, xs, zs, rfl, rfl, hH, hB, hz, q⟩ := h
  cases rx
  cases ry
  obtain ⟨its, r, ⟨o, n, e, c1, c2, c3⟩, z⟩ := I.list hH
  obtain ⟨its2, r2, ⟨o2, n2, e2, d1, d2, d3⟩, z2⟩ := I.list hB
  have l1 := r.length
  have l2 := r2.length
  obtain ⟨cls, dd, data, sl⟩ := o
  obtain ⟨cls2, dd2, data2, sl2⟩ := o2
  dsimp only at c1 c2 c3 d1 d2 d3
  subst c1; subst c2; subst c3; subst d1; subst d2; subst d3
  refine concat_meets ⟨_, e, rfl⟩ ⟨_, e2, rfl⟩ noFill_list_add seq_list_add PySem.F.slot_list_add PySem.F.entry_list_add (PySem.F.args_list_add_2 _ _) (list_addW l b its.toArray its2.toArray n n2 none none sl sl2 (by rw [List.size_toArray, List.size_toArray]; omega)) ⟨e, e2, ?_⟩
  have ea : its.toArray ++ its2.toArray = (its ++ its2).toArray := by simp
  rw [ea]
  exact ⟨.ref _, _, I.lnew (t' := s.toks) (r.append r2) (by rw [List.length_append]; omega), rfl, q _ I.fresh⟩

/-! the rules serve the operators -/
variable {K : PySem.W.Frag}
theorem ser_add : Ser K (fun x y H Q => rI0 (fun i j => .int (i + j)) x y H Q ∨ (rCatA K x y H Q ∨ rCatS K x y H Q)) dAdd := by
  intro I H v u x y z Q s hx hy hz d
  unfold dAdd at hz
  split at hz
  · cases hz
    exact .inl ⟨_, _, hx.of_int, hy.of_int, d.1 _ Rp.int⟩
  · rename_i xs ys
    split at hz
    · rename_i hl
      cases hz
      obtain ⟨a, vs, rfl, h1, t1⟩ := hx.of_tup
      obtain ⟨b, us, rfl, h2, t2⟩ := hy.of_tup
      have e1 := t1.length
      have e2 := t2.length
      refine .inr (.inl ⟨a, b, vs, us, rfl, rfl, s.seqT h1, s.seqT h2, by rw [e1, e2]; exact lim_size hl, fun e => ?_, fun n e => ?_, fun n1 n2 => d.tup s (t1.app t2)⟩)
      · subst e
        have : xs = [] := List.eq_nil_of_length_eq_zero (by simpa using e1.symm)
        subst this
        exact d.1 _ (.tup h2 t2)
      · subst e
        have : ys = [] := List.eq_nil_of_length_eq_zero (by simpa using e2.symm)
        subst this
        exact d.1 _ (by rw [List.append_nil]; exact .tup h1 t1)
    · cases hz
  · rename_i xs ys
    split at hz
    · rename_i hl
      cases hz
      obtain ⟨a, vs, rfl, h1, t1⟩ := hx.of_list s
      obtain ⟨b, us, rfl, h2, t2⟩ := hy.of_list s
      exact .inr (.inr ⟨a, b, vs, us, rfl, rfl, h1, h2, by rw [t1.length, t2.length]; exact lim_size hl, d.lst s (t1.app t2)⟩)
    · cases hz
  · cases hz
theorem op_addA : OpR X (binaryOp .Add) (fun x y H Q => rI0 (fun i j => .int (i + j)) x y H Q ∨ (rCatA X.K x y H Q ∨ rCatS X.K x y H Q)) := OpR.or op_add (OpR.or op_catA op_catS)
theorem ser_sub : Ser K (rI0 fun i j => .int (i - j)) dSub := by
  intro I H v u x y z Q s hx hy hz d
  unfold dSub at hz
  split at hz
  · cases hz
    exact ⟨_, _, hx.of_int, hy.of_int, d.1 _ Rp.int⟩
  · cases hz
theorem ser_mul : Ser K (rI CMul fun i j => .int (i * j)) dMul := by
  intro I H v u x y z Q s hx hy hz d
  unfold dMul at hz
  split at hz
  · split at hz
    · rename_i hl
      cases hz
      refine ⟨_, _, hx.of_int, hy.of_int, ?_, d.1 _ Rp.int⟩
      unfold mulOk at hl
      rcases Bool.or_eq_true_iff.mp hl with h | h
      · exact .inl (of_decide_eq_true h)
      · exact .inr (of_decide_eq_true h)
    · cases hz
  · cases hz
theorem divOk_W {i j : Int} (h : divOk j = true) : CDivW i j := by
  have h := of_decide_eq_true h
  refine wide_div (b := 4000) h.1 ?_ (by decide) (by decide)
  have := h.2
  omega
theorem ser_div : Ser K (rI CDivW fun i j => .int (i / j)) dDiv := by
  intro I H v u x y z Q s hx hy hz d
  unfold dDiv at hz
  split at hz
  · split at hz
    · rename_i hl
      cases hz
      exact ⟨_, _, hx.of_int, hy.of_int, divOk_W hl, d.1 _ Rp.int⟩
    · cases hz
  · cases hz
theorem ser_mod : Ser K (rI (fun _ j => 0 < j) fun i j => .int (i % j)) dMod := by
  intro I H v u x y z Q s hx hy hz d
  unfold dMod at hz
  split at hz
  · split at hz
    · rename_i hl
      cases hz
      exact ⟨_, _, hx.of_int, hy.of_int, of_decide_eq_true hl, d.1 _ Rp.int⟩
    · cases hz
  · cases hz
theorem ser_pow : Ser K (rI CPow fun i j => .int (i ^ j.toNat)) dPow := by
  intro I H v u x y z Q s hx hy hz d
  unfold dPow at hz
  split at hz
  · split at hz
    · rename_i hl
      cases hz
      have hl := of_decide_eq_true hl
      exact ⟨_, _, hx.of_int, hy.of_int, ⟨hl.1, by omega, by omega⟩, d.1 _ Rp.int⟩
    · cases hz
  · cases hz
theorem ser_lt : Ser K (rI0 fun i j => .bl (decide (i < j))) dLt := by
  intro I H v u x y z Q s hx hy hz d
  unfold dLt at hz
  split at hz
  · cases hz
    exact ⟨_, _, hx.of_int, hy.of_int, d.1 _ Rp.bool⟩
  · cases hz
theorem ser_le : Ser K (rI0 fun i j => .bl (decide (i ≤ j))) dLe := by
  intro I H v u x y z Q s hx hy hz d
  unfold dLe at hz
  split at hz
  · cases hz
    exact ⟨_, _, hx.of_int, hy.of_int, d.1 _ Rp.bool⟩
  · cases hz
theorem ser_gt : Ser K (rI0 fun i j => .bl (decide (j < i))) dGt := by
  intro I H v u x y z Q s hx hy hz d
  unfold dGt at hz
  split at hz
  · cases hz
    exact ⟨_, _, hx.of_int, hy.of_int, d.1 _ Rp.bool⟩
  · cases hz
/-! == and in, of data of any depth -/
def rEq2 (K : PySem.W.Frag) : R2 := fun x y H Q => ∃ d e, Rp K H x d ∧ Rp K H y e ∧ shal d e = true ∧ Q (.bl (PyData.eqv d e)) H
def rNe2 (K : PySem.W.Frag) : R2 := fun x y H Q => ∃ d e, Rp K H x d ∧ Rp K H y e ∧ shal d e = true ∧ Q (.bl (!PyData.eqv d e)) H
theorem op_eq2 (hu : X.A.units + 64 < cLine) : OpR X (compareOp .Eq) (rEq2 X.K) := by
  intro pins s σ H x y v u Q I rx ry h
  obtain ⟨d, e, hd, he, sh, q⟩ := h
  obtain ⟨as, r1⟩ := Dp.reads I d x v hd.dp rx
  obtain ⟨bs, r2⟩ := Dp.reads I e y u he.dp ry
  have sh := of_decide_eq_true sh
  exact SeqAt.compareEq_reads r1 r2 hd.lay he.lay (by omega) ⟨.bl _, H, I, rfl, q⟩
theorem op_ne2 (hu : X.A.units + 64 < cLine) : OpR X (compareOp .NotEq) (rNe2 X.K) := by
  intro pins s σ H x y v u Q I rx ry h
  obtain ⟨d, e, hd, he, sh, q⟩ := h
  obtain ⟨as, r1⟩ := Dp.reads I d x v hd.dp rx
  obtain ⟨bs, r2⟩ := Dp.reads I e y u he.dp ry
  have sh := of_decide_eq_true sh
  exact SeqAt.compareNe_reads r1 r2 hd.lay he.lay (by omega) ⟨.bl _, H, I, rfl, q⟩
theorem ser_eq : Ser K (rEq2 K) dEq := by
  intro I H v u x y z Q s hx hy hz d
  unfold dEq at hz
  split at hz
  · rename_i hl
    cases hz
    exact ⟨_, _, hx.inH s, hy.inH s, hl, d.1 _ Rp.bool⟩
  · cases hz
theorem ser_ne : Ser K (rNe2 K) dNe := by
  intro I H v u x y z Q s hx hy hz d
  unfold dNe at hz
  split at hz
  · rename_i hl
    cases hz
    exact ⟨_, _, hx.inH s, hy.inH s, hl, d.1 _ Rp.bool⟩
  · cases hz
/-! an index -/
theorem atI_rp {I : Hp} {vs : List V} {ds : List D} {i : Int} {x : D} (h : RpAll K I vs ds) (e : atI ds i = some x) : ∃ v, atI vs i = some v ∧ Rp K I v x := by
  unfold atI at e ⊢
  rw [h.length]
  cases q : ixN ds.length i with
  | none => rw [q] at e; cases e
  | some j =>
    rw [q] at e
    exact h.get e
theorem ser_ix : Ser K (rIx K) dIx := by
  intro I H v u x y z Q s hx hy hz d
  unfold dIx at hz
  split at hz
  · obtain ⟨a, vs, rfl, h1, t1⟩ := hx.of_list s
    obtain ⟨w, hw, rw'⟩ := atI_rp t1 hz
    exact .inl ⟨a, vs, _, w, rfl, hy.of_int, h1, hw, d.1 _ rw'⟩
  · obtain ⟨a, vs, rfl, h1, t1⟩ := hx.of_tup
    obtain ⟨w, hw, rw'⟩ := atI_rp t1 hz
    exact .inr (.inl ⟨a, vs, _, w, rfl, hy.of_int, s.seqT h1, hw, d.1 _ rw'⟩)
  · cases hz
end
end FW


set_option Elab.async false
set_option linter.all false
set_option maxRecDepth 100000
set_option maxHeartbeats 4000000
namespace FW
open PySem PySem.Spec PyProof.Rows L2

/-! ### tuple * int for any small int -/
theorem tuple_mul1 (l : Addr) (items : Array Value) (n : Nat) (dd : Option Addr) (sl : Array (Option Value)) (x : Int) (u : Tok) (c0 : (decide (x < -(2 ^ 63)) || decide (x ≥ 2 ^ 63)) = false) (c1 : (items.isEmpty || x == 1) = true) :
    Meets (Builtin.«tuple.__mul__» ⟨[.ref l, .int x u], []⟩) (fun _ R s => s.heap.get? l = some { cls := .type "tuple", dict := dd, data := .seq items n, slots := sl } ∧ R (.ok (.ret (Value.ref l))) s) :=
  .of_wp fun prog w A R s h => by
    obtain ⟨hp, g, d, tk, os⟩ := s
    obtain ⟨hl, h⟩ := h
    have f1 := AutoSeq1.idx_int
    wp_walk using wpAny_loadPart' hl
    repeat (first
      | (refine wpAny_ite_false (decide_eq_false (by rw [c0]; exact Bool.false_ne_true)) ?_; wp_walk using wpAny_loadPart' hl)
      | (refine wpAny_ite_true (decide_eq_true c1) ?_; wp_walk using wpAny_loadPart' hl))
    exact ⟨_, rfl, h⟩
theorem tuple_mul0 (l : Addr) (items : Array Value) (n : Nat) (dd : Option Addr) (sl : Array (Option Value)) (x : Int) (u : Tok) (c0 : (decide (x < -(2 ^ 63)) || decide (x ≥ 2 ^ 63)) = false) (c1 : (items.isEmpty || x == 1) = false) (c2 : (decide (x ≤ 0) || items.isEmpty) = true) :
    Meets (Builtin.«tuple.__mul__» ⟨[.ref l, .int x u], []⟩) (fun _ R s => s.heap.get? l = some { cls := .type "tuple", dict := dd, data := .seq items n, slots := sl } ∧
      R (.ok (.ret (Value.ref s.heap.objs.size))) { s with heap := s.heap.push { cls := Value.type "tuple", data := Data.seq #[] }, toks := s.toks }) :=
  .of_wp fun prog w A R s h => by
    obtain ⟨hp, g, d, tk, os⟩ := s
    obtain ⟨hl, h⟩ := h
    have f1 := AutoSeq1.idx_int
    wp_walk using wpAny_loadPart' hl
    repeat (first
      | (refine wpAny_ite_false (decide_eq_false (by rw [c0]; exact Bool.false_ne_true)) ?_; wp_walk using wpAny_loadPart' hl)
      | (refine wpAny_ite_false (decide_eq_false (by rw [c1]; exact Bool.false_ne_true)) ?_; wp_walk using wpAny_loadPart' hl)
      | (refine wpAny_ite_true (decide_eq_true c2) ?_; wp_walk using wpAny_loadPart' hl))
    exact ⟨_, rfl, h⟩
def rRepA (K : PySem.W.Frag) : R2 := fun x y H Q => ∃ l k xs, x = .ref l ∧ y = .int k ∧ SqT K H l xs ∧ -1000 ≤ k ∧ k ≤ 1000 ∧ xs.length ≤ 1000 ∧
  ((xs = [] ∨ k = 1) → Q (.ref l) H) ∧ (xs ≠ [] → k ≤ 0 → ∀ p, H p = none → Q (.ref p) (upd H p (.tup []))) ∧
  (xs ≠ [] → 2 ≤ k → ∀ p, H p = none → Q (.ref p) (upd H p (.tup (List.replicate k.toNat xs).flatten)))
section
variable {X : Cx}
theorem op_repA : OpR X (binaryOp .Mult) (rRepA X.K) := by
  intro pins s σ H x y v u Q I rx ry h
  obtain ⟨l, k, xs, rfl, rfl, hT, h1, h2, hz, q1, q2, q3⟩ := h
  by_cases hbig : xs ≠ [] ∧ 2 ≤ k
  · exact op_repT pins s σ H _ _ v u Q I rx ry ⟨l, k, xs, rfl, rfl, hT, hbig.1, hbig.2, h2, hz, q3 hbig.1 hbig.2⟩
  cases rx
  obtain ⟨t, rfl⟩ := ry
  obtain ⟨its, r, ⟨⟨cls, dd, data, sl⟩, ho, hc, n, hd⟩, hs⟩ := I.tuple hT
  simp only at hc hd
  subst hc hd
  have hle : its.length = xs.length := r.length.symm
  have c0 : (decide (k < -(2 ^ 63)) || decide (k ≥ 2 ^ 63)) = false := by
    rw [decide_eq_false (by omega), decide_eq_false (by omega)] <;> rfl
  by_cases hsame : xs = [] ∨ k = 1
  · have c1 : (its.toArray.isEmpty || k == 1) = true := by
      rcases hsame with e | e
      · subst e
        have : its = [] := List.eq_nil_of_length_eq_zero (by simpa using hle)
        subst this
        rfl
      · subst e
        rw [Bool.or_eq_true]
        exact .inr rfl
    refine wpAny_binaryOp_repeat_ref (T := "tuple") (U := "int") (by decide) ⟨_, ho, rfl⟩ (fun s' => typeIs_int s' k t) noFill_tuple_mul PySem.F.fills_int_mul PySem.F.slot_int_rmul repeat_tuple PySem.F.slot_int_index.lookup
      (call_meets PySem.F.slot_int_rmul (typeIs_int s k t) PySem.F.entry_int_rmul (PySem.F.args_int_rmul_2 _ _) (int_rmul_tuple k t l its.toArray n dd sl)
        ⟨ho, rfl, ⟨_, ho, rfl⟩, call_meets PySem.F.slot_tuple_mul ⟨_, ho, rfl⟩ PySem.F.entry_tuple_mul (PySem.F.args_tuple_mul_2 _ _) (tuple_mul1 l its.toArray n dd sl k t c0 c1) ⟨ho, ?_⟩⟩)
    exact ⟨.ref l, H, I, rfl, q1 hsame⟩
  · have hne : xs ≠ [] := fun e => hsame (.inl e)
    have hk1 : k ≠ 1 := fun e => hsame (.inr e)
    have hk : k ≤ 0 := by
      by_cases z : 2 ≤ k
      · exact (hbig ⟨hne, z⟩).elim
      · omega
    have hn : its ≠ [] := fun e => hne (by
      rw [e] at hle
      exact List.eq_nil_of_length_eq_zero hle.symm)
    have hi : its.toArray.isEmpty = false := by
      cases its with
      | nil => exact absurd rfl hn
      | cons a b => rfl
    have c1 : (its.toArray.isEmpty || k == 1) = false := by
      rw [hi, Bool.false_or]
      exact beq_eq_false_iff_ne.mpr hk1
    have c2 : (decide (k ≤ 0) || its.toArray.isEmpty) = true := by
      rw [hi, Bool.or_false]
      exact decide_eq_true hk
    refine wpAny_binaryOp_repeat_ref (T := "tuple") (U := "int") (by decide) ⟨_, ho, rfl⟩ (fun s' => typeIs_int s' k t) noFill_tuple_mul PySem.F.fills_int_mul PySem.F.slot_int_rmul repeat_tuple PySem.F.slot_int_index.lookup
      (call_meets PySem.F.slot_int_rmul (typeIs_int s k t) PySem.F.entry_int_rmul (PySem.F.args_int_rmul_2 _ _) (int_rmul_tuple k t l its.toArray n dd sl)
        ⟨ho, rfl, ⟨_, ho, rfl⟩, call_meets PySem.F.slot_tuple_mul ⟨_, ho, rfl⟩ PySem.F.entry_tuple_mul (PySem.F.args_tuple_mul_2 _ _) (tuple_mul0 l its.toArray n dd sl k t c0 c1 c2) ⟨ho, ?_⟩⟩)
    refine ⟨.ref s.heap.objs.size, _, I.laid (t' := s.toks) (o := .tup []) (fun b ob q => Heap.get?_push_of_some _ q) (Nat.le_refl _) ?_, rfl, q2 hne hk _ (I.hok.fresh (Nat.le_refl _))⟩
    exact ⟨by decide, [], .nil, IsTup.new _ _⟩
end
/-- a list or tuple display times an int -/
def reps (k : Int) (xs : List D) : List D := (List.replicate k.toNat xs).flatten
def dMulA : D → D → Option D
  | .int i, .int j => if mulOk i j = true then some (.int (i * j)) else none
  | .tuple xs, .int k => if decide (-1000 ≤ k ∧ k ≤ 1000 ∧ xs.length ≤ 1000) = true then some (.tuple (reps k xs)) else none
  | _, _ => none
theorem RpAll.rep {K : PySem.W.Frag} {I : Hp} {vs : List V} {ds : List D} (h : RpAll K I vs ds) : ∀ k : Nat, RpAll K I (List.replicate k vs).flatten (List.replicate k ds).flatten
  | 0 => .nil
  | k + 1 => by
    rw [List.replicate_succ, List.replicate_succ, List.flatten_cons, List.flatten_cons]
    exact h.app (h.rep k)
section
variable {X : Cx} {K : PySem.W.Frag}
theorem ser_mulA : Ser K (fun x y H Q => rI CMul (fun i j => .int (i * j)) x y H Q ∨ rRepA K x y H Q) dMulA := by
  intro I H v u x y z Q s hx hy hz d
  unfold dMulA at hz
  split at hz
  · split at hz
    · rename_i hl
      cases hz
      refine .inl ⟨_, _, hx.of_int, hy.of_int, ?_, d.1 _ Rp.int⟩
      unfold mulOk at hl
      rcases Bool.or_eq_true_iff.mp hl with h | h
      · exact .inl (of_decide_eq_true h)
      · exact .inr (of_decide_eq_true h)
    · cases hz
  · rename_i xs k
    split at hz
    · rename_i hl
      cases hz
      have hl := of_decide_eq_true hl
      obtain ⟨a, vs, rfl, h1, t1⟩ := hx.of_tup
      refine .inr ⟨a, k, vs, rfl, hy.of_int, s.seqT h1, hl.1, hl.2.1, by rw [t1.length]; exact hl.2.2, fun e => ?_, fun n hk p hp => ?_, fun n hk => d.tup s (t1.rep _)⟩
      · refine d.1 _ ?_
        rcases e with e | e
        · subst e
          have : xs = [] := List.eq_nil_of_length_eq_zero (by simpa using t1.length.symm)
          subst this
          have z : reps k [] = [] := by simp [reps]
          rw [z]
          exact .tup h1 t1
        · subst e
          have z : reps 1 xs = xs := by simp [reps]
          rw [z]
          exact .tup h1 t1
      · have z : reps k xs = [] := by
          have : k.toNat = 0 := by omega
          simp [reps, this]
        rw [z] at d
        exact d.tup s .nil p hp
    · cases hz
  · cases hz
theorem op_mulA : OpR X (binaryOp .Mult) (fun x y H Q => rI CMul (fun i j => .int (i * j)) x y H Q ∨ rRepA X.K x y H Q) := OpR.or op_mul op_repA
/-- a list (one that can be written) times an int -/
def dRepL : D → D → Option D
  | .list xs, .int k => if decide (-1000 ≤ k ∧ k ≤ 1000 ∧ xs.length ≤ 1000) = true then some (.list (reps k xs)) else none
  | _, _ => none
/-! in, not in -/
def rIn2 (K : PySem.W.Frag) (neg : Bool) : R2 := fun x y H Q => ∃ d ds, Rp K H x d ∧ (Rp K H y (.list ds) ∨ Rp K H y (.tuple ds)) ∧ decide (min (PyData.depthAll ds) d.depth ≤ 64) = true ∧ Q (.bl (if neg = true then !ds.any fun z => PyData.eqv z d else ds.any fun z => PyData.eqv z d)) H
theorem op_in2 (hu : X.A.units + 65 < cLine) : OpR X (compareOp .In) (rIn2 X.K false) := by
  intro pins s σ H x y v u Q I rx ry h
  obtain ⟨d, ds, hd, he, sh, q⟩ := h
  have sh := of_decide_eq_true sh
  obtain ⟨as, r1⟩ := Dp.reads I d x v hd.dp rx
  rcases he with he | he
  · obtain ⟨bs, r2⟩ := Dp.reads I (.list ds) y u he.dp ry
    exact SeqAt.in_list_reads r2 r1 (by simpa [PyData.canLay0] using he.lay) hd.lay (by omega) ⟨.bl _, H, I, rfl, q⟩
  · obtain ⟨bs, r2⟩ := Dp.reads I (.tuple ds) y u he.dp ry
    exact SeqAt.in_tuple_reads r2 r1 (by simpa [PyData.canLay0] using he.lay) hd.lay (by omega) ⟨.bl _, H, I, rfl, q⟩
theorem op_nin2 (hu : X.A.units + 65 < cLine) : OpR X (compareOp .NotIn) (rIn2 X.K true) := by
  intro pins s σ H x y v u Q I rx ry h
  obtain ⟨d, ds, hd, he, sh, q⟩ := h
  have sh := of_decide_eq_true sh
  obtain ⟨as, r1⟩ := Dp.reads I d x v hd.dp rx
  rcases he with he | he
  · obtain ⟨bs, r2⟩ := Dp.reads I (.list ds) y u he.dp ry
    exact SeqAt.notIn_list_reads r2 r1 (by simpa [PyData.canLay0] using he.lay) hd.lay (by omega) ⟨.bl _, H, I, rfl, q⟩
  · obtain ⟨bs, r2⟩ := Dp.reads I (.tuple ds) y u he.dp ry
    exact SeqAt.notIn_tuple_reads r2 r1 (by simpa [PyData.canLay0] using he.lay) hd.lay (by omega) ⟨.bl _, H, I, rfl, q⟩
end
end FW


set_option Elab.async false
set_option linter.all false
set_option maxRecDepth 100000
set_option maxHeartbeats 1000000
namespace FW
open PySem PySem.Spec PyProof.Rows L2
section
variable {C : Ctx} {X : Cx} {W : WX} {pos : Pos} {K : PySem.W.Frag}
theorem ser_in : Ser K (rIn2 K false) dIn := by
  intro I H v u x y z Q s hx hy hz d
  unfold dIn at hz
  split at hz
  · split at hz
    · rename_i hl
      cases hz
      exact ⟨_, _, hx.inH s, .inl (hy.inH s), hl, d.1 _ Rp.bool⟩
    · cases hz
  · split at hz
    · rename_i hl
      cases hz
      exact ⟨_, _, hx.inH s, .inr (hy.inH s), hl, d.1 _ Rp.bool⟩
    · cases hz
  · cases hz
theorem ser_nin : Ser K (rIn2 K true) dNotIn := by
  intro I H v u x y z Q s hx hy hz d
  unfold dNotIn at hz
  split at hz
  · split at hz
    · rename_i hl
      cases hz
      exact ⟨_, _, hx.inH s, .inl (hy.inH s), hl, d.1 _ Rp.bool⟩
    · cases hz
  · split at hz
    · rename_i hl
      cases hz
      exact ⟨_, _, hx.inH s, .inr (hy.inH s), hl, d.1 _ Rp.bool⟩
    · cases hz
  · cases hz
/-! is, is not -/
def rIs2 : R2 := fun x y H Q => (y = .non ∧ Q (.bl (decide (x = .non))) H) ∨ rIsB x y H Q
def rIsNot2 : R2 := fun x y H Q => (y = .non ∧ Q (.bl (!decide (x = .non))) H) ∨ rNotB x y H Q
theorem op_is2 : OpR X (compareOp .Is) rIs2 := OpR.or op_isN op_isBl
theorem op_isnot2 : OpR X (compareOp .IsNot) rIsNot2 := OpR.or op_notN op_notBl
theorem isNone_ro {I H : Hp} {v : V} {x : D} (h : RO K I H v x) : decide (v = .non) = isNone x := by
  cases h with
  | d h =>
    rcases h.ref with ⟨a, rfl⟩ | ⟨rfl, rfl⟩ | ⟨b, rfl, rfl⟩ | ⟨i, rfl, rfl⟩ | ⟨w, rfl, rfl⟩
    · have : x ≠ .none := fun e => by subst e; exact nomatch h.of_none
      cases x <;> first | rfl | exact (this rfl).elim
    all_goals rfl
  | lst _ _ => rfl
theorem ser_is : Ser K rIs2 dIs := by
  intro I H v u x y z Q s hx hy hz d
  unfold dIs at hz
  split at hz
  · cases hz
    exact .inl ⟨hy.of_none, by rw [isNone_ro hx]; exact d.1 _ Rp.bool⟩
  · cases hz
    exact .inr ⟨_, _, hx.of_bool, hy.of_bool, d.1 _ Rp.bool⟩
  · cases hz
theorem ser_isnot : Ser K rIsNot2 dIsNot := by
  intro I H v u x y z Q s hx hy hz d
  unfold dIsNot at hz
  split at hz
  · cases hz
    exact .inl ⟨hy.of_none, by rw [isNone_ro hx]; exact d.1 _ Rp.bool⟩
  · cases hz
    exact .inr ⟨_, _, hx.of_bool, hy.of_bool, d.1 _ Rp.bool⟩
  · cases hz
/-! one operand -/
def p1 (op : D → Option D) (a : Val) (μ : Sto) : R Val := match rd a μ with
  | some x => match op x with
    | some z => .ok (.d z) μ
    | none => .stuck
  | none => .stuck
def cUn (op : D → Option D) (f : Cd Val) : Cd Val := fun ρ μ => (f ρ μ).bind fun a μ1 => p1 op a μ1
def dNeg : D → Option D
  | .int i => some (.int (-i))
  | _ => none
theorem se_neg {a : Expr} {f : Cd Val} (ha : SE C X W f a) : SE C X W (cUn dNeg f) (.UnaryOp .USub a pos) := PE_imp (pe_un un_neg ha) fun σ H Q h => by
  obtain ⟨I, β, ρ, μ, s, e, h⟩ := h
  refine ⟨I, β, ρ, μ, s, e, Res.bind h fun a μ1 I1 β1 H1 v q x1 s1 r1 h1 => ?_⟩
  unfold p1 at h1
  split at h1
  · rename_i x hx
    unfold dNeg at h1
    split at h1
    · rename_i z hz
      split at hz
      · cases hz
        exact ⟨_, (r1.rd s1 hx).of_int, Res.here s1 h1 Rp.int⟩
      · cases hz
    · exact h1.elim
  · exact h1.elim
/-! and, or, not as values -/
def bo (v : Val) (μ : Sto) : Option Bool := match rd v μ with
  | some (.bool b) => some b
  | _ => none
theorem bo_rd {v : Val} {μ : Sto} {b : Bool} (h : bo v μ = some b) : rd v μ = some (.bool b) := by
  unfold bo at h
  split at h
  · rename_i e; cases h; exact e
  · cases h
def cAnd (f g : Cd Val) : Cd Val := fun ρ μ => (f ρ μ).bind fun a μ1 => match bo a μ1 with
  | some true => g ρ μ1
  | some false => .ok (.d (.bool false)) μ1
  | none => .stuck
def cOr (f g : Cd Val) : Cd Val := fun ρ μ => (f ρ μ).bind fun a μ1 => match bo a μ1 with
  | some false => g ρ μ1
  | some true => .ok (.d (.bool true)) μ1
  | none => .stuck
def cNot (f : Cd Val) : Cd Val := fun ρ μ => (f ρ μ).bind fun a μ1 => match bo a μ1 with
  | some b => .ok (.d (.bool (!b))) μ1
  | none => .stuck
theorem se_one {op} {a : Expr} {f : Cd Val} (h : SE C X W f a) : SE C X W f (.BoolOp op [a] pos) := pe_one h
theorem se_and {a b : Expr} {rest : List Expr} {f g : Cd Val} (ha : SE C X W f a) (hb : SE C X W g (.BoolOp .And (b :: rest) pos)) : SE C X W (cAnd f g) (.BoolOp .And (a :: b :: rest) pos) := PE_imp (pe_and ha hb) fun σ H Q h => by
  obtain ⟨I, β, ρ, μ, s, e, h⟩ := h
  refine ⟨I, β, ρ, μ, s, e, Res.bind h fun a μ1 I1 β1 H1 v q x1 s1 r1 h1 => ?_⟩
  split at h1
  · rename_i hb
    exact ⟨true, (r1.rd s1 (bo_rd hb)).of_bool, iteT ⟨I1, β1, ρ, μ1, s1, e.ext x1, h1⟩⟩
  · rename_i hb
    exact ⟨false, (r1.rd s1 (bo_rd hb)).of_bool, iteF (Res.here s1 h1 Rp.bool)⟩
  · exact h1.elim
theorem se_or {a b : Expr} {rest : List Expr} {f g : Cd Val} (ha : SE C X W f a) (hb : SE C X W g (.BoolOp .Or (b :: rest) pos)) : SE C X W (cOr f g) (.BoolOp .Or (a :: b :: rest) pos) := PE_imp (pe_or ha hb) fun σ H Q h => by
  obtain ⟨I, β, ρ, μ, s, e, h⟩ := h
  refine ⟨I, β, ρ, μ, s, e, Res.bind h fun a μ1 I1 β1 H1 v q x1 s1 r1 h1 => ?_⟩
  split at h1
  · rename_i hb
    exact ⟨false, (r1.rd s1 (bo_rd hb)).of_bool, iteF ⟨I1, β1, ρ, μ1, s1, e.ext x1, h1⟩⟩
  · rename_i hb
    exact ⟨true, (r1.rd s1 (bo_rd hb)).of_bool, iteT (Res.here s1 h1 Rp.bool)⟩
  · exact h1.elim
theorem se_not {a : Expr} {f : Cd Val} (ha : SE C X W f a) : SE C X W (cNot f) (.UnaryOp .Not a pos) := PE_imp (pe_not ha) fun σ H Q h => by
  obtain ⟨I, β, ρ, μ, s, e, h⟩ := h
  refine ⟨I, β, ρ, μ, s, e, Res.bind h fun a μ1 I1 β1 H1 v q x1 s1 r1 h1 => ?_⟩
  split at h1
  · rename_i b hb
    exact ⟨b, (r1.rd s1 (bo_rd hb)).of_bool, Res.here s1 h1 Rp.bool⟩
  · exact h1.elim
/-! tests -/
def SW (C : Ctx) (X : Cx) (W : WX) (f : Cd Bool) (e : Expr) : Prop := PW X e (tT C X.K W f)
theorem PW_imp {X : Cx} {e : Expr} {t t' : TT} (h : PW X e t) (k : ∀ σ H Q, t' σ H Q → t σ H Q) : PW X e t' := ⟨fun wh pins s σ H Q I q => h.run wh pins s σ H Q I (k σ H Q q)⟩
def tAndC (f g : Cd Bool) : Cd Bool := fun ρ μ => (f ρ μ).bind fun a μ1 => match a with
  | true => g ρ μ1
  | false => .ok false μ1
def tOrC (f g : Cd Bool) : Cd Bool := fun ρ μ => (f ρ μ).bind fun a μ1 => match a with
  | false => g ρ μ1
  | true => .ok true μ1
def tNotC (f : Cd Bool) : Cd Bool := fun ρ μ => (f ρ μ).bind fun a μ1 => .ok (!a) μ1
theorem sw_and1 {a : Expr} {f : Cd Bool} (h : ST C X W f a) : SW C X W f (.BoolOp .And [a] pos) := pw_and1 h
theorem sw_or1 {a : Expr} {f : Cd Bool} (h : ST C X W f a) : SW C X W f (.BoolOp .Or [a] pos) := pw_or1 h
theorem sw_and {a b : Expr} {rest : List Expr} {f g : Cd Bool} (ha : ST C X W f a) (hb : SW C X W g (.BoolOp .And (b :: rest) pos)) : SW C X W (tAndC f g) (.BoolOp .And (a :: b :: rest) pos) := PW_imp (pw_and ha hb) fun σ H Q h => by
  obtain ⟨I, β, ρ, μ, s, e, h⟩ := h
  refine ⟨I, β, ρ, μ, s, e, Res.bind h fun a μ1 I1 β1 H1 v q x1 s1 r1 h1 => ?_⟩
  cases r1
  split at h1
  · exact iteT ⟨I1, β1, ρ, μ1, s1, e.ext x1, h1⟩
  · exact iteF (Res.here s1 h1 rfl)
theorem sw_or {a b : Expr} {rest : List Expr} {f g : Cd Bool} (ha : ST C X W f a) (hb : SW C X W g (.BoolOp .Or (b :: rest) pos)) : SW C X W (tOrC f g) (.BoolOp .Or (a :: b :: rest) pos) := PW_imp (pw_or ha hb) fun σ H Q h => by
  obtain ⟨I, β, ρ, μ, s, e, h⟩ := h
  refine ⟨I, β, ρ, μ, s, e, Res.bind h fun a μ1 I1 β1 H1 v q x1 s1 r1 h1 => ?_⟩
  cases r1
  split at h1
  · exact iteF ⟨I1, β1, ρ, μ1, s1, e.ext x1, h1⟩
  · exact iteT (Res.here s1 h1 rfl)
theorem st_w {e : Expr} {f : Cd Bool} (h : SW C X W f e) : ST C X W f e := PW.pt h
theorem st_not {a : Expr} {f : Cd Bool} (h : ST C X W f a) : ST C X W (tNotC f) (.UnaryOp .Not a pos) := PT_imp (pt_not h) fun σ H Q h => by
  obtain ⟨I, β, ρ, μ, s, e, h⟩ := h
  refine ⟨I, β, ρ, μ, s, e, Res.bind h fun a μ1 I1 β1 H1 v q x1 s1 r1 h1 => ?_⟩
  cases r1
  exact Res.here s1 h1 rfl
/-- truth of any value -/
def truB : D → Option Bool
  | .none => some false
  | .bool b => some b
  | .int i => some (i != 0)
  | .list xs => some (!xs.isEmpty)
  | .tuple xs => some (!xs.isEmpty)
  | _ => none
def cTru (f : Cd Val) : Cd Bool := fun ρ μ => (f ρ μ).bind fun v μ1 => match rd v μ1 with
  | some x => match truB x with
    | some b => .ok b μ1
    | none => .stuck
  | none => .stuck
theorem isEmpty_len {α β : Type} {l : List α} {m : List β} (h : l.length = m.length) : l.isEmpty = m.isEmpty := by
  cases l <;> cases m <;> first | rfl | simp at h
theorem truV_of {I H : Hp} {v : V} {x : D} {b : Bool} (s : Sub I H) (h : RO K I H v x) (e : truB x = some b) : TruV K v H b := by
  cases x with
  | none => cases e; rw [h.of_none]; rfl
  | bool c => cases e; rw [h.of_bool]; rfl
  | int i => cases e; rw [h.of_int]; rfl
  | str _ => cases e
  | list xs =>
    cases e
    obtain ⟨a, ys, rfl, h1, t1⟩ := h.of_list s
    exact .inl ⟨ys, h1, by rw [isEmpty_len t1.length]⟩
  | tuple xs =>
    cases e
    obtain ⟨a, ys, rfl, h1, t1⟩ := h.of_tup
    exact .inr (.inl ⟨ys, s.seqT h1, by rw [isEmpty_len t1.length]⟩)
  | dict _ => cases e
theorem st_tru {e : Expr} {f : Cd Val} (h : SE C X W f e) (he : ∀ whole, isTrue e X.env whole = (do let v ← whole; standAt e.pos; holding [v] (truthy v)) := by intro _; rfl) : ST C X W (cTru f) e := PT_imp (pt_truth h he) fun σ H Q h => by
  obtain ⟨I, β, ρ, μ, s, e, h⟩ := h
  refine ⟨I, β, ρ, μ, s, e, Res.bind h fun a μ1 I1 β1 H1 v q x1 s1 r1 h1 => ?_⟩
  split at h1
  · rename_i x hx
    split at h1
    · rename_i b hb
      exact ⟨b, truV_of s1.imm (r1.rd s1 hx) hb, Res.here s1 h1 rfl⟩
    · exact h1.elim
  · exact h1.elim
/-! a if t else b -/
def cIf (t : Cd Bool) (f g : Cd Val) : Cd Val := fun ρ μ => (t ρ μ).bind fun c μ1 => match c with
  | true => f ρ μ1
  | false => g ρ μ1
theorem se_if {c a b : Expr} {t : Cd Bool} {f g : Cd Val} (hc : ST C X W t c) (ha : SE C X W f a) (hb : SE C X W g b) : SE C X W (cIf t f g) (.IfExp c a b pos) := PE_imp (pe_ifExp hc ha hb) fun σ H Q h => by
  obtain ⟨I, β, ρ, μ, s, e, h⟩ := h
  refine ⟨I, β, ρ, μ, s, e, Res.bind h fun a μ1 I1 β1 H1 v q x1 s1 r1 h1 => ?_⟩
  cases r1
  split at h1
  · exact iteT ⟨I1, β1, ρ, μ1, s1, e.ext x1, h1⟩
  · exact iteF ⟨I1, β1, ρ, μ1, s1, e.ext x1, h1⟩
/-! a op b op c -/
def cCh (o o' : D → D → Option D) (f g k : Cd Val) : Cd Val := fun ρ μ => (f ρ μ).bind fun a μ1 => (g ρ μ1).bind fun b μ2 => (p2 o a b μ2).bind fun z μ3 => match bo z μ3 with
  | some true => (k ρ μ3).bind fun c μ4 => p2 o' b c μ4
  | some false => .ok (.d (.bool false)) μ3
  | none => .stuck
theorem ch_imp {r r' : R2} {o o' : D → D → Option D} {f g k : Cd Val} (hs : Ser X.K r o) (hs' : Ser X.K r' o') {σ : L2.St} {H : Hp} {Q : VK} (h : tE C X.K W (cCh o o' f g k) σ H Q) : tChain r r' (tE C X.K W f) (tE C X.K W g) (tE C X.K W k) σ H Q := by
  obtain ⟨I, β, ρ, μ, s, e, h⟩ := h
  refine ⟨I, β, ρ, μ, s, e, Res.bind h fun a μ1 I1 β1 H1 v q x1 s1 r1 h1 => ?_⟩
  refine ⟨I1, β1, ρ, μ1, s1, e.ext x1, Res.bind h1 fun b μ2 I2 β2 H2 u q2 x2 s2 r2 h2 => ?_⟩
  have h3 : Res C X.K W σ I2 β2 μ2 H2 (RV C X.K) (fun z H3 => ∃ k', z = .bl k' ∧ (if k' = true then tE C X.K W k σ H3 fun w' H4 => r' u w' H4 Q else Q (.bl false) H3)) (p2 o a b μ2) := by
    refine Res.bind h2 fun z μ3 I3 β3 H3 w q3 x3 s3 r3 h3 => ?_
    split at h3
    · rename_i hb
      refine ⟨true, (r3.rd s3 (bo_rd hb)).of_bool, iteT ⟨I3, β3, ρ, μ3, s3, ((e.ext x1).ext x2).ext x3, Res.bind h3 fun c μ4 I4 β4 H4 w4 q4 x4 s4 r4 h4 => ?_⟩⟩
      exact hs'.go s4 ((r2.mono x3.imm x3.bet x3.len).mono x4.imm x4.bet x4.len) r4 h4
    · rename_i hb
      exact ⟨false, (r3.rd s3 (bo_rd hb)).of_bool, iteF (Res.here s3 h3 Rp.bool)⟩
    · exact h3.elim
  exact hs.go s2 (r1.mono x2.imm x2.bet x2.len) r2 h3
theorem se_ch {op op' : CmpOp} {r r' : R2} {o o' : D → D → Option D} {a b c : Expr} {f g k : Cd Val} (ho : OpR X (compareOp op) r) (hs : Ser X.K r o) (ho' : OpR X (compareOp op') r') (hs' : Ser X.K r' o') (ha : SE C X W f a) (hb : SE C X W g b) (hc : SE C X W k c)
    (hm : lastMarks [op, op'] [b, c] = false := by with_unfolding_all rfl) : SE C X W (cCh o o' f g k) (.Compare a [op, op'] [b, c] pos) := PE_imp (pe_chain ho ho' ha hb hc hm) fun σ H Q h => ch_imp hs hs' h
theorem st_ch {op op' : CmpOp} {r r' : R2} {o o' : D → D → Option D} {a b c : Expr} {f g k : Cd Val} (ho : OpR X (compareOp op) r) (hs : Ser X.K r o) (ho' : OpR X (compareOp op') r') (hs' : Ser X.K r' o') (ha : SE C X W f a) (hb : SE C X W g b) (hc : SE C X W k c)
    (hm : lastMarks [op, op'] [b, c] = false := by with_unfolding_all rfl) : ST C X W (cTr (cCh o o' f g k)) (.Compare a [op, op'] [b, c] pos) := PT_imp (pt_chain ho ho' ha hb hc hm) fun σ H Q h => by
  have h' := tr_imp (X := X) h
  exact ch_imp hs hs' h'
/-! a[b] -/
theorem se_ix {a b : Expr} {f g : Cd Val} (ha : SE C X W f a) (hb : SE C X W g b) (hs : PlainIx b := by exact fun _ _ => rfl) : SE C X W (cOp dIx f g) (.Subscript a b pos) := PE_imp (pe_ix ix_seq ha hb hs) fun σ H Q h => op_imp ser_ix h
/-! a[lo:hi] -/
def cNo : Cd (Option Int) := fun _ μ => .ok none μ
def cPart (f : Cd Val) : Cd (Option Int) := fun ρ μ => (f ρ μ).bind fun v μ1 => match rd v μ1 with
  | some (.int i) => .ok (some i) μ1
  | _ => .stuck
def rOpt : Rel (Option Int) (Option Int) := fun _ _ _ a b => a = b
def tO (C : Ctx) (K : PySem.W.Frag) (W : WX) (f : Cd (Option Int)) : TO := fun σ H Q => ∃ I β ρ μ, SR K I β μ H ∧ ER C K I β ρ μ σ ∧ Res C K W σ I β μ H rOpt Q (f ρ μ)
def SO (C : Ctx) (X : Cx) (W : WX) (f : Cd (Option Int)) (e : Option Expr) : Prop := PO X e (tO C X.K W f)
theorem PO_imp {X : Cx} {e : Option Expr} {t t' : TO} (h : PO X e t) (k : ∀ σ H Q, t' σ H Q → t σ H Q) : PO X e t' := ⟨fun pins s σ H Q I q => h.run pins s σ H Q I (k σ H Q q)⟩
theorem so_no : SO C X W cNo none := PO_imp po_none fun σ H Q h => by
  obtain ⟨I, β, ρ, μ, s, e, h⟩ := h
  exact Res.here s h rfl
theorem so_some {e : Expr} {f : Cd Val} (h : SE C X W f e) : SO C X W (cPart f) (some e) := PO_imp (po_some h) fun σ H Q h => by
  obtain ⟨I, β, ρ, μ, s, e, h⟩ := h
  refine ⟨I, β, ρ, μ, s, e, Res.bind h fun a μ1 I1 β1 H1 v q x1 s1 r1 h1 => ?_⟩
  split at h1
  · rename_i i hx
    exact ⟨i, (r1.rd s1 hx).of_int, Res.here s1 h1 rfl⟩
  · exact h1.elim
def cut (xs : List D) (lo hi : Option Int) : List D := (xs.drop (HT.sIx xs.length 0 lo)).take (HT.sIx xs.length xs.length hi - HT.sIx xs.length 0 lo)
def pSl (v : Val) (lo hi : Option Int) (μ : Sto) : R Val := match rd v μ with
  | some (.list xs) => .ok (.d (.list (cut xs lo hi))) μ
  | some (.tuple xs) => .ok (.d (.tuple (cut xs lo hi))) μ
  | _ => .stuck
def cSl (f : Cd Val) (l h : Cd (Option Int)) : Cd Val := fun ρ μ => (f ρ μ).bind fun v μ1 => (l ρ μ1).bind fun lo μ2 => (h ρ μ2).bind fun hi μ3 => pSl v lo hi μ3
theorem RpAll.drop {I : Hp} : ∀ {vs : List V} {ds : List D} (n : Nat), RpAll K I vs ds → RpAll K I (vs.drop n) (ds.drop n)
  | [], [], n, h => by simp; exact .nil
  | [], _ :: _, _, h => nomatch h.dp
  | _ :: _, [], _, h => nomatch h.dp
  | v :: vs, d :: ds, 0, h => h
  | v :: vs, d :: ds, n + 1, h => RpAll.drop n h.head.2
theorem RpAll.take {I : Hp} : ∀ {vs : List V} {ds : List D} (n : Nat), RpAll K I vs ds → RpAll K I (vs.take n) (ds.take n)
  | [], [], n, h => by simp; exact .nil
  | [], _ :: _, _, h => nomatch h.dp
  | _ :: _, [], _, h => nomatch h.dp
  | v :: vs, d :: ds, 0, h => .nil
  | v :: vs, d :: ds, n + 1, h => .cons h.head.1 (RpAll.take n h.head.2)
theorem RpAll.cut {I : Hp} {vs : List V} {ds : List D} (h : RpAll K I vs ds) (lo hi : Option Int) : RpAll K I (cutV vs lo hi) (cut ds lo hi) := by
  unfold cutV FW.cut
  rw [h.length]
  exact (h.drop _).take _
theorem cut_whole {xs : List D} {lo hi : Option Int} (h : HT.sIx xs.length 0 lo = 0 ∧ HT.sIx xs.length xs.length hi = xs.length) : cut xs lo hi = xs := by
  unfold FW.cut
  rw [h.1, h.2, List.drop_zero, Nat.sub_zero, List.take_length]
theorem se_sl {a : Expr} {lo hi : Option Expr} {f : Cd Val} {l h : Cd (Option Int)} {p2' : Pos} (ha : SE C X W f a) (hl : SO C X W l lo) (hh : SO C X W h hi) : SE C X W (cSl f l h) (.Subscript a (.Slice lo hi none p2') pos) :=
  PE_imp (pe_slice (SlR.or sl_list sl_tupA) ha hl hh) fun σ H Q h => by
  obtain ⟨I, β, ρ, μ, s, e, h⟩ := h
  refine ⟨I, β, ρ, μ, s, e, Res.bind h fun a μ1 I1 β1 H1 v q x1 s1 r1 h1 => ?_⟩
  refine ⟨I1, β1, ρ, μ1, s1, e.ext x1, Res.bind h1 fun lo μ2 I2 β2 H2 lo' q2 x2 s2 r2 h2 => ?_⟩
  refine ⟨I2, β2, ρ, μ2, s2, (e.ext x1).ext x2, Res.bind h2 fun hi μ3 I3 β3 H3 hi' q3 x3 s3 r3 h3 => ?_⟩
  cases r2
  cases r3
  have r1' := (r1.mono x2.imm x2.bet x2.len).mono x3.imm x3.bet x3.len
  unfold pSl at h3
  split at h3
  · rename_i xs hx
    obtain ⟨a, ys, rfl, g1, t1⟩ := (r1'.rd s3 hx).of_list s3.imm
    exact .inl ⟨a, ys, rfl, g1, (Done.of s3 h3).lst s3.imm (t1.cut _ _)⟩
  · rename_i xs hx
    obtain ⟨a, ys, rfl, g1, t1⟩ := (r1'.rd s3 hx).of_tup
    have d := Done.of s3 h3
    refine .inr ⟨a, ys, rfl, s3.imm.seqT g1, fun z => ?_, fun z => d.tup s3.imm (t1.cut _ _)⟩
    rw [t1.length] at z
    rw [cut_whole z] at d
    exact d.1 _ (.tup g1 t1)
  · exact h3.elim
end
end FW


set_option Elab.async false
set_option linter.all false
set_option maxRecDepth 100000
set_option maxHeartbeats 1000000
namespace FW
open PySem PySem.Spec PyProof.Rows L2

/-! ### calls of built-ins -/
inductive ROs (K : PySem.W.Frag) (I H : Hp) : List V → List D → Prop
  | nil : ROs K I H [] []
  | cons {v : V} {x : D} {vs : List V} {xs : List D} : RO K I H v x → ROs K I H vs xs → ROs K I H (v :: vs) (x :: xs)
def rds : List Val → Sto → Option (List D)
  | [], _ => some []
  | v :: r, μ => match rd v μ, rds r μ with
    | some x, some xs => some (x :: xs)
    | _, _ => none
theorem rds_ro {C : Ctx} {K : PySem.W.Frag} {I H : Hp} {β : Nat → Addr} {μ : Sto} (s : SR K I β μ H) : ∀ {vs : List Val} {ws : List V} {xs : List D}, RVs C K I β μ.length vs ws → rds vs μ = some xs → ROs K I H ws xs
  | [], _, _, .nil, e => by cases e; exact .nil
  | v :: r, _, xs, .cons h t, e => by
    simp only [rds] at e
    split at e
    · rename_i x xs' h1 h2
      cases e
      exact .cons (h.rd s h1) (rds_ro s t h2)
    · cases e
def pB (op : List D → Option D) (vs : List Val) (μ : Sto) : R Val := match rds vs μ with
  | some xs => match op xs with
    | some z => .ok (.d z) μ
    | none => .stuck
  | none => .stuck
def cB (op : List D → Option D) (f : Cd (List Val)) : Cd Val := fun ρ μ => (f ρ μ).bind fun vs μ1 => pB op vs μ1
/-- r serves op -/
def SerC (K : PySem.W.Frag) (r : List V → Hp → VK → Prop) (op : List D → Option D) : Prop := ∀ (I H : Hp) (vs : List V) (xs : List D) (z : D) (Q : VK), Sub I H → ROs K I H vs xs → op xs = some z → Done K I H z Q → r vs H Q
section
variable {C : Ctx} {X : Cx} {W : WX} {pos : Pos} {K : PySem.W.Frag}
theorem cb_imp {r : List V → Hp → VK → Prop} {op : List D → Option D} {f : Cd (List Val)} (hs : SerC X.K r op) {σ : L2.St} {H : Hp} {Q : VK} (h : tE C X.K W (cB op f) σ H Q) : tCB r (tA C X.K W f) σ H Q := by
  obtain ⟨I, β, ρ, μ, s, e, h⟩ := h
  refine ⟨I, β, ρ, μ, s, e, Res.bind h fun vs μ1 I1 β1 H1 ws q x1 s1 r1 h1 => ?_⟩
  unfold pB at h1
  split at h1
  · rename_i xs hx
    split at h1
    · rename_i z hz
      exact hs I1 H1 ws xs z Q s1.imm (rds_ro s1 r1 hx) hz (Done.of s1 h1)
    · exact h1.elim
  · exact h1.elim
theorem se_b {x : Str} {p : Pos} {e : Expr} {es : List Expr} {id : String} {r : List V → Hp → VK → Prop} {op : List D → Option D} {f : Cd (List Val)} (hc : CallR X (.builtin id) r) (hs : SerC X.K r op) (hg : Gl X x) (hm : X.mg x = none) (hv : bootBuiltins x = some (.builtin id)) (ha : SA C X W f (e :: es))
    (hn : x ≠ "__name__" := by decide) (hdb : (x == ("__debug__" : Str)) = false := by decide) (he : starEach (e :: es) X.env = (false, eval e X.env) :: starEach es X.env := by rfl) (hpl : (backTo pos (starEach es X.env)).any (·.1) = false := by rfl) :
    SE C X W (cB op f) (.Call (.Name x p) (e :: es) [] pos) := PE_imp (pe_callB hc hg hm hv ha hn hdb he hpl) fun σ H Q h => cb_imp hs h
theorem se_ty {x : Str} {p : Pos} {e : Expr} {es : List Expr} {id : String} {r : List V → Hp → VK → Prop} {op : List D → Option D} {f : Cd (List Val)} (hc : CallR X (.type id) r) (hs : SerC X.K r op) (hg : Gl X x) (hm : X.mg x = none) (hv : bootBuiltins x = some (.type id)) (ha : SA C X W f (e :: es))
    (hn : x ≠ "__name__" := by decide) (hdb : (x == ("__debug__" : Str)) = false := by decide) (he : starEach (e :: es) X.env = (false, eval e X.env) :: starEach es X.env := by rfl) (hpl : (backTo pos (starEach es X.env)).any (·.1) = false := by rfl) :
    SE C X W (cB op f) (.Call (.Name x p) (e :: es) [] pos) := PE_imp (pe_callTy hc hg hm hv ha hn hdb he hpl) fun σ H Q h => cb_imp hs h
/-! what they are -/
def bLen : List D → Option D
  | [.list xs] => some (.int xs.length)
  | [.tuple xs] => some (.int xs.length)
  | _ => none
theorem ser_len : SerC K (fun xs H Q => ∃ p ys, xs = [.ref p] ∧ (SqL K H p ys ∨ SqT K H p ys) ∧ Q (.int ys.length) H) bLen := by
  intro I H vs xs z Q s hx hz d
  unfold bLen at hz
  split at hz
  · cases hz
    cases hx with
    | cons h t =>
      cases t
      obtain ⟨a, ys, rfl, h1, t1⟩ := h.of_list s
      exact ⟨a, ys, rfl, .inl h1, by rw [t1.length]; exact d.1 _ Rp.int⟩
  · cases hz
    cases hx with
    | cons h t =>
      cases t
      obtain ⟨a, ys, rfl, h1, t1⟩ := h.of_tup
      exact ⟨a, ys, rfl, .inr (s.seqT h1), by rw [t1.length]; exact d.1 _ Rp.int⟩
  · cases hz
def bAbs : List D → Option D
  | [.int i] => some (.int (if i < 0 then -i else i))
  | _ => none
theorem ser_abs : SerC K (fun xs H Q => ∃ i, xs = [.int i] ∧ Q (.int (if i < 0 then -i else i)) H) bAbs := by
  intro I H vs xs z Q s hx hz d
  unfold bAbs at hz
  split at hz
  · cases hz
    cases hx with
    | cons h t =>
      cases t
      exact ⟨_, by rw [h.of_int], d.1 _ Rp.int⟩
  · cases hz
def bInt : List D → Option D
  | [.int i] => some (.int i)
  | [.bool b] => some (.int (if b = true then 1 else 0))
  | _ => none
theorem ser_int : SerC K (fun xs H Q => (∃ i, xs = [.int i] ∧ Q (.int i) H) ∨ ∃ k : Bool, xs = [.bl k] ∧ Q (.int (if k then 1 else 0)) H) bInt := by
  intro I H vs xs z Q s hx hz d
  unfold bInt at hz
  split at hz
  · cases hz
    cases hx with
    | cons h t =>
      cases t
      exact .inl ⟨_, by rw [h.of_int], d.1 _ Rp.int⟩
  · cases hz
    cases hx with
    | cons h t =>
      cases t
      exact .inr ⟨_, by rw [h.of_bool], d.1 _ Rp.int⟩
  · cases hz
def bools? : List D → Option (List Bool)
  | [] => some []
  | .bool b :: r => match bools? r with
    | some l => some (b :: l)
    | none => none
  | _ :: _ => none
theorem bools_rp {I : Hp} : ∀ {vs : List V} {xs : List D} {bs : List Bool}, RpAll K I vs xs → bools? xs = some bs → vs = bs.map V.bl
  | [], [], _, _, e => by cases e; rfl
  | [], _ :: _, _, h, _ => nomatch h.dp
  | _ :: _, [], _, h, _ => nomatch h.dp
  | v :: vs, x :: xs, bs, h, e => by
    unfold bools? at e
    split at e
    · rename_i h1
      cases h1
    · rename_i b r h1
      cases h1
      split at e
      · rename_i l hl
        cases e
        rw [List.map_cons, ← bools_rp h.head.2 hl, h.head.1.of_bool]
      · cases e
    · cases e
theorem ints_rp {I : Hp} : ∀ {vs : List V} {xs : List D} {bs : List Int}, RpAll K I vs xs → ints? xs = some bs → vs = bs.map V.int
  | [], [], _, _, e => by cases e; rfl
  | [], _ :: _, _, h, _ => nomatch h.dp
  | _ :: _, [], _, h, _ => nomatch h.dp
  | v :: vs, x :: xs, bs, h, e => by
    unfold ints? at e
    split at e
    · rename_i h1
      cases h1
    · rename_i b r h1
      cases h1
      split at e
      · rename_i l hl
        cases e
        rw [List.map_cons, ← ints_rp h.head.2 hl, h.head.1.of_int]
      · cases e
    · cases e
def bAll : List D → Option D
  | [.list xs] => match bools? xs with
    | some bs => some (.bool (bs.all id))
    | none => none
  | _ => none
def bAny : List D → Option D
  | [.list xs] => match bools? xs with
    | some bs => some (.bool (bs.any id))
    | none => none
  | _ => none
theorem ser_all : SerC K (rAll K) bAll := by
  intro I H vs xs z Q s hx hz d
  unfold bAll at hz
  split at hz
  · split at hz
    · rename_i bs hb
      cases hz
      cases hx with
      | cons h t =>
        cases t
        obtain ⟨a, ys, rfl, h1, t1⟩ := h.of_list s
        exact ⟨a, bs, rfl, by rw [← bools_rp t1 hb]; exact h1, d.1 _ Rp.bool⟩
    · cases hz
  · cases hz
theorem ser_any : SerC K (rAny K) bAny := by
  intro I H vs xs z Q s hx hz d
  unfold bAny at hz
  split at hz
  · split at hz
    · rename_i bs hb
      cases hz
      cases hx with
      | cons h t =>
        cases t
        obtain ⟨a, ys, rfl, h1, t1⟩ := h.of_list s
        exact ⟨a, bs, rfl, by rw [← bools_rp t1 hb]; exact h1, d.1 _ Rp.bool⟩
    · cases hz
  · cases hz
def bSum : List D → Option D
  | [.list xs] => match ints? xs with
    | some ns => some (.int ns.sum)
    | none => none
  | _ => none
theorem ser_sum : SerC K (rSum K) bSum := by
  intro I H vs xs z Q s hx hz d
  unfold bSum at hz
  split at hz
  · split at hz
    · rename_i bs hb
      cases hz
      cases hx with
      | cons h t =>
        cases t
        obtain ⟨a, ys, rfl, h1, t1⟩ := h.of_list s
        exact ⟨a, bs, rfl, by rw [← ints_rp t1 hb]; exact h1, d.1 _ Rp.int⟩
    · cases hz
  · cases hz
def bTup : List D → Option D
  | [.list xs] => some (.tuple xs)
  | [.tuple xs] => some (.tuple xs)
  | _ => none
theorem ser_tup : SerC K (fun xs H Q => ∃ p ys, xs = [.ref p] ∧ ((SqL K H p ys ∧ ∀ l, H l = none → Q (.ref l) (upd H l (.tup ys))) ∨ (SqT K H p ys ∧ Q (.ref p) H))) bTup := by
  intro I H vs xs z Q s hx hz d
  unfold bTup at hz
  split at hz
  · cases hz
    cases hx with
    | cons h t =>
      cases t
      obtain ⟨a, ys, rfl, h1, t1⟩ := h.of_list s
      exact ⟨a, ys, rfl, .inl ⟨h1, d.tup s t1⟩⟩
  · cases hz
    cases hx with
    | cons h t =>
      cases t
      obtain ⟨a, ys, rfl, h1, t1⟩ := h.of_tup
      exact ⟨a, ys, rfl, .inr ⟨s.seqT h1, d.1 _ (.tup h1 t1)⟩⟩
  · cases hz
def bLst : List D → Option D
  | [.list xs] => some (.list xs)
  | [.tuple xs] => some (.list xs)
  | _ => none
theorem ser_lst : SerC K (fun xs H Q => ∃ p ys, xs = [.ref p] ∧ (SqL K H p ys ∨ SqT K H p ys) ∧ ∀ l, H l = none → Q (.ref l) (upd H l (.lst ys))) bLst := by
  intro I H vs xs z Q s hx hz d
  unfold bLst at hz
  split at hz
  · cases hz
    cases hx with
    | cons h t =>
      cases t
      obtain ⟨a, ys, rfl, h1, t1⟩ := h.of_list s
      exact ⟨a, ys, rfl, .inl h1, d.lst s t1⟩
  · cases hz
    cases hx with
    | cons h t =>
      cases t
      obtain ⟨a, ys, rfl, h1, t1⟩ := h.of_tup
      exact ⟨a, ys, rfl, .inr (s.seqT h1), d.lst s t1⟩
  · cases hz
/-! isinstance -/
def tyN : D → Option String
  | .none => some "NoneType"
  | .bool _ => some "bool"
  | .int _ => some "int"
  | .str _ => some "str"
  | .list _ => some "list"
  | .tuple _ => some "tuple"
  | .dict _ => none
/-- the classes that are asked -/
inductive Asked : String → Prop
  | int : Asked "int" | bool : Asked "bool" | str : Asked "str" | list : Asked "list" | tuple : Asked "tuple"
def isiB (a b : String) : Bool := a == b || (a == "bool" && b == "int")
def cIsi (T : String) (f : Cd Val) : Cd Val := fun ρ μ => (f ρ μ).bind fun v μ1 => match rd v μ1 with
  | some x => match tyN x with
    | some n => .ok (.d (.bool (isiB n T))) μ1
    | none => .stuck
  | none => .stuck
theorem kit_isi {x : D} {n T : String} (h : tyN x = some n) (a : Asked T) : kitB n T = some (isiB n T) := by
  cases x <;> simp only [tyN] at h <;> first | (cases h; done) | (obtain rfl := Option.some.inj h; cases a <;> decide +kernel)
theorem tyX_of {I H : Hp} {v : V} {x : D} {n : String} (s : Sub I H) (h : RO K I H v x) (e : tyN x = some n) : TyX K H v (.type n) := by
  cases x with
  | none => cases e; rw [h.of_none]; exact .base .non
  | bool c => cases e; rw [h.of_bool]; exact .base (.bl c)
  | int i => cases e; rw [h.of_int]; exact .base (.int i)
  | str y => cases e; rw [h.of_str]; exact .base (.str y)
  | list xs =>
    cases e
    obtain ⟨a, ys, rfl, h1, t1⟩ := h.of_list s
    rcases h1 with (h1 | ⟨o, h1⟩) | ⟨o, its, k, h1, h2, _⟩
    · exact .base (.lst h1)
    · exact .base (.frz h1)
    · exact .kList h1 h2
  | tuple xs =>
    cases e
    obtain ⟨a, ys, rfl, h1, t1⟩ := h.of_tup
    rcases s.seqT h1 with (h1 | ⟨o, h1⟩) | ⟨o, its, k, h1, h2, _⟩
    · exact .base (.tup h1)
    · exact .fTuple h1
    · exact .kTuple h1 h2
  | dict _ => cases e
theorem se_isi {x y : Str} {p p' : Pos} {e : Expr} {T : String} {f : Cd Val} (he : SE C X W f e) (aT : Asked T) (hg : Gl X x) (hm : X.mg x = none) (hx : x = "isinstance") (hg' : Gl X y) (hm' : X.mg y = none) (hv' : bootBuiltins y = some (.type T)) (hn' : y ≠ "__name__" := by decide) (hd' : (y == ("__debug__" : Str)) = false := by decide)
    (hst : starEach [e, .Name y p'] X.env = (false, eval e X.env) :: starEach [.Name y p'] X.env := by rfl) (hst2 : starEach [.Name y p'] X.env = (false, eval (.Name y p') X.env) :: starEach [] X.env := by rfl) (hpl : (backTo pos (starEach [.Name y p'] X.env)).any (·.1) = false := by rfl) :
    SE C X W (cIsi T f) (.Call (.Name x p) [e, .Name y p'] [] pos) := by
  subst hx
  refine PE_imp (pe_callB call_isi hg hm (by decide +kernel) (pa_cons he (pa_cons (pe_bltn (v := .ty T) hg' hm' hv' rfl hn' hd') pa_nil hst2) hst) (by decide) (by decide) hst hpl) fun σ H Q h => ?_
  obtain ⟨I, β, ρ, μ, s, e, h⟩ := h
  refine ⟨I, β, ρ, μ, s, e, Res.bind h fun v μ1 I1 β1 H1 w q x1 s1 r1 h1 => ?_⟩
  split at h1
  · rename_i x hx
    split at h1
    · rename_i n hn
      exact ⟨w, .ty T, .type n, .type T, isiB n T, rfl, .ty T, tyX_of s1.imm (r1.rd s1 hx) hn, kit_ty (kit_isi hn aT), Res.here s1 h1 Rp.bool⟩
    · exact h1.elim
  · exact h1.elim
end
end FW


set_option Elab.async false
set_option linter.all false
set_option maxRecDepth 100000
set_option maxHeartbeats 1000000
namespace FW
open PySem PySem.Spec PyProof.Rows L2

/-! ### what is walked -/
abbrev Walked := List D × Option Nat
/-- the source still stands -/
def WH (K : PySem.W.Frag) (I : Hp) (β : Nat → Addr) (w : Walked) (H : Hp) : Prop := Sub I H ∧ ∀ l, w.2 = some l → ∃ ys, H (β l) = some (.lst ys) ∧ RpAll K I ys w.1
structure WalkOk (K : PySem.W.Frag) (I : Hp) (β : Nat → Addr) (n : Nat) (w : Walked) (J : It) : Prop where
  lt : ∀ l, w.2 = some l → l < n
  go : ∀ I2 β2 H i, Sub I I2 → (∀ l, w.2 = some l → β2 l = β l) → WH K I2 β2 w H → i < w.1.length → J.go i H
  stop : ∀ I2 β2 H, Sub I I2 → (∀ l, w.2 = some l → β2 l = β l) → WH K I2 β2 w H → J.stop w.1.length H
  yld : ∀ I2 β2 H i x H' d, Sub I I2 → (∀ l, w.2 = some l → β2 l = β l) → WH K I2 β2 w H → w.1[i]? = some d → J.yld i H x H' → (H' = H ∧ Rp K I2 x d) ∨ ∃ p o, H p = none ∧ H' = upd H p o ∧ Rp K (upd I2 p o) x d
def rW (K : PySem.W.Frag) : Rel Walked It := fun I β n w J => WalkOk K I β n w J
def tI (C : Ctx) (K : PySem.W.Frag) (W : WX) (f : Cd Walked) : TI := fun σ H R => ∃ I β ρ μ, SR K I β μ H ∧ ER C K I β ρ μ σ ∧ Res C K W σ I β μ H (rW K) R (f ρ μ)
def SI (C : Ctx) (X : Cx) (W : WX) (tg : Expr) (f : Cd Walked) (e : Expr) : Prop := PI X tg e (tI C X.K W f)
theorem PI_imp {X : Cx} {tg e : Expr} {t t' : TI} (h : PI X tg e t) (k : ∀ σ H Q, t' σ H Q → t σ H Q) : PI X tg e t' := ⟨fun pins s σ H Q I q => h.run pins s σ H Q I (k σ H Q q)⟩
section
variable {C : Ctx} {X : Cx} {W : WX} {pos : Pos} {K : PySem.W.Frag} {tg : Expr}
theorem walk_data {I : Hp} {β : Nat → Addr} {n : Nat} {a : Addr} {ys : List V} {xs : List D} (h : SqL K I a ys) (t : RpAll K I ys xs) : WalkOk K I β n (xs, none) (Itl K a) where
  lt := fun l e => nomatch e
  go := fun I2 β2 H i s2 _ w hi => by
    have hi' : i < ys.length := by rw [t.length]; exact hi
    exact ⟨ys, ys[i], w.1.seqL (s2.seqL h), List.getElem?_eq_getElem hi'⟩
  stop := fun I2 β2 H s2 _ w => ⟨ys, w.1.seqL (s2.seqL h), by rw [t.length]; exact Nat.le_refl _⟩
  yld := fun I2 β2 H i x H' d s2 _ w hd y => by
    obtain ⟨e, q⟩ := y
    obtain ⟨v, hv, r⟩ := (s2.rpAll t).get hd
    have := q ys (w.1.seqL (s2.seqL h))
    rw [hv] at this
    obtain rfl := Option.some.inj this
    exact .inl ⟨e, r⟩
theorem walk_cell {I : Hp} {β : Nat → Addr} {n l : Nat} {xs : List D} (hl : l < n) : WalkOk K I β n (xs, some l) (Itl K (β l)) where
  lt := fun m e => by cases e; exact hl
  go := fun I2 β2 H i s2 hb w hi => by
    obtain ⟨ys, h, t⟩ := w.2 l rfl
    rw [hb l rfl] at h
    have hi' : i < ys.length := by rw [t.length]; exact hi
    exact ⟨ys, ys[i], SqL.of h, List.getElem?_eq_getElem hi'⟩
  stop := fun I2 β2 H s2 hb w => by
    obtain ⟨ys, h, t⟩ := w.2 l rfl
    rw [hb l rfl] at h
    exact ⟨ys, SqL.of h, by rw [t.length]; exact Nat.le_refl _⟩
  yld := fun I2 β2 H i x H' d s2 hb w hd y => by
    obtain ⟨ys, h, t⟩ := w.2 l rfl
    rw [hb l rfl] at h
    obtain ⟨e, q⟩ := y
    obtain ⟨v, hv, r⟩ := t.get hd
    have := q ys (SqL.of h)
    rw [hv] at this
    obtain rfl := Option.some.inj this
    exact .inl ⟨e, r⟩
theorem walk_tup {I : Hp} {β : Nat → Addr} {n : Nat} {a : Addr} {ys : List V} {xs : List D} (h : SqT K I a ys) (t : RpAll K I ys xs) : WalkOk K I β n (xs, none) (Itt K a) where
  lt := fun l e => nomatch e
  go := fun I2 β2 H i s2 _ w hi => by
    have hi' : i < ys.length := by rw [t.length]; exact hi
    exact ⟨ys, ys[i], w.1.seqT (s2.seqT h), List.getElem?_eq_getElem hi'⟩
  stop := fun I2 β2 H s2 _ w => ⟨ys, w.1.seqT (s2.seqT h), by rw [t.length]; exact Nat.le_refl _⟩
  yld := fun I2 β2 H i x H' d s2 _ w hd y => by
    obtain ⟨e, q⟩ := y
    obtain ⟨v, hv, r⟩ := (s2.rpAll t).get hd
    have := q ys (w.1.seqT (s2.seqT h))
    rw [hv] at this
    obtain rfl := Option.some.inj this
    exact .inl ⟨e, r⟩
def rng (lo : Int) (n : Nat) : List D := (List.range n).map fun (k : Nat) => PyData.int (lo + (k : Int))
theorem rng_get {lo : Int} {n i : Nat} {d : D} (h : (rng lo n)[i]? = some d) : d = .int (lo + (i : Int)) := by
  unfold rng at h
  rw [List.getElem?_map] at h
  cases q : (List.range n)[i]? with
  | none => rw [q] at h; cases h
  | some k =>
    rw [q] at h
    obtain ⟨hi, e⟩ := List.getElem?_eq_some_iff.mp q
    rw [List.getElem_range] at e
    subst e
    exact (Option.some.inj h).symm
theorem rng_len (lo : Int) (n : Nat) : (rng lo n).length = n := by simp [rng]
theorem walk_rng {I : Hp} {β : Nat → Addr} {m : Nat} {lo : Int} {n : Nat} : WalkOk K I β m (rng lo n, none) (Itr lo n) where
  lt := fun l e => nomatch e
  go := fun I2 β2 H i _ _ w hi => by rw [rng_len] at hi; exact hi
  stop := fun I2 β2 H _ _ w => by rw [rng_len]; exact Nat.le_refl _
  yld := fun I2 β2 H i x H' d _ _ w hd y => by
    obtain ⟨e, q⟩ := y
    rw [rng_get hd, q]
    exact .inl ⟨e, Rp.int⟩
/-- a list, a tuple or a list's cell -/
def itOf (v : Val) (μ : Sto) : Option Walked := match v with
  | .d (.list xs) => some (xs, none)
  | .d (.tuple xs) => some (xs, none)
  | .loc l => match μ[l]? with
    | some (.lst xs) => some (xs, some l)
    | _ => none
  | _ => none
def iV (f : Cd Val) : Cd Walked := fun ρ μ => (f ρ μ).bind fun v μ1 => match itOf v μ1 with
  | some w => .ok w μ1
  | none => .stuck
def iLT (K : PySem.W.Frag) (tl : TE) : TI := fun σ H R => tl σ H fun x H1 => ∃ a, x = .ref a ∧ (((∃ xs, SqL K H1 a xs) ∧ R (Itl K a) H1) ∨ ((∃ xs, SqT K H1 a xs) ∧ R (Itt K a) H1))
theorem pi_lt {l : Expr} {tl : TE} (hl : PE X l tl) : PI X tg l (iLT X.K tl) := by
  refine ⟨fun pins s σ H R I h => ?_⟩
  refine thn (hl.run pins s σ H _ I h) fun v s1 ⟨x, H1, I1, r1, a, e, q⟩ => ?_
  subst e
  cases r1
  rcases q with ⟨⟨xs, hq⟩, q⟩ | ⟨⟨xs, hq⟩, q⟩
  · obtain ⟨its, rv, p, hz⟩ := I1.list hq
    refine wpAny_pyIter_list p.isList ?_
    refine ⟨s1.heap.objs.size, [s1.heap.objs.size], _, _, H1, rfl, I1.kept (t' := s1.toks) fun b o e => Heap.get?_push_of_some _ e, turn_list a _, ⟨_, Heap.get?_push_size _ rfl, rfl, rfl⟩, fun b hb => ?_, q⟩
    have e : b = s1.heap.objs.size := by simpa using hb
    subst e
    exact I1.fpOk (Nat.le_refl _) (I1.hok.fresh (Nat.le_refl _))
  · obtain ⟨its, rv, p, hz⟩ := I1.tuple hq
    refine wpAny_pyIter_tuple (show s1.heap.IsTuple a its.toArray from p) ?_
    refine ⟨s1.heap.objs.size, [s1.heap.objs.size], _, _, H1, rfl, I1.kept (t' := s1.toks) fun b o e => Heap.get?_push_of_some _ e, turn_tuple a _, ⟨_, Heap.get?_push_size _ rfl, rfl, rfl⟩, fun b hb => ?_, q⟩
    have e : b = s1.heap.objs.size := by simpa using hb
    subst e
    exact I1.fpOk (Nat.le_refl _) (I1.hok.fresh (Nat.le_refl _))
theorem si_v {e : Expr} {f : Cd Val} (h : SE C X W f e) : SI C X W tg (iV f) e := PI_imp (pi_lt h) fun σ H R h => by
  obtain ⟨I, β, ρ, μ, s, e, h⟩ := h
  refine ⟨I, β, ρ, μ, s, e, Res.bind h fun v μ1 I1 β1 H1 w q x1 s1 r1 h1 => ?_⟩
  unfold itOf at h1
  cases v with
  | d x =>
    cases x with
    | list xs =>
      obtain ⟨a, ys, rfl, g1, t1⟩ := Rp.of_list r1
      exact ⟨a, rfl, .inl ⟨⟨ys, s1.imm.seqL g1⟩, Res.here s1 h1 (walk_data g1 t1)⟩⟩
    | tuple xs =>
      obtain ⟨a, ys, rfl, g1, t1⟩ := Rp.of_tup r1
      exact ⟨a, rfl, .inr ⟨⟨ys, s1.imm.seqT g1⟩, Res.here s1 h1 (walk_tup g1 t1)⟩⟩
    | none => exact h1.elim
    | bool _ => exact h1.elim
    | int _ => exact h1.elim
    | str _ => exact h1.elim
    | dict _ => exact h1.elim
  | loc l =>
    obtain ⟨rfl, hl⟩ := r1
    cases hc : μ1[l]? with
    | none => simp only [hc] at h1; exact h1.elim
    | some c =>
      have q := s1.cell l c hc
      cases c with
      | lst xs =>
        simp only [hc] at h1
        obtain ⟨ys, g1, g2⟩ := q
        exact ⟨β1 l, rfl, .inl ⟨⟨ys, SqL.of g1⟩, Res.here s1 h1 (walk_cell hl)⟩⟩
      | dct kvs => exact q.elim
  | exn => exact h1.elim
def iR1 (f : Cd (List Val)) : Cd Walked := fun ρ μ => (f ρ μ).bind fun vs μ1 => match rds vs μ1 with
  | some [.int n] => if decide (-(2 ^ 62) ≤ n ∧ n < 2 ^ 62) = true then .ok (rng 0 n.toNat, none) μ1 else .stuck
  | _ => .stuck
def iR2 (f : Cd (List Val)) : Cd Walked := fun ρ μ => (f ρ μ).bind fun vs μ1 => match rds vs μ1 with
  | some [.int a, .int b] => if decide (-(2 ^ 62) ≤ a ∧ a < 2 ^ 62 ∧ -(2 ^ 62) ≤ b ∧ b < 2 ^ 62) = true then .ok (rng a (b - a).toNat, none) μ1 else .stuck
  | _ => .stuck
theorem ros_one {I H : Hp} {vs : List V} {x : D} (h : ROs K I H vs [x]) : ∃ v, vs = [v] ∧ RO K I H v x := by
  cases h with
  | cons h t => cases t; exact ⟨_, rfl, h⟩
theorem ros_two {I H : Hp} {vs : List V} {x y : D} (h : ROs K I H vs [x, y]) : ∃ v u, vs = [v, u] ∧ RO K I H v x ∧ RO K I H u y := by
  cases h with
  | cons h t =>
    obtain ⟨u, rfl, h2⟩ := ros_one t
    exact ⟨_, u, rfl, h, h2⟩
theorem si_r1 {a : Expr} {f : Cd (List Val)} {p pos : Pos} (hg : Gl X "range") (hm : X.mg "range" = none) (ha : SA C X W f [a]) (hs : starEach [a] X.env = [(false, eval a X.env)] := by rfl) : SI C X W tg (iR1 f) (.Call (.Name "range" p) [a] [] pos) := PI_imp (pi_range1 hg hm ha hs) fun σ H R h => by
  obtain ⟨I, β, ρ, μ, s, e, h⟩ := h
  refine ⟨I, β, ρ, μ, s, e, Res.bind h fun vs μ1 I1 β1 H1 ws q x1 s1 r1 h1 => ?_⟩
  split at h1
  · rename_i n hx
    split at h1
    · rename_i hl
      have hl := of_decide_eq_true hl
      obtain ⟨v, rfl, hv⟩ := ros_one (rds_ro s1 r1 hx)
      exact ⟨n, by rw [hv.of_int], hl.1, hl.2, Res.here s1 h1 walk_rng⟩
    · exact h1.elim
  · exact h1.elim
theorem si_r2 {a b : Expr} {f : Cd (List Val)} {p pos : Pos} (hg : Gl X "range") (hm : X.mg "range" = none) (ha : SA C X W f [a, b]) (hs : starEach [a, b] X.env = [(false, eval a X.env), (false, eval b X.env)] := by rfl) (hs2 : starEach [b] X.env = [(false, eval b X.env)] := by rfl) : SI C X W tg (iR2 f) (.Call (.Name "range" p) [a, b] [] pos) := PI_imp (pi_range2 hg hm ha hs hs2) fun σ H R h => by
  obtain ⟨I, β, ρ, μ, s, e, h⟩ := h
  refine ⟨I, β, ρ, μ, s, e, Res.bind h fun vs μ1 I1 β1 H1 ws q x1 s1 r1 h1 => ?_⟩
  split at h1
  · rename_i n m hx
    split at h1
    · rename_i hl
      have hl := of_decide_eq_true hl
      obtain ⟨v, u, rfl, hv, hu⟩ := ros_two (rds_ro s1 r1 hx)
      exact ⟨n, m, by rw [hv.of_int, hu.of_int], hl, Res.here s1 h1 walk_rng⟩
    · exact h1.elim
  · exact h1.elim

/-! ### list comprehensions -/
def wipeE (ρ : Env) : List Nat → Env
  | [] => ρ
  | v :: vs => (wipeE ρ vs).set v none
theorem ER.set {I : Hp} {β : Nat → Addr} {ρ : Env} {μ : Sto} {σ : L2.St} {i : Nat} {v : Val} {w : V} (e : ER C K I β ρ μ σ) (r : RV C K I β μ.length v w) : ER C K I β (ρ.set i (some v)) μ (σ.set i (some w)) where
  len := by rw [List.length_set, List.length_set]; exact e.len
  get := fun j u h => by
    by_cases hj : i = j
    · subst hj
      by_cases hi : i < ρ.length
      · rw [List.getElem?_set_self hi] at h
        cases h
        exact ⟨w, by rw [List.getElem?_set_self (by rw [← e.len]; exact hi)], r⟩
      · rw [List.getElem?_eq_none (by rw [List.length_set]; omega)] at h
        cases h
    · rw [List.getElem?_set_ne hj] at h
      obtain ⟨w', h1, h2⟩ := e.get j u h
      exact ⟨w', by rw [List.getElem?_set_ne hj]; exact h1, h2⟩
  ex := e.ex
theorem ER.drop {I : Hp} {β : Nat → Addr} {ρ : Env} {μ : Sto} {σ : L2.St} {i : Nat} (e : ER C K I β ρ μ σ) : ER C K I β (ρ.set i none) μ (σ.set i none) where
  len := by rw [List.length_set, List.length_set]; exact e.len
  get := fun j u h => by
    by_cases hj : i = j
    · subst hj
      by_cases hi : i < ρ.length
      · rw [List.getElem?_set_self hi] at h
        cases h
      · rw [List.getElem?_eq_none (by rw [List.length_set]; omega)] at h
        cases h
    · rw [List.getElem?_set_ne hj] at h
      obtain ⟨w', h1, h2⟩ := e.get j u h
      exact ⟨w', by rw [List.getElem?_set_ne hj]; exact h1, h2⟩
  ex := e.ex
theorem ER.wipe {I : Hp} {β : Nat → Addr} {ρ : Env} {μ : Sto} {σ : L2.St} (e : ER C K I β ρ μ σ) : ∀ vs : List Nat, ER C K I β (wipeE ρ vs) μ (L2.wipe σ vs)
  | [] => e
  | v :: vs => (e.wipe vs).drop
theorem ER.free {I : Hp} {β : Nat → Addr} {ρ : Env} {μ μ' : Sto} {σ : L2.St} (e : ER C K I β ρ μ σ) (h : μ.length = μ'.length) : ER C K I β ρ μ' σ where
  len := e.len
  get := fun j u hj => by
    obtain ⟨w, h1, h2⟩ := e.get j u hj
    exact ⟨w, h1, by rw [← h]; exact h2⟩
  ex := e.ex
/-- a place that no cell and no datum takes -/
structure Own (I : Hp) (β : Nat → Addr) (n : Nat) (D : Addr) : Prop where
  i : I D = none
  b : ∀ l, l < n → β l ≠ D
theorem SR.other {I : Hp} {β : Nat → Addr} {μ : Sto} {H : Hp} {D : Addr} {o : HO} (s : SR K I β μ H) (w : Own I β μ.length D) : SR K I β μ (upd H D o) where
  imm := fun a u e => by
    have : a ≠ D := fun z => by subst z; rw [w.i] at e; cases e
    rw [upd_ne this]; exact s.imm a u e
  fr := s.fr
  inj := s.inj
  cell := fun l c hc => by
    have hl : l < μ.length := (List.getElem?_eq_some_iff.mp hc).1
    have q := s.cell l c hc
    cases c with
    | lst xs => obtain ⟨ys, h1, h2⟩ := q; exact ⟨ys, by rw [upd_ne (w.b l hl)]; exact h1, h2⟩
    | dct kvs => exact q
theorem SR.freeze {I : Hp} {β : Nat → Addr} {μ : Sto} {H : Hp} {D : Addr} {o : HO} (s : SR K I β μ H) (w : Own I β μ.length D) (h : H D = some o) : SR K (upd I D o) β μ H where
  imm := fun a u e => by
    by_cases ha : a = D
    · subst ha; rw [upd_same] at e; rw [h]; exact e
    · rw [upd_ne ha] at e; exact s.imm a u e
  fr := fun l hl => by rw [upd_ne (w.b l hl)]; exact s.fr l hl
  inj := s.inj
  cell := fun l c hc => by
    have q := s.cell l c hc
    cases c with
    | lst xs => obtain ⟨ys, h1, h2⟩ := q; exact ⟨ys, h1, (Sub.new w.i).rpAll h2⟩
    | dct kvs => exact q
theorem SR.not_cell {I : Hp} {β : Nat → Addr} {μ : Sto} {H : Hp} {D : Addr} (s : SR K I β μ H) (h : H D = none) : Own I β μ.length D where
  i := s.imm.fresh h
  b := fun l hl e => by
    have q := s.cell l _ (List.getElem?_eq_getElem hl)
    cases hc : μ[l] with
    | lst xs => rw [hc] at q; obtain ⟨ys, h1, _⟩ := q; rw [e, h] at h1; cases h1
    | dct kvs => rw [hc] at q; exact q
theorem Own.ext {I I1 : Hp} {β β1 : Nat → Addr} {μ μ1 : Sto} {H H1 : Hp} {D : Addr} {o : HO} (w : Own I β μ.length D) (h : H D = some o) (x : Ext μ.length I β μ H I1 β1 μ1 H1) : Own I1 β1 μ1.length D where
  i := by
    cases e : I1 D with
    | none => rfl
    | some u =>
      rcases x.imn D u e with z | z | ⟨l, h1, z⟩
      · rw [w.i] at z; cases z
      · rw [h] at z; cases z
      · exact (w.b l h1 z).elim
  b := fun l hl => by
    by_cases q : l < μ.length
    · rw [x.bet l q]; exact w.b l q
    · rcases x.new l (Nat.le_of_not_lt q) hl with z | ⟨m, h1, h2, _⟩
      · intro e; rw [e, h] at z; cases z
      · exact absurd h2 (Nat.not_lt.mpr h1)
end
end FW


set_option Elab.async false
set_option linter.all false
set_option maxRecDepth 100000
set_option maxHeartbeats 1000000
namespace FW
open PySem PySem.Spec PyProof.Rows L2

def WF : WX := fun _ _ _ _ => False
mutual
def sameD : D → D → Bool
  | .none, .none => true
  | .bool a, .bool b => a == b
  | .int a, .int b => decide (a = b)
  | .str a, .str b => decide (a = b)
  | .list a, .list b => sameA a b
  | .tuple a, .tuple b => sameA a b
  | _, _ => false
def sameA : List D → List D → Bool
  | [], [] => true
  | x :: xs, y :: ys => sameD x y && sameA xs ys
  | _, _ => false
end
mutual
theorem sameD_eq : ∀ {x y : D}, sameD x y = true → x = y
  | .none, y, h => by cases y <;> simp [sameD] at h; rfl
  | .bool a, y, h => by cases y <;> simp [sameD] at h; rw [h]
  | .int a, y, h => by cases y <;> simp [sameD] at h; rw [h]
  | .str a, y, h => by cases y <;> simp [sameD] at h; rw [h]
  | .list a, y, h => by cases y <;> simp [sameD] at h; rw [sameA_eq h]
  | .tuple a, y, h => by cases y <;> simp [sameD] at h; rw [sameA_eq h]
  | .dict a, y, h => by cases y <;> simp [sameD] at h
theorem sameA_eq : ∀ {x y : List D}, sameA x y = true → x = y
  | [], y, h => by cases y <;> simp [sameA] at h; rfl
  | x :: xs, y, h => by
    cases y with
    | nil => simp [sameA] at h
    | cons y ys =>
      simp only [sameA, Bool.and_eq_true] at h
      rw [sameD_eq h.1, sameA_eq h.2]
end
def okG (w : Walked) (μ : Sto) : Prop := match w.2 with
  | none => True
  | some l => μ[l]? = some (.lst w.1)
/-- what is walked still stands -/
def okB (w : Walked) (μ : Sto) : Bool := match w.2 with
  | none => true
  | some l => match μ[l]? with
    | some (.lst ys) => sameA ys w.1
    | _ => false
theorem okB_ok {w : Walked} {μ : Sto} (h : okB w μ = true) : okG w μ := by
  unfold okB at h
  unfold okG
  split at h
  · trivial
  · rename_i l e
    split at h
    · rename_i ys q
      rw [q, sameA_eq h]
    · cases h
def lcRun (w : Walked) (ρ0 : Env) (bd : D → Env → Option Env) (c : Cd Bool) (f : Cd Val) : List D → List D → Sto → R (List D)
  | [], acc, μ => .ok acc μ
  | x :: xs, acc, μ => match bd x ρ0 with
    | none => .stuck
    | some ρ1 => match c ρ1 μ with
      | .ok true μ1 => match f ρ1 μ1 with
        | .ok (.d y) μ2 => if okB w μ2 = true then lcRun w ρ0 bd c f xs (acc ++ [y]) μ2 else .stuck
        | _ => .stuck
      | .ok false μ1 => if okB w μ1 = true then lcRun w ρ0 bd c f xs acc μ1 else .stuck
      | _ => .stuck
def cLc (fw : Cd Walked) (bd : D → Env → Option Env) (vs : List Nat) (c : Cd Bool) (f : Cd Val) : Cd Val := fun ρ μ => (fw ρ μ).bind fun w μ1 =>
  if okB w μ1 = true then match lcRun w (wipeE ρ vs) bd c f w.1 [] μ1 with
    | .ok out μ2 => if lim out.length = true then .ok (.d (.list out)) μ2 else .stuck
    | _ => .stuck
  else .stuck
theorem lcRun_len {w : Walked} {ρ0 : Env} {bd : D → Env → Option Env} {c : Cd Bool} {f : Cd Val} {out : List D} {μ2 : Sto} : ∀ {xs acc : List D} {μ : Sto}, lcRun w ρ0 bd c f xs acc μ = .ok out μ2 → acc.length ≤ out.length
  | [], acc, μ, h => by cases h; exact Nat.le_refl _
  | x :: xs, acc, μ, h => by
    unfold lcRun at h
    split at h
    · cases h
    · split at h
      · split at h
        · split at h
          · have := lcRun_len h
            rw [List.length_append] at this
            exact Nat.le_trans (Nat.le_add_right _ _) this
          · cases h
        · cases h
      · split at h
        · exact lcRun_len h
        · cases h
      · cases h
section
variable {C : Ctx} {X : Cx} {W : WX} {pos : Pos} {K : PySem.W.Frag} {tg : Expr}
/-- a target binds -/
def Bd (K : PySem.W.Frag) (vs : List Nat) (g : TG) (bd : D → Env → Option Env) : Prop :=
  ∀ (C : Ctx) (I : Hp) (β : Nat → Addr) (ρ ρ' : Env) (μ : Sto) (σ : L2.St) (v : V) (x : D) (H : Hp) (Q : L2.St → Hp → Prop), Sub I H → ER C K I β ρ μ σ → Rp K I v x → bd x ρ = some ρ' → (∀ σ', ER C K I β ρ' μ σ' → L2.wipe σ' vs = L2.wipe σ vs → Q σ' H) → g v σ H Q
theorem wipe_get {σ : L2.St} : ∀ {vs : List Nat} {i : Nat}, (L2.wipe σ vs)[i]? = if i ∈ vs ∧ i < σ.length then some none else σ[i]?
  | [], i => by simp [L2.wipe]
  | v :: vs, i => by
    unfold L2.wipe
    by_cases hv : v = i
    · subst hv
      by_cases hi : v < σ.length
      · rw [List.getElem?_set_self (by rw [wipe_length]; exact hi), if_pos ⟨by simp, hi⟩]
      · rw [List.getElem?_eq_none (by rw [List.length_set, wipe_length]; omega), if_neg (fun z => hi z.2), List.getElem?_eq_none (by omega)]
    · rw [List.getElem?_set_ne hv, wipe_get]
      have : (i ∈ v :: vs) ↔ i ∈ vs := by simp [Ne.symm hv]
      simp only [this]
theorem wipe_same {σ σ' : L2.St} {vs : List Nat} (hl : σ'.length = σ.length) (h : ∀ i, i ∉ vs → σ'[i]? = σ[i]?) : L2.wipe σ' vs = L2.wipe σ vs := by
  apply List.ext_getElem?
  intro i
  rw [wipe_get, wipe_get, hl]
  by_cases hi : i ∈ vs
  · by_cases h2 : i < σ.length
    · rw [if_pos ⟨hi, h2⟩, if_pos ⟨hi, h2⟩]
    · rw [if_neg (fun z => h2 z.2), if_neg (fun z => h2 z.2), List.getElem?_eq_none (by omega), List.getElem?_eq_none (by omega)]
  · rw [if_neg (fun z => hi z.1), if_neg (fun z => hi z.1)]
    exact h i hi
theorem wipe_wipe {σ : L2.St} {vs : List Nat} : L2.wipe (L2.wipe σ vs) vs = L2.wipe σ vs := wipe_same (wipe_length _ _) fun i hi => by rw [wipe_get, if_neg (fun z => hi z.1)]
def bN (i : Nat) : D → Env → Option Env := fun x ρ => some (ρ.set i (some (.d x)))
def bP (i j : Nat) : D → Env → Option Env := fun x ρ => match x with
  | .tuple [a, b] => some ((ρ.set i (some (.d a))).set j (some (.d b)))
  | _ => none
theorem bd_n {vs : List Nat} {i : Nat} (hi : i ∈ vs) : Bd K vs (gName i) (bN i) := by
  intro C I β ρ ρ' μ σ v x H Q s e r h k
  cases h
  exact k _ (e.set (v := .d x) r) (wipe_same (List.length_set ..) fun j hj => List.getElem?_set_ne (fun z => hj (by rw [← z]; exact hi)))
theorem bd_p {vs : List Nat} {i j : Nat} (hi : i ∈ vs) (hj : j ∈ vs) : Bd K vs (gTup K 2 (gCons (gName i) (gCons (gName j) gNil))) (bP i j) := by
  intro C I β ρ ρ' μ σ v x H Q s e r h k
  unfold bP at h
  split at h
  · rename_i a b
    cases h
    obtain ⟨p, ys, rfl, h1, t1⟩ := r.of_tup
    match ys, t1 with
    | [y1, y2], t1 =>
      refine ⟨p, [y1, y2], rfl, s.seqT h1, rfl, y1, [y2], rfl, y2, [], rfl, rfl, ?_⟩
      refine k _ ((e.set (v := .d a) t1.head.1).set (v := .d b) t1.head.2.head.1) (wipe_same (by rw [List.length_set, List.length_set]) fun m hm => ?_)
      rw [List.getElem?_set_ne (fun z => hm (by rw [← z]; exact hj)), List.getElem?_set_ne (fun z => hm (by rw [← z]; exact hi))]
    | [], t1 => exact nomatch t1.dp
    | [_], t1 => exact absurd t1.length (by simp)
    | _ :: _ :: _ :: _, t1 => exact absurd t1.length (by simp)
  · cases h
def STs (C : Ctx) (X : Cx) (W : WX) (c : Cd Bool) (ifs : List Expr) : Prop := PTs X ifs (tT C X.K W c)
theorem PTs_imp {X : Cx} {e : List Expr} {t t' : TT} (h : PTs X e t) (k : ∀ σ H Q, t' σ H Q → t σ H Q) : PTs X e t' := ⟨fun pins s σ H Q I q => h.run pins s σ H Q I (k σ H Q q)⟩
def cYes : Cd Bool := fun _ μ => .ok true μ
theorem sts_nil : STs C X W cYes [] := PTs_imp pts_nil fun σ H Q h => by
  obtain ⟨I, β, ρ, μ, s, e, h⟩ := h
  exact Res.here s h rfl
theorem sts_one {e : Expr} {c : Cd Bool} (h : ST C X W c e) : STs C X W c [e] := pts_one h
theorem Ext.put {n : Nat} {I : Hp} {β : Nat → Addr} {μ : Sto} {H : Hp} {D : Addr} {o : HO} (hn : n ≤ μ.length) (h : H D = none) : Ext n I β μ H I β μ (upd H D o) where
  imm := Sub.refl _
  dom := fun a e => by
    by_cases ha : a = D
    · subst ha; exact h
    · rw [upd_ne ha] at e; exact e
  bet := fun _ _ => rfl
  len := hn
  fram := fun a u e _ => Sub.new h a u e
  new := fun l h1 h2 => .inr ⟨l, h1, h2, rfl⟩
  imn := fun _ _ e => .inl e
/-- an own place of ours is written -/
theorem Ext.own {n : Nat} {I I1 : Hp} {β β1 : Nat → Addr} {μ μ1 : Sto} {H H1 : Hp} {D : Addr} {o : HO} (x : Ext n I β μ H I1 β1 μ1 H1) (h : H D = none) : Ext n I β μ H I1 β1 μ1 (upd H1 D o) where
  imm := x.imm
  dom := fun a e => by
    by_cases ha : a = D
    · subst ha; exact h
    · rw [upd_ne ha] at e; exact x.dom a e
  bet := x.bet
  len := x.len
  fram := fun a u e hc => by rw [upd_ne (ne_of_none e h)]; exact x.fram a u e hc
  new := x.new
  imn := x.imn
theorem Ext.frz {n : Nat} {I I1 : Hp} {β β1 : Nat → Addr} {μ μ1 : Sto} {H H1 : Hp} {D : Addr} {o : HO} (x : Ext n I β μ H I1 β1 μ1 H1) (h : H D = none) (hi : I1 D = none) : Ext n I β μ H (upd I1 D o) β1 μ1 H1 where
  imm := x.imm.trans (Sub.new hi)
  dom := x.dom
  bet := x.bet
  len := x.len
  fram := x.fram
  new := x.new
  imn := fun a u e => by
    by_cases ha : a = D
    · subst ha; exact .inr (.inl h)
    · rw [upd_ne ha] at e; exact x.imn a u e
theorem okG_wh {I : Hp} {β : Nat → Addr} {μ : Sto} {H : Hp} {w : Walked} (s : SR K I β μ H) (h : okG w μ) : WH K I β w H := by
  refine ⟨s.imm, fun l e => ?_⟩
  unfold okG at h
  rw [e] at h
  exact s.cell l _ h
/-- the state within a comprehension -/
structure LcS (C : Ctx) (K : PySem.W.Frag) (w : Walked) (ρ0 : Env) (σ0 : L2.St) (D : Addr) (acc : List PyData) (I1 : Hp) (β1 : Nat → Addr) (μ1 : Sto) (H1 : Hp) (I : Hp) (β : Nat → Addr) (μ : Sto) (H : Hp) : Prop where
  s : SR K I β μ H
  e : ER C K I β ρ0 μ σ0
  ac : ∃ vs, H D = some (.lst vs) ∧ RpAll K I vs acc
  own : Own I β μ.length D
  ok : okG w μ
  x : Ext μ1.length I1 β1 μ1 H1 I β μ H
theorem lc_imp {iter : Expr} {own : List (Str × Nat)} {g : TG} {fw : Cd Walked} {bd : D → Env → Option Env} {c : Cd Bool} {f : Cd Val} (hi : SI C X W tg fw iter) (hb : Bd X.K (own.map (·.2)) g bd) {σ : L2.St} {H : Hp} {Q : VK} (h : tE C X.K W (cLc fw bd (own.map (·.2)) c f) σ H Q) :
    tLc (tI C X.K W fw) g (tT C X.K WF c) (tE C X.K WF f) (own.map (·.2)) σ H Q := by
  obtain ⟨I, β, ρ, μ, s, e, h⟩ := h
  refine ⟨I, β, ρ, μ, s, e, Res.bind h fun w μ1 I1 β1 H1 J q x1 s1 r1 h1 => ?_⟩
  intro D hD
  split at h1
  · rename_i hok
    split at h1
    · rename_i out μ2 hrun
      split at h1
      · rename_i hlim
        refine ⟨fun i m H' => m = w.1.length - i ∧ i ≤ w.1.length ∧ ∃ I' β' μ' acc, LcS C X.K w (wipeE ρ (own.map (·.2))) (L2.wipe σ (own.map (·.2))) D acc I1 β1 μ1 H1 I' β' μ' H' ∧ lcRun w (wipeE ρ (own.map (·.2))) bd c f (w.1.drop i) acc μ' = .ok out μ2, ⟨_, rfl, Nat.zero_le _, I1, β1, μ1, [], ?_, by simpa using hrun⟩, ?_⟩
        · have ow := s1.not_cell hD
          exact ⟨s1.other ow, (e.ext x1).wipe _, ⟨[], upd_same, .nil⟩, ow, okB_ok hok, Ext.put (Nat.le_refl _) hD⟩
        · rintro i m H' ⟨rfl, him, I', β', μ', acc, S, hr⟩
          have hwb : ∀ l, w.2 = some l → β' l = β1 l := fun l z => S.x.bet l (r1.lt l z)
          have hwh := okG_wh S.s S.ok
          by_cases hlt : i < w.1.length
          · refine .inr ⟨r1.go I' β' H' i S.x.imm hwb hwh hlt, fun H2 => ∃ m', m' < w.1.length - i ∧ (m' = w.1.length - (i + 1) ∧ i + 1 ≤ w.1.length ∧ ∃ I' β' μ' acc, LcS C X.K w (wipeE ρ (own.map (·.2))) (L2.wipe σ (own.map (·.2))) D acc I1 β1 μ1 H1 I' β' μ' H2 ∧ lcRun w (wipeE ρ (own.map (·.2))) bd c f (w.1.drop (i + 1)) acc μ' = .ok out μ2), fun _ z => z, ?_⟩
            intro v H2 hy
            obtain ⟨x, hx⟩ : ∃ x, w.1[i]? = some x := ⟨_, List.getElem?_eq_getElem hlt⟩
            have hdrop : w.1.drop i = x :: w.1.drop (i + 1) := by
              rw [List.drop_eq_getElem_cons hlt]
              congr 1
              rw [List.getElem?_eq_getElem hlt] at hx
              exact Option.some.inj hx
            rw [hdrop] at hr
            unfold lcRun at hr
            -- the state behind the step
            have key : ∃ I2, SR X.K I2 β' μ' H2 ∧ ER C X.K I2 β' (wipeE ρ (own.map (·.2))) μ' (L2.wipe σ (own.map (·.2))) ∧ (∃ vs, H2 D = some (.lst vs) ∧ RpAll X.K I2 vs acc) ∧ Own I2 β' μ'.length D ∧ Ext μ1.length I1 β1 μ1 H1 I2 β' μ' H2 ∧ Rp X.K I2 v x := by
              obtain ⟨vs, hv, tv⟩ := S.ac
              rcases r1.yld I' β' H' i v H2 x S.x.imm hwb hwh hx hy with ⟨rfl, rp⟩ | ⟨p, o, hp, rfl, rp⟩
              · exact ⟨I', S.s, S.e, ⟨vs, hv, tv⟩, S.own, S.x, rp⟩
              · obtain ⟨s', x'⟩ := S.s.lay (o := o) hp
                have hpD : D ≠ p := ne_of_none hv hp
                exact ⟨_, s', S.e.ext x', ⟨vs, by rw [upd_ne hpD]; exact hv, (Sub.new (S.s.imm.fresh hp)).rpAll tv⟩, ⟨by rw [upd_ne hpD]; exact S.own.i, S.own.b⟩, S.x.trans (Nat.le_refl _) (x'.lower S.x.len (Nat.le_refl _)), rp⟩
            obtain ⟨I2, s2, e2, ⟨vs, hv, tv⟩, ow2, xx, rp⟩ := key
            cases hbd : bd x (wipeE ρ (own.map (·.2))) with
            | none => rw [hbd] at hr; cases hr
            | some ρ1 =>
              simp only [hbd] at hr
              refine hb C I2 β' _ ρ1 μ' _ v x H2 _ s2.imm e2 rp hbd fun σ2 e3 hw => ⟨hw.trans wipe_wipe, ?_⟩
              refine ⟨I2, β', ρ1, μ', s2, e3, ?_⟩
              cases hcc : c ρ1 μ' with
              | exc cn pl μ3 => rw [hcc] at hr; cases hr
              | stuck => rw [hcc] at hr; cases hr
              | ok b μ3 =>
                simp only [hcc] at hr
                intro I3 β3 H3 b' x3 s3 rb
                cases rb
                have hv3 : H3 D = some (.lst vs) := x3.fram D _ hv ow2.b
                have ow3 := ow2.ext hv x3
                cases b with
                | false =>
                  refine iteF ?_
                  simp only at hr
                  split at hr
                  · rename_i hok3
                    refine ⟨_, by omega, rfl, by omega, I3, β3, μ3, acc, ⟨s3, e2.ext x3, ⟨vs, hv3, x3.imm.rpAll tv⟩, ow3, (okB_ok hok3), xx.trans (Nat.le_refl _) (x3.lower xx.len (Nat.le_refl _))⟩, hr⟩
                  · cases hr
                | true =>
                  refine iteT ?_
                  simp only at hr
                  refine ⟨I3, β3, ρ1, μ3, s3, e3.ext x3, ?_⟩
                  cases hff : f ρ1 μ3 with
                  | exc cn pl μ4 => rw [hff] at hr; cases hr
                  | stuck => rw [hff] at hr; cases hr
                  | ok a μ4 =>
                    rw [hff] at hr
                    cases a with
                    | loc l => cases hr
                    | exn => cases hr
                    | d y =>
                      simp only at hr
                      split at hr
                      · rename_i hok4
                        intro I4 β4 H4 u x4 s4 ru
                        have hv4 : H4 D = some (.lst vs) := x4.fram D _ hv3 ow3.b
                        have ow4 := ow3.ext hv3 x4
                        have hl := lcRun_len hr
                        rw [List.length_append] at hl
                        have hvl := tv.length
                        refine ⟨vs, hv4, ?_, ?_⟩
                        · have := of_decide_eq_true hlim
                          have z : 100000 < sizeLine := by decide
                          simp at hl
                          omega
                        · refine ⟨_, by omega, rfl, by omega, I4, β4, μ4, acc ++ [y], ⟨s4.other ow4, (e2.ext x3).ext x4, ⟨vs ++ [u], upd_same, ((x4.imm.rpAll (x3.imm.rpAll tv)).app (.cons ru .nil))⟩, ow4, okB_ok hok4, Ext.own ((xx.trans (Nat.le_refl _) (x3.lower xx.len (Nat.le_refl _))).trans (Nat.le_refl _) (x4.lower (Nat.le_trans xx.len x3.len) (Nat.le_refl _))) hD⟩, hr⟩
                      · cases hr
          · have hie : i = w.1.length := Nat.le_antisymm him (Nat.le_of_not_lt hlt)
            subst hie
            refine .inl ⟨r1.stop I' β' H' S.x.imm hwb hwh, ?_⟩
            rw [List.drop_length] at hr
            unfold lcRun at hr
            injection hr with hr1 hr2
            subst hr1; subst hr2
            obtain ⟨vs, hv, tv⟩ := S.ac
            exact h1 _ _ H' (.ref D) (S.x.frz hD S.own.i) (S.s.freeze S.own hv) (Rp.list (SqL.of upd_same) ((Sub.new S.own.i).rpAll tv))
      · exact h1.elim
    · exact h1.elim
  · exact h1.elim
theorem se_lc {elt iter : Expr} {ifs : List Expr} {scope : Scope} {own : List (Str × Nat)} {g : TG} {fw : Cd Walked} {bd : D → Env → Option Env} {c : Cd Bool} {f : Cd Val} (hc : X.calm = true) (hN : X.N.Nodup) (hi : SI C X W tg fw iter) (ok : BlkOk X.N X.env.scope scope own)
    (hg : ∀ (s : Shared) (H : Hp) (B : Addr) (cl : List (Str × Addr)) (fp : List Addr), PG (X.blk s H scope (compEnvC scope cl B X.env) fp) tg g) (hb : Bd X.K (own.map (·.2)) g bd)
    (ht : ∀ (s : Shared) (H : Hp) (B : Addr) (cl : List (Str × Addr)) (fp : List Addr), STs C (X.blk s H scope (compEnvC scope cl B X.env) fp) WF c ifs)
    (he : ∀ (s : Shared) (H : Hp) (B : Addr) (cl : List (Str × Addr)) (fp : List Addr), SE C (X.blk s H scope (compEnvC scope cl B X.env) fp) WF f elt) (hs : ∀ x, foldedSetIterable iter X.env x = pure x := by intro _; rfl) :
    SE C X W (cLc fw bd (own.map (·.2)) c f) (.ListComp elt [⟨tg, iter, ifs, 0⟩] scope pos) := PE_imp (pe_lc (tt := tT C X.K WF c) (te := tE C X.K WF f) hc hN hi ok hg ht he hs) fun σ H Q h => lc_imp hi hb h
end
end FW


set_option Elab.async false
set_option linter.all false
set_option maxRecDepth 100000
set_option maxHeartbeats 1000000
namespace FW
open PySem PySem.Spec PyProof.Rows L2

/-! ### statements -/
def OutOk (C : Ctx) (K : PySem.W.Frag) (W : WX) (D : Ends) (n0 : Nat) (I : Hp) (β : Nat → Addr) (μ : Sto) (H : Hp) : O → Prop
  | .next ρ' μ' => ∀ I' β' σ' H', Ext n0 I β μ H I' β' μ' H' → SR K I' β' μ' H' → ER C K I' β' ρ' μ' σ' → D.nx σ' H'
  | .ret v μ' => ∀ I' β' H' w, Ext n0 I β μ H I' β' μ' H' → SR K I' β' μ' H' → RV C K I' β' μ'.length v w → D.rt w H'
  | .brk ρ' μ' => ∀ I' β' σ' H', Ext n0 I β μ H I' β' μ' H' → SR K I' β' μ' H' → ER C K I' β' ρ' μ' σ' → D.bk σ' H'
  | .cont ρ' μ' => ∀ I' β' σ' H', Ext n0 I β μ H I' β' μ' H' → SR K I' β' μ' H' → ER C K I' β' ρ' μ' σ' → D.ct σ' H'
  | .exc cn pl ρ' μ' => ∀ I' β' σ' H' cls dd, Ext n0 I β μ H I' β' μ' H' → SR K I' β' μ' H' → ER C K I' β' ρ' μ' σ' → ExcAt C K I' cn pl cls dd → W cls (some dd) σ' H'
  | .stuck => False
def tS (C : Ctx) (K : PySem.W.Frag) (W : WX) (f : Sc) : TS := fun D σ H => ∃ n0 I β ρ μ, n0 ≤ μ.length ∧ SR K I β μ H ∧ ER C K I β ρ μ σ ∧ OutOk C K W D n0 I β μ H (f n0 ρ μ)
def SS (C : Ctx) (X : Cx) (W : WX) (f : Sc) (st : Stmt) : Prop := PS X st (tS C X.K W f)
def SSs (C : Ctx) (X : Cx) (W : WX) (f : Sc) (st : List Stmt) : Prop := PSs X st (tS C X.K W f)
section
variable {C : Ctx} {K : PySem.W.Frag} {W : WX} {D : Ends} {n0 : Nat} {σ : L2.St} {I I1 : Hp} {β β1 : Nat → Addr} {ρ : Env} {μ μ1 : Sto} {H H1 : Hp} {α τ : Type}
theorem OutOk.re {o : O} (hn : n0 ≤ μ.length) (x : Ext n0 I β μ H I1 β1 μ1 H1) (h : OutOk C K W D n0 I β μ H o) : OutOk C K W D n0 I1 β1 μ1 H1 o := by
  cases o with
  | next ρ' μ' => exact fun I' β' σ' H' x' s' e' => h I' β' σ' H' (x.trans hn x') s' e'
  | ret v μ' => exact fun I' β' H' w x' s' r' => h I' β' H' w (x.trans hn x') s' r'
  | brk ρ' μ' => exact fun I' β' σ' H' x' s' e' => h I' β' σ' H' (x.trans hn x') s' e'
  | cont ρ' μ' => exact fun I' β' σ' H' x' s' e' => h I' β' σ' H' (x.trans hn x') s' e'
  | exc cn pl ρ' μ' => exact fun I' β' σ' H' cls dd x' s' e' z => h I' β' σ' H' cls dd (x.trans hn x') s' e' z
  | stuck => exact h
theorem OutOk.bind {rel : Rel α τ} {Q1 : τ → Hp → Prop} {r : R α} {g : α → Sto → O} (hn : n0 ≤ μ.length) (e : ER C K I β ρ μ σ) (h : OutOk C K W D n0 I β μ H (lift r ρ g))
    (k : ∀ a μ1 I1 β1 H1 t, r = .ok a μ1 → Ext μ.length I β μ H I1 β1 μ1 H1 → SR K I1 β1 μ1 H1 → n0 ≤ μ1.length → rel I1 β1 μ1.length a t → OutOk C K W D n0 I1 β1 μ1 H1 (g a μ1) → Q1 t H1) : Res C K W σ I β μ H rel Q1 r := by
  cases r with
  | ok a μ' => exact fun I' β' H' t x' s' r' => k a μ' I' β' H' t rfl x' s' (Nat.le_trans hn x'.len) r' (OutOk.re hn (x'.lower hn (Nat.le_refl _)) h)
  | exc cn pl μ' => exact fun I' β' H' cls dd x' s' z => h I' β' σ H' cls dd (x'.lower hn (Nat.le_refl _)) s' (e.ext x') z
  | stuck => exact h
/-- the end of a statement, as the state stands -/
theorem OutOk.here {ρ' : Env} {σ' : L2.St} (hn : n0 ≤ μ.length) (s : SR K I β μ H) (e : ER C K I β ρ' μ σ') (h : OutOk C K W D n0 I β μ H (.next ρ' μ)) : D.nx σ' H := h I β σ' H (Ext.refl hn) s e
end
section
variable {C : Ctx} {X : Cx} {W : WX} {pos : Pos} {K : PySem.W.Frag}
def sSkip : Sc := fun _ ρ μ => .next ρ μ
def sSeq (f g : Sc) : Sc := fun n0 ρ μ => match f n0 ρ μ with
  | .next ρ' μ' => g n0 ρ' μ'
  | o => o
theorem sss_nil : SSs C X W sSkip [] := PSs_imp pss_nil fun D σ H h => by
  obtain ⟨n0, I, β, ρ, μ, hn, s, e, h⟩ := h
  exact OutOk.here hn s e h
theorem ss_pass : SS C X W sSkip (.Pass pos) := PS_imp ps_pass fun D σ H h => by
  obtain ⟨n0, I, β, ρ, μ, hn, s, e, h⟩ := h
  exact OutOk.here hn s e h
theorem ss_doc {x j pos'} : SS C X W sSkip (.Expr (.Constant (.str x) j pos) pos') := PS_imp ps_doc fun D σ H h => by
  obtain ⟨n0, I, β, ρ, μ, hn, s, e, h⟩ := h
  exact OutOk.here hn s e h
theorem sss_cons {st : Stmt} {rest : List Stmt} {f g : Sc} (h1 : SS C X W f st) (h2 : SSs C X W g rest) : SSs C X W (sSeq f g) (st :: rest) := PSs_imp (pss_cons h1 h2) fun D σ H h => by
  obtain ⟨n0, I, β, ρ, μ, hn, s, e, h⟩ := h
  refine ⟨n0, I, β, ρ, μ, hn, s, e, ?_⟩
  unfold sSeq at h
  split at h
  · rename_i ρ' μ' hf
    rw [hf]
    exact fun I' β' σ' H' x' s' e' => ⟨n0, I', β', ρ', μ', x'.len, s', e', OutOk.re hn x' h⟩
  · rename_i o hf
    cases hq : f n0 ρ μ with
    | next ρ' μ' => exact (hf ρ' μ' hq).elim
    | ret v μ' => rw [hq] at h; exact h
    | brk ρ' μ' => rw [hq] at h; exact h
    | cont ρ' μ' => rw [hq] at h; exact h
    | exc cn pl ρ' μ' => rw [hq] at h; exact h
    | stuck => rw [hq] at h; exact h
theorem sss_one {st : Stmt} {f : Sc} (h1 : SS C X W f st) : SSs C X W f [st] := PSs_imp (pss_one h1) fun D σ H h => h
def sSet (i : Nat) (f : Cd Val) : Sc := fun n0 ρ μ => lift (f ρ μ) ρ fun v μ1 => .next (ρ.set i (some v)) μ1
theorem ss_set {i : Nat} {x : Str} {e : Expr} {f : Cd Val} {pos' : Pos} (hN : X.N.Nodup) (hi : X.N[i]? = some x) (hx : Loc X.env.scope x) (he : SE C X W f e) (hs : swapsWith e (some (.Name x pos')) pos.line X.env = pure false := by rfl)
    (hf : X.fn x = true ∨ X.env.scope.names.lookup x = some .local := by first | exact .inl rfl | exact .inr rfl | assumption) : SS C X W (sSet i f) (.Assign [.Name x pos'] e pos) := PS_imp (ps_set hN hi hx he hs hf) fun D σ H h => by
  obtain ⟨n0, I, β, ρ, μ, hn, s, e, h⟩ := h
  exact ⟨I, β, ρ, μ, s, e, OutOk.bind hn e h fun v μ1 I1 β1 H1 w q x1 s1 n1 r1 h1 => OutOk.here n1 s1 ((e.ext x1).set r1) h1⟩
theorem ss_setLc {i : Nat} {y : Str} {py spos : Pos} {elt tg iter : Expr} {ifs : List Expr} {scope : Scope} {own : List (Str × Nat)} {g : TG} {fw : Cd Walked} {bd : PyData → Env → Option Env} {c : Cd Bool} {f : Cd Val} (hc : X.calm = true) (hN : X.N.Nodup) (hy : X.N[i]? = some y) (hyl : X.env.scope.names.lookup y = some .local)
    (hsw : swapsWith (.ListComp elt [⟨tg, iter, ifs, 0⟩] scope pos) (some (.Name y py)) spos.line X.env = pure true) (hi : SI C X W tg fw iter) (ok : BlkOk X.N X.env.scope scope own)
    (hg : ∀ (s : Shared) (H : Hp) (B : Addr) (cl : List (Str × Addr)) (fp : List Addr), PG (X.blk s H scope (compEnvC scope cl B X.env) fp) tg g) (hb : Bd X.K (own.map (·.2)) g bd)
    (ht : ∀ (s : Shared) (H : Hp) (B : Addr) (cl : List (Str × Addr)) (fp : List Addr), STs C (X.blk s H scope (compEnvC scope cl B X.env) fp) WF c ifs)
    (he : ∀ (s : Shared) (H : Hp) (B : Addr) (cl : List (Str × Addr)) (fp : List Addr), SE C (X.blk s H scope (compEnvC scope cl B X.env) fp) WF f elt) (hs : ∀ x, foldedSetIterable iter X.env x = pure x := by intro _; rfl) :
    SS C X W (sSet i (cLc fw bd (own.map (·.2)) c f)) (.Assign [.Name y py] (.ListComp elt [⟨tg, iter, ifs, 0⟩] scope pos) spos) := PS_imp (ps_setLc (tt := tT C X.K WF c) (te := tE C X.K WF f) hc hN hy hyl hsw hi ok hg ht he hs) fun D σ H h => by
  obtain ⟨n0, I, β, ρ, μ, hn, s, e, h⟩ := h
  refine lc_imp hi hb ⟨I, β, ρ, μ, s, e, OutOk.bind hn e h fun v μ1 I1 β1 H1 w q x1 s1 n1 r1 h1 => OutOk.here n1 s1 ((e.ext x1).set r1) h1⟩
def sRet (f : Cd Val) : Sc := fun n0 ρ μ => lift (f ρ μ) ρ fun v μ1 => .ret v μ1
theorem ss_ret {e : Expr} {f : Cd Val} (he : SE C X W f e) : SS C X W (sRet f) (.Return (some e) pos) := PS_imp (ps_ret he) fun D σ H h => by
  obtain ⟨n0, I, β, ρ, μ, hn, s, e, h⟩ := h
  exact ⟨I, β, ρ, μ, s, e, OutOk.bind hn e h fun v μ1 I1 β1 H1 w q x1 s1 n1 r1 h1 => h1 I1 β1 H1 w (Ext.refl n1) s1 r1⟩
def sRetN : Sc := fun n0 ρ μ => .ret (.d .none) μ
theorem ss_retN : SS C X W sRetN (.Return none pos) := PS_imp ps_retN fun D σ H h => by
  obtain ⟨n0, I, β, ρ, μ, hn, s, e, h⟩ := h
  exact h I β H .non (Ext.refl hn) s Rp.non
def sExpr (f : Cd Val) : Sc := fun n0 ρ μ => lift (f ρ μ) ρ fun _ μ1 => .next ρ μ1
theorem ss_expr {e : Expr} {f : Cd Val} (he : SE C X W f e) (hs : swapsWith e none pos.line X.env = pure false := by rfl) : SS C X W (sExpr f) (.Expr e pos) := PS_imp (ps_expr he hs) fun D σ H h => by
  obtain ⟨n0, I, β, ρ, μ, hn, s, e, h⟩ := h
  exact ⟨I, β, ρ, μ, s, e, OutOk.bind hn e h fun v μ1 I1 β1 H1 w q x1 s1 n1 r1 h1 => OutOk.here n1 s1 (e.ext x1) h1⟩
def sIf (t : Cd Bool) (f g : Sc) : Sc := fun n0 ρ μ => lift (t ρ μ) ρ fun b μ1 => match b with
  | true => f n0 ρ μ1
  | false => g n0 ρ μ1
theorem ss_if {c : Expr} {a b : List Stmt} {t : Cd Bool} {f g : Sc} (hc : ST C X W t c) (ha : SSs C X W f a) (hb : SSs C X W g b) : SS C X W (sIf t f g) (.If c a b pos) := PS_imp (ps_if hc ha hb) fun D σ H h => by
  obtain ⟨n0, I, β, ρ, μ, hn, s, e, h⟩ := h
  refine ⟨I, β, ρ, μ, s, e, OutOk.bind hn e h fun v μ1 I1 β1 H1 w q x1 s1 n1 r1 h1 => ?_⟩
  cases r1
  split at h1
  · exact iteT ⟨n0, I1, β1, ρ, μ1, n1, s1, e.ext x1, h1⟩
  · exact iteF ⟨n0, I1, β1, ρ, μ1, n1, s1, e.ext x1, h1⟩
def sBrk : Sc := fun _ ρ μ => .brk ρ μ
def sCont : Sc := fun _ ρ μ => .cont ρ μ
theorem ss_brk : SS C X W sBrk (.Break pos) := PS_imp ps_break fun D σ H h => by
  obtain ⟨n0, I, β, ρ, μ, hn, s, e, h⟩ := h
  exact h I β σ H (Ext.refl hn) s e
theorem ss_cont : SS C X W sCont (.Continue pos) := PS_imp ps_continue fun D σ H h => by
  obtain ⟨n0, I, β, ρ, μ, hn, s, e, h⟩ := h
  exact h I β σ H (Ext.refl hn) s e
/-! a, b = x, y (two locals) -/
def sPar (i j : Nat) (f g : Cd Val) : Sc := fun n0 ρ μ => lift (f ρ μ) ρ fun v μ1 => lift (g ρ μ1) ρ fun u μ2 => .next ((ρ.set i (some v)).set j (some u)) μ2
theorem ss_par {i j : Nat} {x y : Str} {a b : Expr} {f g : Cd Val} {px py pt : Pos} {kt k2 pt2} (hc : X.calm = true) (hN : X.N.Nodup) (hi : X.N[i]? = some x) (hj : X.N[j]? = some y) (hij : i ≠ j)
    (hx : X.env.scope.names.lookup x = some .local) (hy : X.env.scope.names.lookup y = some .local) (ha : SE C X W f a) (hb : SE C X W g b)
    (hw : swappedStores [.Tuple [.Name x px, .Name y py] kt pt] (.Tuple [a, b] k2 pt2) X.env = pure (some [x, y]))
    (hs : swapsWithSole [.Tuple [.Name x px, .Name y py] kt pt] (.Tuple [a, b] k2 pt2) pos.line X.env = pure false := by rfl) (h1 : starEach [a, b] X.env = (false, eval a X.env) :: starEach [b] X.env := by rfl) (h2 : starEach [b] X.env = (false, eval b X.env) :: starEach [] X.env := by rfl) :
    SS C X W (sPar i j f g) (.Assign [.Tuple [.Name x px, .Name y py] kt pt] (.Tuple [a, b] k2 pt2) pos) := PS_imp (ps_par hc hN hi hj hij hx hy (pa_cons ha (pa_cons hb pa_nil h2) h1) hw hs) fun D σ H h => by
  obtain ⟨n0, I, β, ρ, μ, hn, s, e, h⟩ := h
  refine ⟨I, β, ρ, μ, s, e, OutOk.bind hn e h fun v μ1 I1 β1 H1 w q x1 s1 n1 r1 h1 => ?_⟩
  refine ⟨I1, β1, ρ, μ1, s1, e.ext x1, OutOk.bind n1 (e.ext x1) h1 fun u μ2 I2 β2 H2 w2 q2 x2 s2 n2 r2 h2 => ?_⟩
  exact ⟨_, _, rfl, OutOk.here n2 s2 ((((e.ext x1).ext x2).set (r1.mono x2.imm x2.bet x2.len)).set r2) h2⟩
end
end FW


set_option Elab.async false
set_option linter.all false
set_option maxRecDepth 100000
set_option maxHeartbeats 1000000
namespace FW
open PySem PySem.Spec PyProof.Rows L2
section
variable {C : Ctx} {X : Cx} {W : WX} {pos : Pos} {K : PySem.W.Frag}

/-! ### cells are written -/
theorem getElem?_set_eq {α : Type} {l : List α} {i j : Nat} {a b : α} (h : (l.set i a)[j]? = some b) : (i = j ∧ b = a ∧ i < l.length) ∨ (i ≠ j ∧ l[j]? = some b) := by
  by_cases e : i = j
  · subst e
    by_cases hi : i < l.length
    · rw [List.getElem?_set_self hi] at h
      exact .inl ⟨rfl, (Option.some.inj h).symm, hi⟩
    · rw [List.getElem?_eq_none (by rw [List.length_set]; omega)] at h
      cases h
  · rw [List.getElem?_set_ne e] at h
    exact .inr ⟨e, h⟩
theorem SR.put {I : Hp} {β : Nat → Addr} {μ : Sto} {H : Hp} {l : Nat} {xs : List D} {ys : List V} (s : SR K I β μ H) (hl : l < μ.length) (t : RpAll K I ys xs) : SR K I β (μ.set l (.lst xs)) (upd H (β l) (.lst ys)) ∧ Ext μ.length I β μ H I β (μ.set l (.lst xs)) (upd H (β l) (.lst ys)) := by
  have some_at : ∃ o, H (β l) = some o := by
    have q := s.cell l _ (List.getElem?_eq_getElem hl)
    cases hc : μ[l] with
    | lst xs => rw [hc] at q; obtain ⟨ys, h1, _⟩ := q; exact ⟨_, h1⟩
    | dct kvs => rw [hc] at q; exact q.elim
  refine ⟨⟨fun a u e => ?_, fun m hm => ?_, fun a b ha hb => ?_, fun m c hc => ?_⟩, ⟨Sub.refl _, fun a e => ?_, fun _ _ => rfl, by rw [List.length_set]; exact Nat.le_refl _, fun a u e hb => ?_, fun m h1 h2 => ?_, fun _ _ e => .inl e⟩⟩
  · have : a ≠ β l := fun z => by rw [z, s.fr l hl] at e; cases e
    rw [upd_ne this]; exact s.imm a u e
  · rw [List.length_set] at hm; exact s.fr m hm
  · rw [List.length_set] at ha hb; exact s.inj a b ha hb
  · rcases getElem?_set_eq hc with ⟨rfl, rfl, _⟩ | ⟨hne, hc'⟩
    · exact ⟨ys, upd_same, t⟩
    · have hm : m < μ.length := (List.getElem?_eq_some_iff.mp hc').1
      have ne : β m ≠ β l := fun z => hne (s.inj _ _ hm hl z).symm
      have q := s.cell m c hc'
      cases c with
      | lst zs => obtain ⟨vs, h1, h2⟩ := q; exact ⟨vs, by rw [upd_ne ne]; exact h1, h2⟩
      | dct kvs => exact q
  · by_cases ha : a = β l
    · subst ha; rw [upd_same] at e; cases e
    · rw [upd_ne ha] at e; exact e
  · rw [upd_ne (fun z => hb l hl z.symm)]; exact e
  · rw [List.length_set] at h2; exact absurd h2 (Nat.not_lt.mpr h1)
/-- a new cell -/
theorem SR.alloc {I : Hp} {β : Nat → Addr} {μ : Sto} {H : Hp} {p : Addr} {xs : List D} {ys : List V} (s : SR K I β μ H) (hp : H p = none) (t : RpAll K I ys xs) :
    ∃ β', SR K I β' (μ ++ [.lst xs]) (upd H p (.lst ys)) ∧ Ext μ.length I β μ H I β' (μ ++ [.lst xs]) (upd H p (.lst ys)) ∧ β' μ.length = p := by
  have ow := s.not_cell hp
  obtain ⟨β', bl, bn⟩ : ∃ β' : Nat → Addr, (∀ m, m < μ.length → β' m = β m) ∧ β' μ.length = p :=
    ⟨fun m => if m = μ.length then p else β m, fun m hm => by show (if m = μ.length then p else β m) = β m; rw [if_neg (Nat.ne_of_lt hm)], by show (if μ.length = μ.length then p else β μ.length) = p; rw [if_pos rfl]⟩
  refine ⟨β', ⟨fun a u e => ?_, fun m hm => ?_, fun a b ha hb => ?_, fun m c hc => ?_⟩, ⟨Sub.refl _, fun a e => ?_, bl, by rw [List.length_append]; exact Nat.le_add_right _ _, fun a u e hb => Sub.new hp a u e, fun m h1 h2 => ?_, fun _ _ e => .inl e⟩, bn⟩
  · exact Sub.new hp a u (s.imm a u e)
  · rw [List.length_append, List.length_singleton] at hm
    by_cases q : m = μ.length
    · rw [q, bn]; exact ow.i
    · rw [bl m (by omega)]; exact s.fr m (by omega)
  · rw [List.length_append, List.length_singleton] at ha hb
    by_cases qa : a = μ.length
    · by_cases qb : b = μ.length
      · rw [qa, qb]; exact fun _ => rfl
      · rw [qa, bn, bl b (by omega)]
        exact fun z => (ow.b b (by omega) z.symm).elim
    · by_cases qb : b = μ.length
      · rw [qb, bn, bl a (by omega)]
        exact fun z => (ow.b a (by omega) z).elim
      · rw [bl a (by omega), bl b (by omega)]
        exact s.inj a b (by omega) (by omega)
  · by_cases q : m < μ.length
    · rw [List.getElem?_append_left q] at hc
      have z := s.cell m c hc
      rw [bl m q]
      cases c with
      | lst zs => obtain ⟨vs, h1, h2⟩ := z; exact ⟨vs, by rw [upd_ne (ow.b m q)]; exact h1, h2⟩
      | dct kvs => exact z
    · have hm : m < (μ ++ [Cell.lst xs]).length := (List.getElem?_eq_some_iff.mp hc).1
      rw [List.length_append, List.length_singleton] at hm
      have e : m = μ.length := by omega
      subst e
      rw [List.getElem?_append_right (Nat.le_refl _), Nat.sub_self] at hc
      cases hc
      rw [bn]
      exact ⟨ys, upd_same, t⟩
  · by_cases ha : a = p
    · subst ha; rw [upd_same] at e; cases e
    · rw [upd_ne ha] at e; exact e
  · rw [List.length_append, List.length_singleton] at h2
    have e : m = μ.length := by omega
    subst e
    rw [bn]
    exact .inl hp
/-! x = [a, b, ..]: a new cell -/
def sNew (i : Nat) (f : Cd (List Val)) : Sc := fun n0 ρ μ => lift (f ρ μ) ρ fun vs μ1 => match dats vs with
  | some xs => if lim xs.length = true then .next (ρ.set i (some (.loc μ1.length))) (μ1 ++ [.lst xs]) else .stuck
  | none => .stuck
theorem OutOk.alloc {D : Ends} {n0 i : Nat} {σ : L2.St} {I : Hp} {β : Nat → Addr} {ρ : Env} {μ : Sto} {H : Hp} {p : Addr} {xs : List PyData} {ys : List V} (hn : n0 ≤ μ.length) (s : SR K I β μ H) (e : ER C K I β ρ μ σ) (hp : H p = none) (t : RpAll K I ys xs)
    (h : OutOk C K W D n0 I β μ H (.next (ρ.set i (some (.loc μ.length))) (μ ++ [.lst xs]))) : D.nx (σ.set i (some (.ref p))) (upd H p (.lst ys)) := by
  obtain ⟨β', s', x', hb⟩ := s.alloc hp t
  exact h I β' _ _ (x'.lower hn (Nat.le_refl _)) s' ((e.ext x').set (v := .loc μ.length) ⟨by rw [hb], by rw [List.length_append]; exact Nat.lt_succ_self _⟩)
theorem ss_new {i : Nat} {x : Str} {es : List Expr} {f : Cd (List Val)} {pos' p2 : Pos} (hN : X.N.Nodup) (hi : X.N[i]? = some x) (hx : Loc X.env.scope x) (he : SA C X W f es) (hs : swapsWith (.List es p2) (some (.Name x pos')) pos.line X.env = pure false := by rfl)
    (hf : X.fn x = true ∨ X.env.scope.names.lookup x = some .local := by first | exact .inl rfl | exact .inr rfl | assumption) : SS C X W (sNew i f) (.Assign [.Name x pos'] (.List es p2) pos) := PS_imp (ps_set hN hi hx (pe_lst he) hs hf) fun D σ H h => by
  obtain ⟨n0, I, β, ρ, μ, hn, s, e, h⟩ := h
  refine ⟨I, β, ρ, μ, s, e, OutOk.bind hn e h fun vs μ1 I1 β1 H1 w q x1 s1 n1 r1 h1 => ?_⟩
  split at h1
  · rename_i xs hx
    split at h1
    · rename_i hl
      have rr := dats_rp r1 hx
      exact ⟨by rw [rr.length]; exact lim_size hl, fun p hp => OutOk.alloc n1 s1 (e.ext x1) hp rr h1⟩
    · exact h1.elim
  · exact h1.elim
/-! x = list(e): a new cell -/
def sNewL (i : Nat) (f : Cd Val) : Sc := fun n0 ρ μ => lift (f ρ μ) ρ fun v μ1 => match rd v μ1 with
  | some (.list xs) => .next (ρ.set i (some (.loc μ1.length))) (μ1 ++ [.lst xs])
  | some (.tuple xs) => .next (ρ.set i (some (.loc μ1.length))) (μ1 ++ [.lst xs])
  | _ => .stuck
theorem ss_newL {i : Nat} {x : Str} {e : Expr} {f : Cd Val} {pos' p2 p3 : Pos} (hN : X.N.Nodup) (hi : X.N[i]? = some x) (hx : Loc X.env.scope x) (he : SE C X W f e) (hg : Gl X "list") (hm : X.mg "list" = none) (hst : starEach [e] X.env = (false, eval e X.env) :: starEach [] X.env := by rfl) (hpl : (backTo p3 (starEach [] X.env)).any (·.1) = false := by rfl)
    (hs : swapsWith (.Call (.Name "list" p2) [e] [] p3) (some (.Name x pos')) pos.line X.env = pure false := by rfl)
    (hf : X.fn x = true ∨ X.env.scope.names.lookup x = some .local := by first | exact .inl rfl | exact .inr rfl | assumption) : SS C X W (sNewL i f) (.Assign [.Name x pos'] (.Call (.Name "list" p2) [e] [] p3) pos) :=
  PS_imp (ps_set hN hi hx (pe_callTy call_list_of hg hm (by decide +kernel) (pa_cons he pa_nil hst) (by decide) (by decide) hst hpl) hs hf) fun D σ H h => by
  obtain ⟨n0, I, β, ρ, μ, hn, s, e, h⟩ := h
  refine ⟨I, β, ρ, μ, s, e, OutOk.bind hn e h fun v μ1 I1 β1 H1 w q x1 s1 n1 r1 h1 => ?_⟩
  split at h1
  · rename_i xs hx
    obtain ⟨a, ys, rfl, g1, t1⟩ := (r1.rd s1 hx).of_list s1.imm
    exact ⟨a, ys, rfl, .inl g1, fun p hp => OutOk.alloc n1 s1 (e.ext x1) hp t1 h1⟩
  · rename_i xs hx
    obtain ⟨a, ys, rfl, g1, t1⟩ := (r1.rd s1 hx).of_tup
    exact ⟨a, ys, rfl, .inr (s1.imm.seqT g1), fun p hp => OutOk.alloc n1 s1 (e.ext x1) hp t1 h1⟩
  · exact h1.elim
/-! x[i] = e on a cell -/
def sPut (fo fi fe : Cd Val) : Sc := fun n0 ρ μ => lift (fe ρ μ) ρ fun v μ1 => lift (fo ρ μ1) ρ fun o μ2 => lift (fi ρ μ2) ρ fun k μ3 => match o, rd k μ3, v with
  | .loc l, some (.int j), .d x => match μ3[l]? with
    | some (.lst xs) => match ixN xs.length j with
      | some m => .next ρ (μ3.set l (.lst (xs.set m x)))
      | none => .stuck
    | _ => .stuck
  | _, _, _ => .stuck
theorem RpAll.set {I : Hp} {v : V} {d : D} (r : Rp K I v d) : ∀ {vs : List V} {ds : List D} (i : Nat), RpAll K I vs ds → RpAll K I (vs.set i v) (ds.set i d)
  | [], [], _, h => h
  | [], _ :: _, _, h => nomatch h.dp
  | _ :: _, [], _, h => nomatch h.dp
  | _ :: _, _ :: _, 0, h => .cons r h.head.2
  | _ :: _, _ :: _, i + 1, h => .cons h.head.1 (RpAll.set r i h.head.2)
theorem ss_put {o i e : Expr} {fo fi fe : Cd Val} {pos2 : Pos} (he : SE C X W fe e) (ho : SE C X W fo o) (hi : SE C X W fi i)
    (ha : ∀ v, assign (.Subscript o i pos2) X.env v = (do
      let ov ← holding [v] (eval o X.env)
      let iv ← holding [v, ov] (eval i X.env)
      standAt pos2
      holding [v, ov, iv] (setItem ov iv v)
      release [v, ov, iv] []) := by intro _; rfl)
    (hs : swapsWithSole [.Subscript o i pos2] e pos.line X.env = pure false := by rfl) (hw : swappedStores [.Subscript o i pos2] e X.env = pure none := by rfl)
    (h1 : (assignEach [.Subscript o i pos2] X.env).map (·.2) = [assign (.Subscript o i pos2) X.env] := by rfl) : SS C X W (sPut fo fi fe) (.Assign [.Subscript o i pos2] e pos) := PS_imp (ps_asg he (pg_sub ho hi set_list ha) hs hw h1) fun D σ H h => by
  obtain ⟨n0, I, β, ρ, μ, hn, s, e, h⟩ := h
  refine ⟨I, β, ρ, μ, s, e, OutOk.bind hn e h fun v μ1 I1 β1 H1 w q x1 s1 n1 r1 h1 => ?_⟩
  refine ⟨I1, β1, ρ, μ1, s1, e.ext x1, OutOk.bind n1 (e.ext x1) h1 fun o μ2 I2 β2 H2 w2 q2 x2 s2 n2 r2 h2 => ?_⟩
  refine ⟨I2, β2, ρ, μ2, s2, (e.ext x1).ext x2, OutOk.bind n2 ((e.ext x1).ext x2) h2 fun k μ3 I3 β3 H3 w3 q3 x3 s3 n3 r3 h3 => ?_⟩
  split at h3
  · rename_i l j x hj
    split at h3
    · rename_i xs hc
      split at h3
      · rename_i m hm
        have r1' : Rp X.K I3 w x := x3.imm.rp (x2.imm.rp r1)
        have r2' := r2.mono x3.imm x3.bet x3.len
        obtain ⟨rfl, hl⟩ := r2'
        obtain ⟨ys, g1, t1⟩ := s3.cell l _ hc
        refine ⟨β3 l, ys, j, m, rfl, (r3.rd s3 hj).of_int, g1, by rw [t1.length]; exact hm, ?_⟩
        obtain ⟨s', x'⟩ := s3.put hl (t1.set r1' m)
        exact h3 I3 β3 σ _ (x'.lower n3 (Nat.le_refl _)) s' ((((e.ext x1).ext x2).ext x3).ext x')
      · exact h3.elim
    · exact h3.elim
  · exact h3.elim
/-! x.append(e) -/
def sApp (fo fe : Cd Val) : Sc := fun n0 ρ μ => lift (fo ρ μ) ρ fun o μ1 => match o with
  | .loc l => match μ1[l]? with
    | some (.lst _) => lift (fe ρ μ1) ρ fun v μ2 => match v, μ2[l]? with
      | .d x, some (.lst xs) => if lim (xs.length + 1) = true then .next ρ (μ2.set l (.lst (xs ++ [x]))) else .stuck
      | _, _ => .stuck
    | _ => .stuck
  | _ => .stuck
theorem ss_app {o e : Expr} {fo fe : Cd Val} {apos cpos : Pos} (ho : SE C X W fo o) (he : SE C X W fe e)
    (hbase : attributeBase o "append" X.env (eval o X.env) = eval o X.env := by rfl)
    (hfew : ((backTo cpos (starEach [e] X.env)).all (fun x => !x.1) && (backToKw cpos (keywordEach [] X.env)).all (fun x => x.1.isSome)
      && decide ([e].length + ([] : List Keyword).length + (if ([] : List Keyword).isEmpty then 0 else 1) < 30)) = true := by rfl)
    (hline : (apos.endLine == cpos.line) = true := by rfl) (hst : starEach [e] X.env = (false, eval e X.env) :: starEach [] X.env := by rfl) (hplain : (backTo cpos (starEach [] X.env)).any (·.1) = false := by rfl)
    (hs : swapsWith (.Call (.Attribute o "append" apos) [e] [] cpos) none pos.line X.env = pure false := by rfl) : SS C X W (sApp fo fe) (.Expr (.Call (.Attribute o "append" apos) [e] [] cpos) pos) :=
  PS_imp (ps_expr (pe_bm PySem.F.plainAttrs_list PySem.F.slot_list_append PySem.F.type_list_append mt_append ho (pa_cons he pa_nil hst) hbase hfew hline hst hplain) hs) fun D σ H h => by
  obtain ⟨n0, I, β, ρ, μ, hn, s, e, h⟩ := h
  refine ⟨I, β, ρ, μ, s, e, OutOk.bind hn e h fun o μ1 I1 β1 H1 w q x1 s1 n1 r1 h1 => ?_⟩
  cases o with
  | d x => exact h1.elim
  | exn => exact h1.elim
  | loc l =>
    obtain ⟨rfl, hl⟩ := r1
    cases hc : μ1[l]? with
    | none => simp only [hc] at h1; exact h1.elim
    | some c =>
      have q0 := s1.cell l c hc
      cases c with
      | dct kvs => exact q0.elim
      | lst xs0 =>
        simp only [hc] at h1
        obtain ⟨ys0, g0, t0⟩ := q0
        refine ⟨.inl ⟨rfl, ys0, SqL.of g0⟩, I1, β1, ρ, μ1, s1, e.ext x1, OutOk.bind n1 (e.ext x1) h1 fun v μ2 I2 β2 H2 w2 q2 x2 s2 n2 r2 h2 => ?_⟩
        split at h2
        · rename_i x xs hc2
          split at h2
          · rename_i hlim
            obtain ⟨ys, g1, t1⟩ := s2.cell l _ hc2
            have hl2 : l < μ2.length := Nat.lt_of_lt_of_le hl x2.len
            have eb : β1 l = β2 l := (x2.bet l hl).symm
            obtain ⟨s', x'⟩ := s2.put hl2 (t1.app (.cons r2 .nil))
            refine ⟨β1 l, ys, w2, rfl, rfl, by rw [eb]; exact g1, ?_, ?_⟩
            · have := lim_size hlim
              have z := t1.length
              omega
            · rw [eb]
              exact h2 I2 β2 σ _ (x'.lower n2 (Nat.le_refl _)) s' (((e.ext x1).ext x2).ext x')
          · exact h2.elim
        · exact h2.elim
end
end FW


set_option Elab.async false
set_option linter.all false
set_option maxRecDepth 100000
set_option maxHeartbeats 1000000
namespace FW
open PySem PySem.Spec PyProof.Rows L2
section
variable {C : Ctx} {X : Cx} {W : WX} {pos : Pos} {K : PySem.W.Frag}

/-! ### while -/
def whN (c : Cd Bool) (b : Sc) : Nat → Sc
  | 0, _, _, _ => .stuck
  | k + 1, n0, ρ, μ => lift (c ρ μ) ρ fun t μ1 => match t with
    | false => .next ρ μ1
    | true => match b n0 ρ μ1 with
      | .next ρ2 μ2 => whN c b k n0 ρ2 μ2
      | .cont ρ2 μ2 => whN c b k n0 ρ2 μ2
      | .brk ρ2 μ2 => .next ρ2 μ2
      | o => o
theorem whN_more {c : Cd Bool} {b : Sc} : ∀ {k : Nat} {n0 : Nat} {ρ : Env} {μ : Sto}, whN c b k n0 ρ μ ≠ .stuck → whN c b (k + 1) n0 ρ μ = whN c b k n0 ρ μ
  | 0, n0, ρ, μ, h => (h rfl).elim
  | k + 1, n0, ρ, μ, h => by
    have e1 : whN c b (k + 1 + 1) n0 ρ μ = lift (c ρ μ) ρ fun t μ1 => match t with
      | false => .next ρ μ1
      | true => match b n0 ρ μ1 with
        | .next ρ2 μ2 => whN c b (k + 1) n0 ρ2 μ2
        | .cont ρ2 μ2 => whN c b (k + 1) n0 ρ2 μ2
        | .brk ρ2 μ2 => .next ρ2 μ2
        | o => o := rfl
    have e2 : whN c b (k + 1) n0 ρ μ = lift (c ρ μ) ρ fun t μ1 => match t with
      | false => .next ρ μ1
      | true => match b n0 ρ μ1 with
        | .next ρ2 μ2 => whN c b k n0 ρ2 μ2
        | .cont ρ2 μ2 => whN c b k n0 ρ2 μ2
        | .brk ρ2 μ2 => .next ρ2 μ2
        | o => o := rfl
    rw [e2] at h
    rw [e1, e2]
    cases hc : c ρ μ with
    | stuck => rfl
    | exc cn pl μ' => rfl
    | ok t μ1 =>
      rw [hc] at h
      cases t with
      | false => rfl
      | true =>
        simp only [lift] at h ⊢
        cases hb : b n0 ρ μ1 with
        | next ρ2 μ2 => rw [hb] at h; exact whN_more h
        | cont ρ2 μ2 => rw [hb] at h; exact whN_more h
        | brk _ _ => rfl
        | ret _ _ => rfl
        | exc _ _ _ _ => rfl
        | stuck => rfl
theorem whN_le {c : Cd Bool} {b : Sc} {k : Nat} {n0 : Nat} {ρ : Env} {μ : Sto} (h : whN c b k n0 ρ μ ≠ .stuck) : ∀ d, whN c b (k + d) n0 ρ μ = whN c b k n0 ρ μ
  | 0 => rfl
  | d + 1 => by
    have ih := whN_le h d
    have z : whN c b (k + d) n0 ρ μ ≠ .stuck := by rw [ih]; exact h
    exact (whN_more z).trans ih
theorem whN_same {c : Cd Bool} {b : Sc} {j k : Nat} {n0 : Nat} {ρ : Env} {μ : Sto} (h1 : whN c b j n0 ρ μ ≠ .stuck) (h2 : whN c b k n0 ρ μ ≠ .stuck) : whN c b j n0 ρ μ = whN c b k n0 ρ μ := by
  rcases Nat.le_total j k with h | h
  · obtain ⟨d, rfl⟩ := Nat.le.dest h
    exact (whN_le h1 d).symm
  · obtain ⟨d, rfl⟩ := Nat.le.dest h
    exact whN_le h2 d
/-- turns enough -/
def fuel : Nat := 1000000000000000000000000000000
def sWh (c : Cd Bool) (b : Sc) : Sc := whN c b fuel
theorem sWh_of {c : Cd Bool} {b : Sc} {k : Nat} {n0 : Nat} {ρ : Env} {μ : Sto} (hk : k ≤ fuel) (h : whN c b k n0 ρ μ ≠ .stuck) : sWh c b n0 ρ μ = whN c b k n0 ρ μ := by
  obtain ⟨d, e⟩ := Nat.le.dest hk
  unfold sWh
  rw [← e]
  exact whN_le h d
theorem ss_wh {c : Expr} {body : List Stmt} {t : Cd Bool} {f : Sc} (hp : PassesOwn (model X.prog X.w) X.A X.env X.xe) (hc : ST C X W t c) (hb : SSs C X W f body) : SS C X W (sWh t f) (.While c body [] pos) := PS_imp (ps_while hp hc hb) fun D σ H h => by
  obtain ⟨n0, I, β, ρ, μ, hn, s, e, h⟩ := h
  refine ⟨fun m σ' H' => ∃ I' β' ρ' μ', Ext n0 I β μ H I' β' μ' H' ∧ SR X.K I' β' μ' H' ∧ ER C X.K I' β' ρ' μ' σ' ∧ OutOk C X.K W D n0 I' β' μ' H' (whN t f m n0 ρ' μ'), ⟨fuel, I, β, ρ, μ, Ext.refl hn, s, e, h⟩, ?_⟩
  rintro m σ1 H1 ⟨I1, β1, ρ1, μ1, x1, s1, e1, h1⟩
  cases m with
  | zero => exact h1.elim
  | succ m =>
    refine ⟨I1, β1, ρ1, μ1, s1, e1, OutOk.bind x1.len e1 h1 fun b μ2 I2 β2 H2 b' q x2 s2 n2 r2 h2 => ?_⟩
    cases r2
    have x12 : Ext n0 I β μ H I2 β2 μ2 H2 := x1.trans hn (x2.lower x1.len (Nat.le_refl _))
    cases b with
    | false => exact iteF (OutOk.here n2 s2 (e1.ext x2) h2)
    | true =>
      refine iteT ⟨fun σ' H' => ∃ m', m' < m + 1 ∧ ∃ I' β' ρ' μ', Ext n0 I β μ H I' β' μ' H' ∧ SR X.K I' β' μ' H' ∧ ER C X.K I' β' ρ' μ' σ' ∧ OutOk C X.K W D n0 I' β' μ' H' (whN t f m' n0 ρ' μ'), fun _ _ z => z, n0, I2, β2, ρ1, μ2, n2, s2, e1.ext x2, ?_⟩
      cases hf : f n0 ρ1 μ2 with
      | next ρ3 μ3 =>
        rw [hf] at h2
        exact fun I' β' σ' H' x' s' e' => ⟨m, Nat.lt_succ_self _, I', β', ρ3, μ3, x12.trans hn x', s', e', OutOk.re n2 x' h2⟩
      | cont ρ3 μ3 =>
        rw [hf] at h2
        exact fun I' β' σ' H' x' s' e' => ⟨m, Nat.lt_succ_self _, I', β', ρ3, μ3, x12.trans hn x', s', e', OutOk.re n2 x' h2⟩
      | brk ρ3 μ3 => rw [hf] at h2; exact h2
      | ret v μ3 => rw [hf] at h2; exact h2
      | exc cn pl ρ3 μ3 => rw [hf] at h2; exact h2
      | stuck => rw [hf] at h2; exact h2.elim
/-! ### for -/
theorem rvs_get {I : Hp} {β : Nat → Addr} {n : Nat} : ∀ {vs : List Val} {ws : List V} {i : Nat} {v : Val}, RVs C K I β n vs ws → vs[i]? = some v → ∃ w, ws[i]? = some w ∧ RV C K I β n v w
  | _, _, _, _, .nil, e => by simp at e
  | _, _, 0, _, .cons r _, e => by simp at e; subst e; exact ⟨_, rfl, r⟩
  | _, _, i + 1, v, .cons _ t, e => by
    obtain ⟨u, h1, h2⟩ := rvs_get (i := i) t (by simpa using e)
    exact ⟨u, by simpa using h1, h2⟩
def forRun (bd : D → Env → Option Env) (b : Sc) (n0 : Nat) : List D → Env → Sto → O
  | [], ρ, μ => .next ρ μ
  | x :: xs, ρ, μ => match bd x ρ with
    | none => .stuck
    | some ρ1 => match b n0 ρ1 μ with
      | .next ρ2 μ2 => forRun bd b n0 xs ρ2 μ2
      | .cont ρ2 μ2 => forRun bd b n0 xs ρ2 μ2
      | .brk ρ2 μ2 => .next ρ2 μ2
      | o => o
def sFor (fw : Cd Walked) (bd : D → Env → Option Env) (b : Sc) : Sc := fun n0 ρ μ => lift (fw ρ μ) ρ fun w μ1 => match w.2 with
  | none => forRun bd b n0 w.1 ρ μ1
  | some _ => .stuck
theorem ss_for {tg iter : Expr} {body : List Stmt} {g : TG} {fw : Cd Walked} {vs : List Nat} {bd : D → Env → Option Env} {f : Sc} (hp : PassesOwn (model X.prog X.w) X.A X.env X.xe) (hc : X.calm = true) (hi : SI C X W tg fw iter) (hg : PG X tg g) (hb : Bd X.K vs g bd) (hbody : SSs C X W f body)
    (hs : ∀ x, foldedSetIterable iter X.env x = pure x := by intro _; rfl) : SS C X W (sFor fw bd f) (.For tg iter body [] pos) := PS_imp (ps_for hp hc hi hg hbody hs) fun D σ H h => by
  obtain ⟨n0, I, β, ρ, μ, hn, s, e, h⟩ := h
  refine ⟨I, β, ρ, μ, s, e, OutOk.bind hn e h fun w μ1 I1 β1 H1 J q x1 s1 n1 r1 h1 => ?_⟩
  obtain ⟨xs, gd⟩ := w
  cases gd with
  | some l => exact h1.elim
  | none =>
    simp only at h1
    refine ⟨fun i m σ' H' => m = xs.length - i ∧ i ≤ xs.length ∧ ∃ I' β' ρ' μ', Ext n0 I1 β1 μ1 H1 I' β' μ' H' ∧ SR X.K I' β' μ' H' ∧ ER C X.K I' β' ρ' μ' σ' ∧ OutOk C X.K W D n0 I' β' μ' H' (forRun bd f n0 (xs.drop i) ρ' μ'), ⟨_, rfl, Nat.zero_le _, I1, β1, ρ, μ1, Ext.refl n1, s1, e.ext x1, h1⟩, ?_⟩
    rintro i m σ' H' ⟨rfl, him, I', β', ρ', μ', x', s', e', h'⟩
    have hwh : WH X.K I' β' (xs, none) H' := ⟨s'.imm, fun l z => nomatch z⟩
    by_cases hlt : i < xs.length
    · refine .inr ⟨r1.go I' β' H' i x'.imm (fun l z => nomatch z) hwh hlt, fun σ2 H2 => ∃ m', m' < xs.length - i ∧ (m' = xs.length - (i + 1) ∧ i + 1 ≤ xs.length ∧ ∃ I' β' ρ' μ', Ext n0 I1 β1 μ1 H1 I' β' μ' H2 ∧ SR X.K I' β' μ' H2 ∧ ER C X.K I' β' ρ' μ' σ2 ∧ OutOk C X.K W D n0 I' β' μ' H2 (forRun bd f n0 (xs.drop (i + 1)) ρ' μ')), fun _ _ z => z, ?_⟩
      intro v H2 hy
      obtain ⟨x, hx⟩ : ∃ x, xs[i]? = some x := ⟨_, List.getElem?_eq_getElem hlt⟩
      have hdrop : xs.drop i = x :: xs.drop (i + 1) := by
        rw [List.drop_eq_getElem_cons hlt]
        congr 1
        rw [List.getElem?_eq_getElem hlt] at hx
        exact Option.some.inj hx
      rw [hdrop] at h'
      have key : ∃ I2, SR X.K I2 β' μ' H2 ∧ ER C X.K I2 β' ρ' μ' σ' ∧ Ext μ'.length I' β' μ' H' I2 β' μ' H2 ∧ Rp X.K I2 v x := by
        rcases r1.yld I' β' H' i v H2 x x'.imm (fun l z => nomatch z) hwh hx hy with ⟨rfl, rp⟩ | ⟨p, o, hp, rfl, rp⟩
        · exact ⟨I', s', e', Ext.refl (Nat.le_refl _), rp⟩
        · obtain ⟨s2, x2⟩ := s'.lay (o := o) hp
          exact ⟨_, s2, e'.ext x2, x2, rp⟩
      obtain ⟨I2, s2, e2, x2, rp⟩ := key
      have x2' := x2.lower x'.len (Nat.le_refl _)
      have h2 := OutOk.re x'.len x2' h'
      unfold forRun at h2
      cases hbd : bd x ρ' with
      | none => rw [hbd] at h2; exact h2.elim
      | some ρ1 =>
        simp only [hbd] at h2
        refine hb C I2 β' ρ' ρ1 μ' σ' v x H2 _ s2.imm e2 rp hbd fun σ2 e3 _ => ?_
        refine ⟨n0, I2, β', ρ1, μ', x'.len, s2, e3, ?_⟩
        have x12 := x'.trans n1 x2'
        cases hf : f n0 ρ1 μ' with
        | next ρ3 μ3 =>
          rw [hf] at h2
          exact fun I' β' σ' H' x' s' e' => ⟨_, by omega, rfl, by omega, I', β', ρ3, μ3, x12.trans n1 x', s', e', OutOk.re x2'.len x' h2⟩
        | cont ρ3 μ3 =>
          rw [hf] at h2
          exact fun I' β' σ' H' x' s' e' => ⟨_, by omega, rfl, by omega, I', β', ρ3, μ3, x12.trans n1 x', s', e', OutOk.re x2'.len x' h2⟩
        | brk ρ3 μ3 => rw [hf] at h2; exact h2
        | ret v μ3 => rw [hf] at h2; exact h2
        | exc cn pl ρ3 μ3 => rw [hf] at h2; exact h2
        | stuck => rw [hf] at h2; exact h2.elim
    · have hie : i = xs.length := Nat.le_antisymm him (Nat.le_of_not_lt hlt)
      subst hie
      rw [List.drop_length] at h'
      exact .inl ⟨r1.stop I' β' H' x'.imm (fun l z => nomatch z) hwh, OutOk.here x'.len s' e' h'⟩
/-! ### the call of a def -/
def fin (n : Nat) (v : Val) (μ : Sto) : R Val := match v with
  | .d x => .ok (.d x) (μ.take n)
  | .loc l => if l < n then .ok (.loc l) (μ.take n) else match μ[l]? with
    | some (.lst xs) => .ok (.d (.list xs)) (μ.take n)
    | _ => .stuck
  | .exn => .stuck
/-- a new cell is handed back as such -/
def finK (n : Nat) (v : Val) (μ : Sto) : R Val := match v with
  | .loc l => if l < n then .stuck else match μ[l]? with
    | some (.lst xs) => .ok (.loc n) (μ.take n ++ [.lst xs])
    | _ => .stuck
  | _ => .stuck
def ending (fn : Nat → Val → Sto → R Val) (n : Nat) : O → R Val
  | .next _ μ => fn n (.d .none) μ
  | .ret v μ => fn n v μ
  | .exc cn pl _ μ => .exc cn pl (μ.take n)
  | _ => .stuck
abbrev Fn := List Val → Sto → R Val
def runFn (fn : Nat → Val → Sto → R Val) (slots : Nat) (b : Sc) : Fn := fun vs μ => ending fn μ.length (b μ.length (vs.map some ++ List.replicate (slots - vs.length) none) μ)
/-- the promise -/
def spF (C : Ctx) (K : PySem.W.Frag) (n : Nat) (F : Fn) : Sp := fun ws H Q E => ∃ I β vs μ, SR K I β μ H ∧ RVs C K I β μ.length vs ws ∧ vs.length = n ∧ Res C K (fun cls d _ H => E cls d H) [] I β μ H (RV C K) Q (F vs μ)
/-- dropping cells -/
theorem Ext.cut {n : Nat} {I I1 : Hp} {β β1 : Nat → Addr} {μ μ1 : Sto} {H H1 : Hp} (x : Ext n I β μ H I1 β1 μ1 H1) (hn : n = μ.length) : Ext n I β μ H I1 β1 (μ1.take n) H1 where
  imm := x.imm
  dom := x.dom
  bet := x.bet
  len := by rw [List.length_take]; exact Nat.le_min.mpr ⟨Nat.le_refl _, x.len⟩
  fram := x.fram
  new := fun l h1 h2 => by
    rw [List.length_take] at h2
    exact absurd h1 (Nat.not_le.mpr (Nat.lt_of_lt_of_le h2 (Nat.min_le_left _ _)))
  imn := x.imn
theorem SR.cut {I : Hp} {β : Nat → Addr} {μ : Sto} {H : Hp} (s : SR K I β μ H) (n : Nat) : SR K I β (μ.take n) H where
  imm := s.imm
  fr := fun l hl => s.fr l (Nat.lt_of_lt_of_le hl (by rw [List.length_take]; exact Nat.min_le_right _ _))
  inj := fun l m hl hm => s.inj l m (Nat.lt_of_lt_of_le hl (by rw [List.length_take]; exact Nat.min_le_right _ _)) (Nat.lt_of_lt_of_le hm (by rw [List.length_take]; exact Nat.min_le_right _ _))
  cell := fun l c h => by
    refine s.cell l c ?_
    have hl : l < (μ.take n).length := (List.getElem?_eq_some_iff.mp h).1
    rw [List.length_take] at hl
    rw [List.getElem?_take, if_pos (by omega)] at h
    exact h
theorem ER.start {I : Hp} {β : Nat → Addr} {μ : Sto} {N : List Str} {vs : List Val} {ws : List V} (hC : C.ed = none) (r : RVs C K I β μ.length vs ws) : ER C K I β (vs.map some ++ List.replicate (N.length - vs.length) none) μ (L2.start N ws) where
  len := by
    have := Paired.length r
    unfold L2.start
    rw [List.length_append, List.length_append, List.length_map, List.length_map, List.length_replicate, List.length_replicate, this]
  get := fun i v h => by
    have hl := Paired.length r
    unfold L2.start
    by_cases hi : i < vs.length
    · rw [List.getElem?_append_left (by rw [List.length_map]; exact hi), List.getElem?_map] at h
      rw [List.getElem?_append_left (by rw [List.length_map]; omega), List.getElem?_map]
      cases q : vs[i]? with
      | none => rw [q] at h; cases h
      | some v' =>
        rw [q] at h
        obtain rfl : v' = v := by simpa using h
        obtain ⟨w, h1, h2⟩ := rvs_get r q
        exact ⟨w, by rw [h1]; rfl, h2⟩
    · rw [List.getElem?_append_right (by rw [List.length_map]; omega)] at h
      have := (List.getElem?_eq_some_iff.mp h)
      obtain ⟨h1, h2⟩ := this
      rw [List.getElem_replicate] at h2
      cases h2
  ex := fun dd cn pl h => by rw [hC] at h; cases h
end
end FW


set_option Elab.async false
set_option linter.all false
set_option maxRecDepth 100000
set_option maxHeartbeats 1000000
namespace FW
open PySem PySem.Spec PyProof.Rows L2
section
variable {C : Ctx} {X : Cx} {W : WX} {pos : Pos} {K : PySem.W.Frag}
/-! ### a def keeps its promise -/
/-- how a result is handed back -/
def FinOk (fn : Nat → Val → Sto → R Val) : Prop := ∀ (C : Ctx) (K : PySem.W.Frag) (W : WX) (I : Hp) (β : Nat → Addr) (μ : Sto) (H : Hp) (Q : VK) (v : Val) (μ1 : Sto) (I1 : Hp) (β1 : Nat → Addr) (H1 : Hp) (w : V),
  Res C K W [] I β μ H (RV C K) Q (fn μ.length v μ1) → Ext μ.length I β μ H I1 β1 μ1 H1 → SR K I1 β1 μ1 H1 → RV C K I1 β1 μ1.length v w → Q w H1
theorem fin_ok : FinOk fin := by
  intro C K W I β μ H Q v μ1 I1 β1 H1 w h x s r
  unfold fin at h
  cases v with
  | d y => exact h I1 β1 H1 w (x.cut rfl) (s.cut _) r
  | exn => exact h.elim
  | loc l =>
    obtain ⟨rfl, hl⟩ := r
    simp only at h
    split at h
    · rename_i hlt
      exact h I1 β1 H1 _ (x.cut rfl) (s.cut _) ⟨rfl, by rw [List.length_take]; exact Nat.lt_min.mpr ⟨hlt, hl⟩⟩
    · rename_i hge
      have hge := Nat.le_of_not_lt hge
      split at h
      · rename_i xs hc
        obtain ⟨ys, g1, t1⟩ := s.cell l _ hc
        have hnone : H (β1 l) = none := by
          rcases x.new l hge hl with z | ⟨m, h1, h2, _⟩
          · exact z
          · exact absurd h2 (Nat.not_lt.mpr h1)
        have ow : Own I1 β1 (μ1.take μ.length).length (β1 l) := ⟨s.fr l hl, fun m hm z => by
          rw [List.length_take] at hm
          have : m = l := s.inj m l (by omega) hl z
          omega⟩
        exact h _ β1 H1 _ ((x.cut rfl).frz hnone ow.i) ((s.cut _).freeze ow g1) (Rp.list (SqL.of upd_same) ((Sub.new ow.i).rpAll t1))
      · exact h.elim
theorem finK_ok : FinOk finK := by
  intro C K W I β μ H Q v μ1 I1 β1 H1 w h x s r
  unfold finK at h
  cases v with
  | d y => exact h.elim
  | exn => exact h.elim
  | loc l =>
    obtain ⟨rfl, hl⟩ := r
    simp only at h
    split at h
    · exact h.elim
    · rename_i hge
      have hge := Nat.le_of_not_lt hge
      split at h
      · rename_i xs hc
        have hq := s.cell l _ hc
        have hnone : H (β1 l) = none := by
          rcases x.new l hge hl with z | ⟨m, h1, h2, _⟩
          · exact z
          · exact absurd h2 (Nat.not_lt.mpr h1)
        have tl : (μ1.take μ.length).length = μ.length := by rw [List.length_take]; exact Nat.min_eq_left x.len
        obtain ⟨β', bl, bn⟩ : ∃ β' : Nat → Addr, (∀ m, m < μ.length → β' m = β1 m) ∧ β' μ.length = β1 l :=
          ⟨fun m => if m = μ.length then β1 l else β1 m, fun m hm => by show (if m = μ.length then β1 l else β1 m) = β1 m; rw [if_neg (Nat.ne_of_lt hm)], by show (if μ.length = μ.length then β1 l else β1 μ.length) = β1 l; rw [if_pos rfl]⟩
        have ll : (μ1.take μ.length ++ [Cell.lst xs]).length = μ.length + 1 := by rw [List.length_append, tl]; rfl
        refine h I1 β' H1 (.ref (β1 l)) ⟨x.imm, x.dom, fun m hm => (bl m hm).trans (x.bet m hm), by rw [ll]; exact Nat.le_succ _, x.fram, fun m h1 h2 => ?_, x.imn⟩ ⟨s.imm, fun m hm => ?_, fun a b ha hb => ?_, fun m c hm => ?_⟩ ⟨by rw [bn], by rw [ll]; exact Nat.lt_succ_self _⟩
        · rw [ll] at h2
          have e : m = μ.length := by omega
          subst e
          rw [bn]; exact .inl hnone
        · rw [ll] at hm
          by_cases q : m = μ.length
          · rw [q, bn]; exact s.fr l hl
          · rw [bl m (by omega)]; exact s.fr m (by have := x.len; omega)
        · rw [ll] at ha hb
          have hx := x.len
          by_cases qa : a = μ.length
          · by_cases qb : b = μ.length
            · rw [qa, qb]; exact fun _ => rfl
            · rw [qa, bn, bl b (by omega)]
              intro z
              have := s.inj l b hl (by omega) z
              omega
          · by_cases qb : b = μ.length
            · rw [qb, bn, bl a (by omega)]
              intro z
              have := s.inj a l (by omega) hl z
              omega
            · rw [bl a (by omega), bl b (by omega)]
              exact s.inj a b (by omega) (by omega)
        · by_cases q : m < μ.length
          · rw [List.getElem?_append_left (by rw [tl]; exact q), List.getElem?_take, if_pos q] at hm
            rw [bl m q]
            exact s.cell m c hm
          · have hm2 : m < (μ1.take μ.length ++ [Cell.lst xs]).length := (List.getElem?_eq_some_iff.mp hm).1
            rw [ll] at hm2
            have e : m = μ.length := by omega
            subst e
            rw [List.getElem?_append_right (by rw [tl]; exact Nat.le_refl _), tl, Nat.sub_self] at hm
            cases hm
            rw [bn]
            exact hq
      · exact h.elim
theorem fn_ok {P : Program} {w : World} {mg : Str → Option Value} {base : Heap} {x qual : Str} {st : Stmt} {f : Addr} {fd : FuncData} {N ps : List Str} {k : Nat} {b : Sc} {fn : Nat → Val → Sto → R Val} (F : L2.Fun K x qual st f fd) (S : FnScope N ps (defScope st)) (hC : C.ed = none) (hfn : FinOk fn) (hk : N.length = n)
    (hbody : ∀ (cdv : Value) (A : Around) (outer : List PySem.Env) (s : Shared) (H : Hp) (E : XK), Room k (A.deeper (envOfC qual (defScope st) s.heap.objs.size f cdv)) → SSs C (cxOf (L2.CX P w) P w K mg base N qual (defScope st) f cdv A outer s H E) (fun cls d _ H => E cls d H) b (defBody st)) :
    FnOk P w K mg base (L2.CX P w) (k + 1) f fd ps (spF C K ps.length (runFn fn n b)) := by
  subst hk
  refine F.okX S (fun vs H Q E h => ?_) (fun cdv A outer s H vs Q E hr hsp => ⟨_, hbody cdv A outer s H E hr, ?_⟩)
  · obtain ⟨I, β, as, μ, _, r, hl, _⟩ := h
    rw [← hl]
    exact (Paired.length r).symm
  · obtain ⟨I, β, as, μ, s', r, hl, h⟩ := hsp
    refine ⟨μ.length, I, β, _, μ, Nat.le_refl _, s', ER.start hC r, ?_⟩
    unfold runFn at h
    cases ho : b μ.length (as.map some ++ List.replicate (N.length - as.length) none) μ with
    | next ρ1 μ1 =>
      rw [ho] at h
      exact fun I1 β1 σ1 H1 x1 s1 e1 => hfn C K _ I β μ H Q (.d .none) μ1 I1 β1 H1 .non h x1 s1 Rp.non
    | ret v μ1 =>
      rw [ho] at h
      exact fun I1 β1 H1 w x1 s1 r1 => hfn C K _ I β μ H Q v μ1 I1 β1 H1 w h x1 s1 r1
    | brk ρ1 μ1 => rw [ho] at h; exact h.elim
    | cont ρ1 μ1 => rw [ho] at h; exact h.elim
    | exc cn pl ρ1 μ1 =>
      rw [ho] at h
      exact fun I1 β1 σ1 H1 cls dd x1 s1 e1 z => h I1 β1 H1 cls dd (x1.cut rfl) (s1.cut _) z
    | stuck => rw [ho] at h; exact h.elim
/-- a def that is never entered: level 0 -/
theorem fn_none {P : Program} {w : World} {mg : Str → Option Value} {base : Heap} {f : Addr} {fd : FuncData} {ps : List Str} {k : Nat} : FnOk P w K mg base (L2.CX P w) k f fd ps (spF C K ps.length (fun _ _ => .stuck)) :=
  ⟨fun vs H Q E h => by obtain ⟨I, β, as, μ, _, r, hl, z⟩ := h; exact z.elim, fun A outer s H args us vs Q E _ _ _ _ h => by obtain ⟨I, β, as, μ, _, r, hl, z⟩ := h; exact z.elim⟩
/-! ### its call -/
def notExn : Val → Bool
  | .exn => false
  | _ => true
def cCall (n : Nat) (F : Fn) (g : Cd (List Val)) : Cd Val := fun ρ μ => (g ρ μ).bind fun vs μ1 => if vs.length = n ∧ vs.all notExn = true then match F vs μ1 with
    | .ok v μ2 => if notExn v = true then .ok v μ2 else .stuck
    | o => o
  else .stuck
theorem RV.other {C C' : Ctx} {I : Hp} {β : Nat → Addr} {n : Nat} {v : Val} {w : V} (h : RV C K I β n v w) (e : notExn v = true) : RV C' K I β n v w := by
  cases v with
  | d x => exact h
  | loc l => exact h
  | exn => cases e
theorem RVs.other {C C' : Ctx} {I : Hp} {β : Nat → Addr} {n : Nat} : ∀ {vs : List Val} {ws : List V}, RVs C K I β n vs ws → vs.all notExn = true → RVs C' K I β n vs ws
  | [], _, .nil, _ => .nil
  | v :: vs, _, .cons r t, e => by
    rw [List.all_cons, Bool.and_eq_true] at e
    exact .cons (r.other e.1) (RVs.other t e.2)
theorem se_call {C0 : Ctx} {n k : Nat} {Φ : Fn} {f : Addr} {fd : FuncData} {ps : List Str} {x : Str} {p : Pos} {e : Expr} {es : List Expr} {g : Cd (List Val)} (F : FnOk X.prog X.w X.K X.mg X.base (L2.CX X.prog X.w) k f fd ps (spF C0 X.K n Φ)) (hr : Room k X.A) (hg : Gl X x) (hm : X.mg x = some (.ref f)) (hk : PySem.W.keepIn X.K (.ref f) = true) (hb : Binds X.K fd ps []) (hca : C.ca = C0.ca) (tk : Takes X W)
    (ha : SA C X W g (e :: es)) (hdb : (x == ("__debug__" : Str)) = false := by decide) (he : starEach (e :: es) X.env = (false, eval e X.env) :: starEach es X.env := by rfl) (hpl : (backTo pos (starEach es X.env)).any (·.1) = false := by rfl) :
    SE C X W (cCall n Φ g) (.Call (.Name x p) (e :: es) [] pos) := PE_imp (pe_callSD (E := WE W) F hr hg hm hk hb .nil (fun σ => passAt tk σ) ha hdb he hpl) fun σ H Q h => by
  obtain ⟨I, β, ρ, μ, s, e, h⟩ := h
  refine ⟨I, β, ρ, μ, s, e, Res.bind h fun vs μ1 I1 β1 H1 ws q x1 s1 r1 h1 => ?_⟩
  split at h1
  · rename_i hl
    refine ⟨I1, β1, vs, μ1, s1, by rw [List.append_nil]; exact r1.other hl.2, hl.1, ?_⟩
    cases hF : Φ vs μ1 with
    | ok v μ2 =>
      rw [hF] at h1
      simp only at h1
      split at h1
      · rename_i hv
        exact fun I' β' H' t x' s' r' => h1 I' β' H' t x' s' (r'.other hv)
      · exact h1.elim
    | exc cn pl μ2 =>
      rw [hF] at h1
      exact fun I' β' H' cls dd x' s' z => h1 I' β' H' cls dd x' s' ⟨by rw [hca]; exact z.1, z.2⟩
    | stuck => rw [hF] at h1; exact h1
  · exact h1.elim
/-! ### raise -/
/-- a class whose making is known -/
def tMkX (cn : Str) (A : Addr) (ta : TA) : L2.St → Hp → XK → Prop := fun σ H Q => ta σ H fun vs H1 => ∃ v, vs = [v] ∧ ∀ d, H1 d = none → Q (.ref A) (some d) (upd H1 d (.xd [("place", v), ("name", .str cn)]))
def sRaise (cn : Str) (f : Cd Val) : Sc := fun n0 ρ μ => lift (f ρ μ) ρ fun v μ1 => match v with
  | .d x => .exc cn x ρ μ1
  | _ => .stuck
theorem ss_raise {cn : Str} {A : Addr} {a : Expr} {f : Cd Val} {x : Str} {p p2' : Pos} (hc : X.calm = true) (tk : Takes X W) (hca : C.ca cn = some A) (ha : SE C X W f a)
    (hmk : ∀ {ta : TA}, PA X [a] ta → PMk X (.Call (.Name x p) [a] [] p2') (tMkX cn A ta)) (hst : starEach [a] X.env = (false, eval a X.env) :: starEach [] X.env := by rfl) :
    SS C X W (sRaise cn f) (.Raise (some (.Call (.Name x p) [a] [] p2')) none pos) := PS_imp (ps_raise hc tk (hmk (pa_cons ha pa_nil hst))) fun D σ H h => by
  obtain ⟨n0, I, β, ρ, μ, hn, s, e, h⟩ := h
  refine ⟨I, β, ρ, μ, s, e, OutOk.bind hn e h fun v μ1 I1 β1 H1 w q x1 s1 n1 r1 h1 => ?_⟩
  cases v with
  | loc l => exact h1.elim
  | exn => exact h1.elim
  | d y =>
    refine ⟨w, rfl, fun d hd => ?_⟩
    obtain ⟨s2, x2⟩ := s1.lay (o := .xd [("place", w), ("name", .str cn)]) hd
    exact h1 _ β1 σ _ _ d (x2.lower n1 (Nat.le_refl _)) s2 ((e.ext x1).ext x2) ⟨⟨A, hca, rfl⟩, w, upd_same, (Sub.new (s1.imm.fresh hd)).rp r1⟩
end
end FW


set_option Elab.async false
set_option linter.all false
set_option maxRecDepth 100000
set_option maxHeartbeats 1000000
namespace L2
open PySem PySem.Spec PyProof.Rows
/-- what the clauses wish, names allowed -/
def wMany2 (K : PySem.W.Frag) (Wout : WX) (D : Ends) : List (Value × Option Nat × (Addr → Value → Option Addr → TS)) → WX
  | [] => Wout
  | (c, none, ts) :: r => fun cls d σ H => ∃ b, PySem.W.exmOne K cls c = some b ∧ (b = true → ∀ a, H a = none → ts a cls d D σ H) ∧ (b = false → wMany2 K Wout D r cls d σ H)
  | (c, some i, ts) :: r => fun cls d σ H => ∃ b, PySem.W.exmOne K cls c = some b ∧ (b = true → ∀ a, H a = none → ts a cls d { nx := fun σ' H' => D.nx (σ'.set i none) H', rt := D.rt, bk := fun σ' H' => D.bk (σ'.set i none) H', ct := fun σ' H' => D.ct (σ'.set i none) H' } (σ.set i (some (.ref a))) H) ∧ (b = false → wMany2 K Wout D r cls d σ H)
inductive HdsOk2 (X : Cx) : List ExceptHandler → List (Value × Option Nat × (Addr → Value → Option Addr → TS)) → Prop
  | nil : HdsOk2 X [] []
  | cons {x : Str} {c : Value} {ts : Addr → Value → Option Addr → TS} {b₀ : Stmt} {suite : List Stmt} {np pos' : Pos} {hds : List ExceptHandler} {l : List (Value × Option Nat × (Addr → Value → Option Addr → TS))} (hc : Names X x c)
      (hsu : ∀ (a : Addr) (oe : Obj) (cls : Value) (d : Option Addr) (pn : List (Addr × Obj)), Zc cls d oe → (∃ vs, oe.data = .fields vs) → PSs (X.suite a ((a, oe) :: pn)) (b₀ :: suite) (ts a cls d)) (r : HdsOk2 X hds l) :
      HdsOk2 X (.ExceptHandler (some (.Name x np)) none (b₀ :: suite) pos' :: hds) ((c, none, ts) :: l)
  | as {x n : Str} {i : Nat} {c : Value} {ts : Addr → Value → Option Addr → TS} {b₀ : Stmt} {suite : List Stmt} {np pos' : Pos} {hds : List ExceptHandler} {l : List (Value × Option Nat × (Addr → Value → Option Addr → TS))} (hi : X.N[i]? = some n) (hln : X.env.kindOf n = some .local) (hc : Names X x c)
      (hsu : ∀ (a : Addr) (oe : Obj) (cls : Value) (d : Option Addr) (pn : List (Addr × Obj)), Zc cls d oe → (∃ vs, oe.data = .fields vs) → PSs (X.suite a ((a, oe) :: pn)) (b₀ :: suite) (ts a cls d)) (r : HdsOk2 X hds l) :
      HdsOk2 X (.ExceptHandler (some (.Name x np)) (some n) (b₀ :: suite) pos' :: hds) ((c, some i, ts) :: l)
section
variable {X : Cx} {body : List Stmt} {h₀ : ExceptHandler} {hds : List ExceptHandler} {l : List (Value × Option Nat × (Addr → Value → Option Addr → TS))} {pos : Pos} {tb : WX → TS} {Wout : WX}
theorem ps_try_many2 (hs : X.stack = X.env :: X.outer) (hf : X.env.frame = some X.env.locals) (hN : X.N.Nodup) (tk : Takes X Wout)
    (hb : ∀ (W : WX) (pn : List (Addr × Obj)) (xe : Value → Shared → Prop), Takes (X.tr pn xe) W → PassesOwn (model X.prog X.w) X.A X.env xe → PSs (X.tr pn xe) body (tb W))
    (hh : HdsOk2 X (h₀ :: hds) l) : PS X (.Try body (h₀ :: hds) [] [] pos) (fun D σ H => tb (wMany2 X.K Wout D l) D σ H) := by
  refine ⟨fun pins s σ H D I h => ?_⟩
  have ok := I.ok
  have hfr : X.A.frames = some (X.env :: X.outer) := by rw [ok.frames, hs]
  refine wpAny_Try_except ?_
  refine wpAny_mono ((hb (wMany2 X.K Wout D l) (X.pn ++ pins) (fun e s₁ => wpAny (model X.prog X.w) X.A (noteFrame e X.env) (fun _ s₂ => wpAny (model X.prog X.w) X.A (setFlight e none) (fun _ s₃ =>
    wpAny (model X.prog X.w) X.A (handleBy e X.env (h₀ :: hds)) (SP X pins D) X.xe s₃) X.xe s₂) X.xe s₁) (fun u s' xx => ?_) PassesOwn.looking).run [] s σ H D (I.toTry _) h) (fun f s1 hsp => ?_) (fun e s1 he => he)
  · -- the catch
    obtain ⟨a, B, sI, pins', σ', H', cls, d, rfl, J', nb, up, sky, na, os, ag, w⟩ := xx
    have J : Inv X pins σ' H' sI := J'.ofTry ok
    have sky' : Sky B (X.env :: X.outer) a (Zc cls d) X.env.locals s'.heap := by rw [← hs]; exact sky
    show wpAny (model X.prog X.w) X.A (noteFrame (.ref a) X.env) _ _ _
    refine Sky.land Zc.steady hfr hf sky' fun h3 fl3 up3 => ?_
    have J3 : Inv X pins σ' H' { s' with heap := h3 } := J.landed nb fl3.1 (up.trans up3) os ag
    obtain ⟨oe3, vs3, he3, hz3, hd3⟩ := fl3.there
    have notFr : ∀ {h : Heap} {o : Obj} {vs : Array Value}, h.FunFrames B (X.env :: X.outer) → h.get? a = some o → o.data = .fields vs → a ∉ frs (X.env :: X.outer) := fun {h o vs} ff e dd hm => by
      obtain ⟨_, o', e', hnf⟩ := ff.mem hm
      rw [e] at e'; cases e'
      exact hnf _ dd
    have nfr := notFr fl3.2.2.1 he3 hd3
    have nL : a ≠ X.env.locals := fun z => nfr (List.mem_filterMap.mpr ⟨X.env, List.mem_cons_self, by rw [hf, z]⟩)
    have nF : a ∉ X.fs := fun hm => by
      obtain ⟨e, he, q⟩ := List.mem_filterMap.mp hm
      exact nfr (List.mem_filterMap.mpr ⟨e, List.mem_cons_of_mem _ he, q⟩)
    have S3 := J3.suite he3 hd3 na nL nF
    have LT : PySem.W.Looks (model X.prog X.w) h3 (typeOf (.ref a)) cls := fun A Q E s k q => wpAny_typeOf_ref (k _ _ he3) (by rw [hz3.1]; exact q)
    have test : ∀ {x : Str} {c : Value} {np : Pos} {Q : Value → Shared → Prop} {E : Value → Shared → Prop}, Names X x c → Q c { s' with heap := h3 } → wpAny (model X.prog X.w) (X.A.mark (some (.ref a))) (eval (.Name x np) X.env) Q E { s' with heap := h3 } := fun {x c np Q E} hc q => by
      obtain ⟨hg, hdbg, hm | ⟨hm, hv, hnn⟩⟩ := hc
      · exact ld_glob (X := X.suite a ((a, oe3) :: (X.pn ++ pins))) S3 hg hm q hdbg
      · exact ld_blt (X := X.suite a ((a, oe3) :: (X.pn ++ pins))) S3 hg hm hv q hnn hdbg
    have go : ∀ {hds' : List ExceptHandler} {l' : List (Value × Option Nat × (Addr → Value → Option Addr → TS))}, HdsOk2 X hds' l' → wMany2 X.K Wout D l' cls d σ' H' →
        wpAny (model X.prog X.w) X.A (handleBy (.ref a) X.env hds') (SP X pins D) X.xe { s' with heap := h3 } := by
      intro hds' l' hk
      induction hk with
      | nil =>
        intro w
        refine wpAny_handleBy_nil ?_
        obtain ⟨k1, k2, k3, oe, vs, T, oT, ts', he, hz, hd, h1, hr⟩ := id fl3
        unfold PySem.passOn
        refine wpAny_bind (wpAny_field he hd h1 ?_)
        rw [if_neg (show ¬ ((Value.ref T == Value.none) = true) from by simp)]
        have fin : wpAny (model X.prog X.w) X.A (setFlight (.ref a) X.env.frame) (fun _ s4 => wpAny (model X.prog X.w) X.A (throw (.ref a) : Sem Flow) (SP X pins D) X.xe s4) X.xe { s' with heap := h3 } := by
          rw [hf]
          refine HandSPX.setFlight_upZ fl3 fun h4 hh4 up4 => wpAny_throw (tk _ _ ?_)
          exact ⟨a, B, sI, pins, σ', H', cls, d, rfl, J, nb, (up.trans up3).trans up4, .inr (.inr (by rw [hs]; exact hh4)), na, os, ag, w⟩
        first
          | exact wpAny_bind (wpAny_pure (wpAny_bind fin))
          | exact wpAny_bind fin
      | @cons x c ts b₀ suite np pos' hds2 l2 hc hsu r ih =>
        intro w
        obtain ⟨b, hb1, hyes, hno⟩ := w
        refine wpAny_handleBy_cons (codeAny_handlers_test ?_) (by intro q; cases q)
        have LM := PySem.W.exm_one (M := model X.prog X.w) (J3.kIn) LT hb1
        refine test hc (LM.here ?_)
        cases b with
        | true =>
          refine codeAny_handlers_suite ?_
          refine HandSPX.lands_againZ fl3 fun h4 fl4 up4 => ?_
          have J4 : Inv X pins σ' H' { s' with heap := h4 } := J.landed nb fl4.1 ((up.trans up3).trans up4) os ag
          obtain ⟨oe4, vs4, he4, hz4, hd4⟩ := fl4.there
          have S4 := J4.suite he4 hd4 na nL nF
          refine wpAny_mono ((hsu a oe4 cls d (X.pn ++ pins) hz4 ⟨_, hd4⟩).run [] _ _ H' _ S4 (hyes rfl a na)) (fun f s6 hsp => ?_) (fun _ _ z => False.elim z)
          cases f with
          | next =>
            obtain ⟨σ6, H6, S6, q6⟩ := hsp
            exact ⟨_, _, S6.unsuite ok, q6⟩
          | brk =>
            obtain ⟨σ6, H6, S6, q6⟩ := hsp
            exact ⟨_, _, S6.unsuite ok, q6⟩
          | cont =>
            obtain ⟨σ6, H6, S6, q6⟩ := hsp
            exact ⟨_, _, S6.unsuite ok, q6⟩
          | ret u =>
            obtain ⟨v6, σ6, H6, S6, r6, q6⟩ := hsp
            exact ⟨_, _, _, S6.unsuite ok, r6, q6⟩
        | false =>
          show wpAny _ X.A (handleBy (.ref a) X.env hds2) _ _ _
          exact ih (hno rfl)
      | @as x n i c ts b₀ suite np pos' hds2 l2 hi hln hc hsu r ih =>
        intro w
        obtain ⟨b, hb1, hyes, hno⟩ := w
        refine wpAny_handleBy_cons (codeAny_handlers_test ?_) (by intro q; cases q)
        have LM := PySem.W.exm_one (M := model X.prog X.w) (J3.kIn) LT hb1
        refine test hc (LM.here ?_)
        cases b with
        | true =>
          refine codeAny_handlers_suite_as ?_
          refine HandSPX.lands_againZ fl3 fun h4 fl4 up4 => ?_
          have J4 : Inv X pins σ' H' { s' with heap := h4 } := J.landed nb fl4.1 ((up.trans up3).trans up4) os ag
          obtain ⟨oe4, vs4, he4, hz4, hd4⟩ := fl4.there
          have S4 := J4.suite he4 hd4 na nL nF
          refine store_ok (X := X.suite a ((a, oe4) :: (X.pn ++ pins))) (v := .ref a) S4 hN hi (.inl hln) rfl (fun s5 S5 => ?_) (.inr hln)
          refine wpAny_mono ((hsu a oe4 cls d (X.pn ++ pins) hz4 ⟨_, hd4⟩).run [] s5 _ H' _ S5 (hyes rfl a na)) (fun f s6 hsp => ?_) (fun _ _ z => False.elim z)
          have end_ : ∀ {σ6 : L2.St} {H6 : Hp} {Q : Shared → Prop}, Inv (X.suite a ((a, oe4) :: (X.pn ++ pins))) [] σ6 H6 s6 → (∀ s7, Inv X pins (σ6.set i none) H6 s7 → Q s7) →
              wpAny (model X.prog X.w) X.A (do bindName X.env n .none; unbindBehindTheSuite X.env n pos') (fun _ s7 => Q s7) X.xe s6 := fun {σ6 H6 Q} S6 hq => gone_ok (S6.unsuite ok) hN hi hln hq
          cases f with
          | next =>
            obtain ⟨σ6, H6, S6, q6⟩ := hsp
            exact end_ S6 fun s7 J7 => ⟨_, _, J7, q6⟩
          | brk =>
            obtain ⟨σ6, H6, S6, q6⟩ := hsp
            exact end_ S6 fun s7 J7 => ⟨_, _, J7, q6⟩
          | cont =>
            obtain ⟨σ6, H6, S6, q6⟩ := hsp
            exact end_ S6 fun s7 J7 => ⟨_, _, J7, q6⟩
          | ret u =>
            obtain ⟨v6, σ6, H6, S6, r6, q6⟩ := hsp
            exact end_ S6 fun s7 J7 => ⟨_, _, _, J7, r6, q6⟩
        | false =>
          show wpAny _ X.A (handleBy (.ref a) X.env hds2) _ _ _
          exact ih (hno rfl)
    exact go hh w
  · cases f with
    | next =>
      obtain ⟨σ', H', J', q⟩ := hsp
      exact wpAny_execs_nil ⟨σ', H', J'.ofTry ok, q⟩
    | brk =>
      obtain ⟨σ', H', J', q⟩ := hsp
      exact ⟨σ', H', J'.ofTry ok, q⟩
    | cont =>
      obtain ⟨σ', H', J', q⟩ := hsp
      exact ⟨σ', H', J'.ofTry ok, q⟩
    | ret u =>
      obtain ⟨v, σ', H', J', r, q⟩ := hsp
      exact ⟨v, σ', H', J'.ofTry ok, r, q⟩
end
end L2
namespace FW
open PySem PySem.Spec PyProof.Rows L2
section
variable {C : Ctx} {X : Cx} {W : WX} {pos : Pos} {K : PySem.W.Frag}
def subX (cn c : Str) : Bool := cn == c || c == "EvensplitsError"
abbrev Hd := Str × Option Nat × (Str → D → Sc)
/-- only what is handed back from a suite goes on -/
def retO : O → O
  | .ret v μ => if notExn v = true then .ret v μ else .stuck
  | _ => .stuck
def envOk (ρ : Env) : Bool := ρ.all fun o => match o with
  | some v => notExn v
  | none => true
def catchX : List Hd → Str → D → Sc
  | [], cn, pl, _, ρ, μ => .exc cn pl ρ μ
  | (c, none, h) :: r, cn, pl, n0, ρ, μ => if subX cn c = true then (if envOk ρ = true then retO (h cn pl n0 ρ μ) else .stuck) else catchX r cn pl n0 ρ μ
  | (c, some i, h) :: r, cn, pl, n0, ρ, μ => if subX cn c = true then (if envOk ρ = true then retO (h cn pl n0 (ρ.set i (some .exn)) μ) else .stuck) else catchX r cn pl n0 ρ μ
def sTry (b : Sc) (hds : List Hd) : Sc := fun n0 ρ μ => match b n0 ρ μ with
  | .exc cn pl ρ' μ' => catchX hds cn pl n0 ρ' μ'
  | o => o
/-- the suite's context -/
abbrev Ctx.of (C : Ctx) (a dd : Addr) (cn : Str) (pl : D) : Ctx := ⟨C.ca, a, some (dd, cn, pl)⟩
def tSu (C : Ctx) (K : PySem.W.Frag) (h : Str → D → Sc) : Addr → Value → Option Addr → TS := fun a cls d D σ H => ∃ cn pl dd, d = some dd ∧ (∃ A, C.ca cn = some A ∧ cls = .ref A) ∧ tS (C.of a dd cn pl) K WF (h cn pl) D σ H
/-- a suite -/
def SSu (C : Ctx) (X : Cx) (h : Str → D → Sc) (suite : List Stmt) : Prop := ∀ (a : Addr) (oe : Obj) (A dd : Addr) (cn : Str) (pl : D) (pn : List (Addr × Obj)), C.ca cn = some A → Zc (.ref A) (some dd) oe → (∃ vs, oe.data = .fields vs) → SSs (C.of a dd cn pl) (X.suite a ((a, oe) :: pn)) WF (h cn pl) suite
inductive SHds (C : Ctx) (X : Cx) : List Hd → List ExceptHandler → Prop
  | nil : SHds C X [] []
  | cons {x : Str} {Ac : Addr} {h : Str → D → Sc} {b₀ : Stmt} {suite : List Stmt} {np pos' : Pos} {hds : List ExceptHandler} {l : List Hd} (hc : Names X x (.ref Ac)) (hx : ∀ cn A, C.ca cn = some A → PySem.W.exmOne X.K (.ref A) (.ref Ac) = some (subX cn x)) (hsu : SSu C X h (b₀ :: suite)) (r : SHds C X l hds) :
      SHds C X ((x, none, h) :: l) (.ExceptHandler (some (.Name x np)) none (b₀ :: suite) pos' :: hds)
  | as {x n : Str} {i : Nat} {Ac : Addr} {h : Str → D → Sc} {b₀ : Stmt} {suite : List Stmt} {np pos' : Pos} {hds : List ExceptHandler} {l : List Hd} (hi : X.N[i]? = some n) (hln : X.env.kindOf n = some .local) (hc : Names X x (.ref Ac)) (hx : ∀ cn A, C.ca cn = some A → PySem.W.exmOne X.K (.ref A) (.ref Ac) = some (subX cn x)) (hsu : SSu C X h (b₀ :: suite)) (r : SHds C X l hds) :
      SHds C X ((x, some i, h) :: l) (.ExceptHandler (some (.Name x np)) (some n) (b₀ :: suite) pos' :: hds)
theorem SSu.ps {h : Str → D → Sc} {suite : List Stmt} (q : SSu C X h suite) (a : Addr) (oe : Obj) (cls : Value) (d : Option Addr) (pn : List (Addr × Obj)) (z : Zc cls d oe) (f : ∃ vs, oe.data = .fields vs) : PSs (X.suite a ((a, oe) :: pn)) suite (tSu C X.K h a cls d) :=
  ⟨fun pins s σ H D I t => by
    obtain ⟨cn, pl, dd, rfl, ⟨A, hA, rfl⟩, t⟩ := t
    exact (q a oe A dd cn pl pn hA z f).run pins s σ H D I t⟩
theorem ER.suite {I : Hp} {β : Nat → Addr} {ρ : Env} {μ : Sto} {σ : L2.St} {a dd : Addr} {cn : Str} {pl : D} (e : ER C K I β ρ μ σ) (h : envOk ρ = true) (x : XdAt K I cn pl dd) : ER (C.of a dd cn pl) K I β ρ μ σ where
  len := e.len
  get := fun i v hv => by
    obtain ⟨w, h1, h2⟩ := e.get i v hv
    have hm : some v ∈ ρ := List.mem_of_getElem? hv
    have := List.all_eq_true.mp h _ hm
    exact ⟨w, h1, h2.other this⟩
  ex := fun dd' cn' pl' z => by cases z; exact x
theorem shds_ok : ∀ {l : List Hd} {hds : List ExceptHandler}, SHds C X l hds → ∃ l', HdsOk2 X hds l' ∧ ∀ {D : Ends} {n0 : Nat} {I : Hp} {β : Nat → Addr} {ρ : Env} {μ : Sto} {σ : L2.St} {H : Hp} {cn : Str} {pl : PyData} {cls : Value} {dd : Addr}, n0 ≤ μ.length → SR X.K I β μ H → ER C X.K I β ρ μ σ → ExcAt C X.K I cn pl cls dd → OutOk C X.K W D n0 I β μ H (catchX l cn pl n0 ρ μ) → wMany2 X.K W D l' cls (some dd) σ H
  | _, _, .nil => ⟨[], .nil, fun {D n0 I β ρ μ σ H cn pl cls dd} hn s e z h => h I β σ H cls dd (Ext.refl hn) s e z⟩
  | _, _, @SHds.cons _ _ x Ac h b₀ suite np pos' hds l hc hx hsu r => by
    obtain ⟨l', h1, h2⟩ := shds_ok r
    refine ⟨(.ref Ac, none, tSu C X.K h) :: l', .cons hc (fun a oe cls d pn z f => hsu.ps a oe cls d pn z f) h1, fun {D n0 I β ρ μ σ H cn pl cls dd} hn s e z o => ?_⟩
    obtain ⟨⟨A, hA, rfl⟩, xd⟩ := id z
    refine ⟨subX cn x, hx cn A hA, fun hb a ha => ?_, fun hb => ?_⟩
    · unfold catchX at o
      rw [if_pos hb] at o
      split at o
      · rename_i ho
        refine ⟨cn, pl, dd, rfl, ⟨A, hA, rfl⟩, n0, I, β, ρ, μ, hn, s, e.suite ho xd, ?_⟩
        cases hq : h cn pl n0 ρ μ with
        | ret v μ' =>
          rw [hq] at o
          by_cases hv : notExn v = true
          · rw [show retO (.ret v μ') = .ret v μ' from if_pos hv] at o
            exact fun I' β' H' w x' s' r' => o I' β' H' w x' s' (r'.other hv)
          · rw [show retO (.ret v μ') = .stuck from if_neg hv] at o
            exact o.elim
        | next _ _ => rw [hq] at o; exact o.elim
        | brk _ _ => rw [hq] at o; exact o.elim
        | cont _ _ => rw [hq] at o; exact o.elim
        | exc _ _ _ _ => rw [hq] at o; exact o.elim
        | stuck => rw [hq] at o; exact o.elim
      · exact o.elim
    · unfold catchX at o
      rw [if_neg (by rw [hb]; exact Bool.false_ne_true)] at o
      exact h2 hn s e z o
  | _, _, @SHds.as _ _ x n i Ac h b₀ suite np pos' hds l hi hln hc hx hsu r => by
    obtain ⟨l', h1, h2⟩ := shds_ok r
    refine ⟨(.ref Ac, some i, tSu C X.K h) :: l', .as hi hln hc (fun a oe cls d pn z f => hsu.ps a oe cls d pn z f) h1, fun {D n0 I β ρ μ σ H cn pl cls dd} hn s e z o => ?_⟩
    obtain ⟨⟨A, hA, rfl⟩, xd⟩ := id z
    refine ⟨subX cn x, hx cn A hA, fun hb a ha => ?_, fun hb => ?_⟩
    · unfold catchX at o
      rw [if_pos hb] at o
      split at o
      · rename_i ho
        refine ⟨cn, pl, dd, rfl, ⟨A, hA, rfl⟩, n0, I, β, _, μ, hn, s, (e.suite (a := a) ho xd).set (v := .exn) rfl, ?_⟩
        cases hq : h cn pl n0 (ρ.set i (some .exn)) μ with
        | ret v μ' =>
          rw [hq] at o
          by_cases hv : notExn v = true
          · rw [show retO (.ret v μ') = .ret v μ' from if_pos hv] at o
            exact fun I' β' H' w x' s' r' => o I' β' H' w x' s' (r'.other hv)
          · rw [show retO (.ret v μ') = .stuck from if_neg hv] at o
            exact o.elim
        | next _ _ => rw [hq] at o; exact o.elim
        | brk _ _ => rw [hq] at o; exact o.elim
        | cont _ _ => rw [hq] at o; exact o.elim
        | exc _ _ _ _ => rw [hq] at o; exact o.elim
        | stuck => rw [hq] at o; exact o.elim
      · exact o.elim
    · unfold catchX at o
      rw [if_neg (by rw [hb]; exact Bool.false_ne_true)] at o
      exact h2 hn s e z o
theorem ss_try {body : List Stmt} {h₀ : ExceptHandler} {hds : List ExceptHandler} {l : List Hd} {f : Sc} (hs : X.stack = X.env :: X.outer) (hf : X.env.frame = some X.env.locals) (hN : X.N.Nodup) (tk : Takes X W)
    (hb : ∀ (W' : WX) (pn : List (Addr × Obj)) (xe : Value → Shared → Prop), Takes (X.tr pn xe) W' → PassesOwn (model X.prog X.w) X.A X.env xe → SSs C (X.tr pn xe) W' f body) (hh : SHds C X l (h₀ :: hds)) : SS C X W (sTry f l) (.Try body (h₀ :: hds) [] [] pos) := by
  obtain ⟨l', h1, h2⟩ := shds_ok (W := W) hh
  refine PS_imp (ps_try_many2 (tb := fun W' => tS C X.K W' f) hs hf hN tk hb h1) fun D σ H h => ?_
  obtain ⟨n0, I, β, ρ, μ, hn, s, e, h⟩ := h
  refine ⟨n0, I, β, ρ, μ, hn, s, e, ?_⟩
  unfold sTry at h
  cases hq : f n0 ρ μ with
  | exc cn pl ρ' μ' =>
    rw [hq] at h
    exact fun I' β' σ' H' cls dd x' s' e' z => h2 x'.len s' e' z (OutOk.re hn x' h)
  | next _ _ => rw [hq] at h; exact h
  | ret _ _ => rw [hq] at h; exact h
  | brk _ _ => rw [hq] at h; exact h
  | cont _ _ => rw [hq] at h; exact h
  | stuck => rw [hq] at h; exact h
/-! e.place, e.name within a suite -/
def cXf (i : Nat) (x : D) : Cd Val := fun ρ μ => match ρ[i]? with
  | some (some .exn) => .ok (.d x) μ
  | _ => .stuck
theorem se_xf {i : Nat} {n f : Str} {x : D} {a A dd : Addr} {oe : Obj} {cn : Str} {pl : D} {pn : List (Addr × Obj)} {np pos : Pos} (hN : X.N[i]? = some n) (hv : Vis X.env.scope n) (T : XfC X.K A) (hno : PySem.W.findIn X.K (.ref A) f = some none) (z : Zc (.ref A) (some dd) oe) (hf : ∃ vs, oe.data = .fields vs)
    (hx : ∀ I v, Rp X.K I v pl → ∃ u, List.lookup f [(("place" : Str), v), (("name" : Str), V.str cn)] = some u ∧ Rp X.K I u x)
    (hd : (n == ("__debug__" : Str)) = false := by decide) (hcd : (n == ("__classdict__" : Str)) = false := by decide)
    (hb : attributeBase (.Name n np) f X.env (eval (.Name n np) X.env) = eval (.Name n np) X.env := by rfl) :
    SE (C.of a dd cn pl) (X.suite a ((a, oe) :: pn)) WF (cXf i x) (.Attribute (.Name n np) f pos) := PE_imp (pe_xf T hno z hf (pe_var (X := X.suite a ((a, oe) :: pn)) hN hv hd hcd) hb) fun σ H Q h => by
  obtain ⟨I, β, ρ, μ, s, e, h⟩ := h
  unfold cXf at h
  split at h
  · rename_i hi
    obtain ⟨w, h1, rfl⟩ := e.get i .exn hi
    obtain ⟨v, h3, h4⟩ := e.ex dd cn pl rfl
    obtain ⟨u, h5, h6⟩ := hx I v h4
    exact ⟨.ref a, h1, rfl, rfl, dd, _, u, rfl, s.imm _ _ h3, h5, Res.here s h h6⟩
  · exact h.elim
end
end FW


set_option Elab.async false
set_option linter.all false
set_option maxRecDepth 100000
set_option maxHeartbeats 4000000
namespace PySem
namespace FX
open PySem.W PySem.Calls PyProof.Rows PySem.HandSPX
/-! ### an error class over ValueError, its __init__ by super(), and heirs of it -/
def iA (p1 p2 : Pos) : Arguments := { posonlyargs := [], args := [{ arg := "self", annotation := none, pos := p1 }, { arg := "place", annotation := none, pos := p2 }], vararg := none, kwonlyargs := [], kw_defaults := [], kwarg := none, defaults := [] }
def iS : Scope := { kind := .function, names := [(PySem.Str.ofString "self", .local), (PySem.Str.ofString "place", .local), (PySem.Str.ofString "__class__", .free), (PySem.Str.ofString "super", .globalImplicit)], isGenerator := false, isCoroutine := false, more := [] }
def supS (p0 p1 p2 p3 p4 p5 : Pos) : Stmt := .Expr (.Call (.Attribute (.Call (.Name "super" p0) [] [] p1) "__init__" p2) [.Name "place" p3] [] p4) p5
def plS (q1 q2 q3 q4 : Pos) : Stmt := .Assign [.Attribute (.Name "self" q1) "place" q2] (.Name "place" q3) q4
def nmS (cn : Str) (k : Nat) (r1 r2 r3 r4 : Pos) : Stmt := .Assign [.Attribute (.Name "self" r1) "name" r2] (.Constant (.str cn) k r3) r4
abbrev vei : String := "ValueError.__init__"
section
variable {prog : Program} {w : World} {A : Around} {E : Value → Shared → Prop} {h : Heap} {g : Array GenState} {d : Drawn} {t : Nat} {os : OsState}
variable {nm q : Str} {C N : Addr} {bs bm : List Value} {hdct : Bool} {sn : List Str} {sub : List Value} {ab : Bool} {col : Option Bool} {dd : Option Addr} {k0 k1 k2 k3 k5 : Option Value}
theorem call_mw {u e t0 : Addr} {rest : List Value} {Q : Value → Shared → Prop}
    (hC : h.get? C = some (excClassObj nm q C N bs bm hdct sn sub ab col dd k0 k1 k2 k3 k5 "ValueError.__new__")) (he : h.get? e = some (HandSPX.excO C t0)) (hu : h.get? u = some (kxs_mw vei e)) (hrest : rest.length ≤ sizeLine)
    (hq : ∀ h' t1, (∀ b o, b ≠ e → h.get? b = some o → h'.get? b = some o) → h'.get? e = some (HandSPX.excO C t1) → Q .none ⟨h', g, d, t, os⟩) :
    wpAny (model prog w) A (call (.ref u) rest) Q E ⟨h, g, d, t, os⟩ := by
  refine wpAny_call (codeAny_of_tree ?_)
  show wpAny _ A.in1 (callAny (.ref u) ⟨rest, []⟩) _ _ _
  simp only [callAny]
  refine wpAny_bind (wpAny_load hu ?_)
  simp only [kxs_mw, show (Value.type "method-wrapper" == Value.type "method" || Value.type "method-wrapper" == Value.type "builtin_function_or_method" || Value.type "method-wrapper" == Value.type "method-wrapper") = true by decide, if_true]
  refine W.KFB.if_so (by decide) ?_
  refine wpAny_bind (ESX.check_bound F.excBase_ValueError hC he rfl ?_)
  refine wpAny_bind (wpAny_pure (wpAny_pure ?_))
  refine ⟨Code.quiet_builtin _ (by decide +kernel), codeAny_builtin F.excBase_ValueError.initEntry ?_⟩
  rw [Around.under_plainId F.excBase_ValueError.init.plain _]
  wp_walk
  refine hq _ h.objs.size (fun b o hb ho => ?_) ?_
  · rw [Heap.get?_update_other _ _ (Ne.symm hb)]
    exact Heap.get?_push_of_some _ ho
  · rw [Heap.get?_update_self _ (Heap.get?_push_of_some _ he) rfl]
    rfl
end
section
open Builtin Builtin.ObjectAttr
variable {prog : Program} {w : World} {A : Around} {E : Value → Shared → Prop} {R : Result → Shared → Prop} {hp : Heap} {g : Array GenState} {d : Drawn} {t : Nat} {os : OsState}
/-- self.name = v where the dict is there -/
theorem osa_old {K : W.Frag} {name : Str} {tk : Tok} {v : Value} {x C dx : Addr} {fv : Array Value} {cd : ClassData} {m0 : Str → Option Value} {nl : List Str}
    (X : K.In hp) (hx : hp.get? x = some { cls := .ref C, dict := some dx, data := .fields fv }) (hns : hp.Ns1 dx m0) (hw : Within m0 nl) (hz : nl.length ≤ 1000) (hcd : W.clsIn K C = some cd) (hm : refsVE cd.mro = true) (hh : cd.hasDict = true)
    (ha : W.findIn K (.ref C) name = some none)
    (hq : ∀ h' tk', (∀ b o, b ≠ dx → hp.get? b = some o → h'.get? b = some o) → h'.Ns1 dx (fun y => if y = name then some v else m0 y) → R (.ok (.ret .none)) ⟨h', g, d, tk', os⟩) :
    codeAny (model prog w) A (.call (.builtin "object.__setattr__") ⟨[.ref x, .str name tk, v], []⟩) R ⟨hp, g, d, t, os⟩ := by
  obtain ⟨oD, esD, epD, hoD, hdD, _⟩ := hns.count hw
  have I : W.InstAt hp x { cls := .ref C, dict := some dx, data := .fields fv } C (some oD) := ⟨hx, rfl, rfl, hoD⟩
  have SF := F.store_object
  have ne := refsVE_ne hm
  have hob : cd.mro.contains (.type "object") = true := (refsVE_contains "object" _ hm).trans (by decide +kernel)
  have sub : W.Looks (model prog w) hp (isInstance (.ref x) (.type "object")) true := I.type.andThen (W.looks_mroIn X (by unfold W.mroIn; rw [hcd, Option.bind_some, if_neg (by rw [ne]; decide), hob]))
  refine codeAny_call_builtin SF.slot.plain SF.entry (@W.check_slot (model prog w) _ _ ⟨hp, g, d, t, os⟩ "object.__setattr__" "object" "__setattr__" (.ref x) [.str name tk, v] [] _ SF.kind SF.split sub (SF.args (.ref x) (.str name tk) v) ?_)
  have hmr : W.Looks (model prog w) hp (mroOf (.ref C)) cd.mro := (W.looks_clsIn X hcd).andThen .now
  have L3 : W.Looks (model prog w) hp (storeTaker? none) none := .now
  have hcls : W.Looks (model prog w) hp (classData C) cd := W.looks_clsIn X hcd
  rw [W.osa_eq, refuse_eq]
  refine wpAny_bind (wpAny_bind (I.type.at (wpAny_bind (hmr.at ?_))))
  rw [refsVE_pass _ _ hm]
  refine wpAny_pure (wpAny_bind (I.type.at (wpAny_bind ((W.looks_findIn X ha).at (wpAny_bind (L3.at ?_))))))
  show wpAny _ _ (storeInOwnDict (.ref x) (.ref C) (.str name tk) name v false) _ _ _
  obtain ⟨nm, bs, mro, ns, qn, hd, sn, sb, ab, col, del⟩ := cd
  dsimp only at hh
  subst hh
  unfold storeInOwnDict ownDictForStores
  repeat (first | with_reducible refine ESX.store_in_old hns hw hz ?_ | with_reducible refine wpAny_loadPart_at hx ?_ | with_reducible refine hcls.at ?_ | wp_step)
  intro h' tk' hn' hs
  exact hq h' tk' (fun b o hb ho => (hs.2 b hb).trans ho) hn'
end
/-! ### the facts -/
/-- the __init__ at f of the class at D -/
structure InitF (prog : Program) (K : Frag) (f D : Addr) (qual : Str) (body : List Stmt) : Prop where
  ex : ∃ (oc : Value) (od : Option Addr) (kV doc pm : Value) (an : Option Addr) (ct : Value) (osl : Array (Option Value)) (cda cc : Addr) (p1 p2 : Pos) (ccl : Value) (cdd : Option Addr) (vs : Array Value) (ccs : Array (Option Value)) (file : Str) (tf : Tok) (cl : Value) (cld : Option Addr) (csl : Array (Option Value)),
    K.lookup f = some ⟨oc, od, .func (ksFn "__init__" qual (iA p1 p2) body iS .none kV doc pm an (.ref cda) ct cc), osl⟩ ∧ codeIn K (.ref cda) qual = true ∧
    K.lookup cda = some ⟨ccl, cdd, .fields vs, ccs⟩ ∧ vs[2]? = some (.str file tf) ∧ ((prog.main.file : Str) == file) = true ∧ K.lookup cc = some ⟨cl, cld, .cell (some (.ref D)), csl⟩
  cls : ∃ cd, clsIn K D = some cd
/-- the class at C of what is made; CB: the base class; B: the base's __init__ -/
structure ExcF (K : Frag) (C CB fB : Addr) : Prop where
  cls : ∃ nm q N bs bm sn sub ab col dd k0 k1 k2 k3 k5, K.lookup C = some (excClassObj nm q C N bs bm true sn sub ab col dd k0 k1 k2 k3 k5 "ValueError.__new__") ∧ refsVE bm = true
  sa : findIn K (.ref C) "__setattr__" = some (some (.builtin "object.__setattr__"))
  noP : findIn K (.ref C) "place" = some none
  noN : findIn K (.ref C) "name" = some none
  mB : mroIn K C (.ref CB) = some true
  spB : ks_superIn K C CB "__init__" = some (some (.builtin vei))
  sVE : subIn K (.ref C) (.type "ValueError") = some true
/-- what the world around says -/
structure Wd (prog : Program) (K : Frag) (mg : Str → Option Value) : Prop where
  sup : mg "super" = none
  top : (prog.main.scope.names.lookup ("super" : Str)).isSome = false
  any : nsIn K cStatics "thirdparty.any" = some none
structure At (mg : Str → Option Value) (h : Heap) : Prop where
  g : h.Ns mainGlobals mg
  b : ∃ mb, h.Ns builtinsNs mb ∧ mb "super" = some (.type "super")
theorem At.keeps {mg : Str → Option Value} {h h' : Heap} (a : At mg h) (k : ∀ b o, h.get? b = some o → h'.get? b = some o) : At mg h' :=
  ⟨a.g.keeps k, let ⟨mb, h1, h2⟩ := a.b; ⟨mb, h1.keeps k, h2⟩⟩
theorem ns_keeps {h h' : Heap} {L : Addr} {m : Str → Option Value} (n : h.Ns L m) (k : ∀ b o, h.get? b = some o → h'.get? b = some o) : h'.Ns L m := n.keeps k
theorem one_size (v : Value) : [v].length ≤ sizeLine := by
  rw [sizeLine_eq]
  exact (by decide : 1 ≤ 16777216)
theorem kept_but {K : Frag} {h h' : Heap} {x : Addr} (X : K.In h) (hx : K.lookup x = none) (k : ∀ b o, b ≠ x → h.get? b = some o → h'.get? b = some o) : K.In h' := fun a o e =>
  k a o (fun z => by rw [z, hx] at e; cases e) (X a o e)
/-- what __init__ leaves of a fresh exception at x -/
structure InitEnd (h h' : Heap) (x C dx t1 : Addr) (v : Value) (cn : Str) : Prop where
  keep : ∀ b o, b ≠ x → h.get? b = some o → h'.get? b = some o
  obj : h'.get? x = some { cls := .ref C, dict := some dx, data := .fields #[.ref t1, .none, .none, .none, .bool false, .none] }
  dbig : h.objs.size ≤ dx
  dne : dx ≠ x
  ns : ∃ tk, h'.Ns1 dx (fun y => if y = "name" then some (.str cn tk) else if y = "place" then some v else none)
section
variable {prog : Program} {w : World} {A : Around} {E : Value → Shared → Prop} {R : Result → Shared → Prop} {s : Shared} {K : Frag} {mg : Str → Option Value} {C CB fB : Addr}
/-- super() in an __init__ -/
theorem sup_node {f D cda cc x L : Addr} {ox : Obj} {odx : Option Obj} {qual : Str} {body body' : List Stmt} {oc kV doc pm ct ccl cl : Value} {od an cdd cld : Option Addr} {osl ccs csl : Array (Option Value)} {p1 p2 p0 pp : Pos} {vs : Array Value} {file : Str} {tf : Tok} {m : Str → Option Value} {cdD : ClassData} {whole : Sem Value} {Q : Value → Shared → Prop}
    (W' : Wd prog K mg) (X : K.In s.heap) (a : At mg s.heap) (hn : s.heap.Ns L m) (hv : m "self" = some (.ref x)) (I : InstAt s.heap x ox C odx)
    (hf : K.lookup f = some ⟨oc, od, .func (ksFn "__init__" qual (iA p1 p2) body iS .none kV doc pm an (.ref cda) ct cc), osl⟩)
    (hcode : K.lookup cda = some ⟨ccl, cdd, .fields vs, ccs⟩) (hvs : vs[2]? = some (.str file tf)) (hfile : ((prog.main.file : Str) == file) = true) (hcell : K.lookup cc = some ⟨cl, cld, .cell (some (.ref D)), csl⟩) (hD : clsIn K D = some cdD) (hsub : mroIn K C (.ref D) = some true)
    (h : ∀ h', h'.get? s.heap.objs.size = some (ks_superObj D x C) → (∀ y o, s.heap.get? y = some o → h'.get? y = some o) → Q (.ref s.heap.objs.size) { s with heap := h' }) :
    _root_.PySem.wpAt (model prog w) A (.func body' (ksEnv qual iS L f (.ref cda) cc)) (attributeBase (.Call (.Name "super" p0) [] [] pp) "__init__" (ksEnv qual iS L f (.ref cda) cc) whole) Q E s := by
  obtain ⟨hh, g, d, t, os⟩ := s
  obtain ⟨oD, hD1, hD2⟩ : ∃ oD, hh.get? D = some oD ∧ oD.data = .cls cdD := by
    unfold clsIn at hD
    split at hD
    · rename_i c d cd' sl ho
      cases hD
      exact ⟨_, X _ _ ho, rfl⟩
    · cases hD
  obtain ⟨mb, hb1, hb2⟩ := a.b
  refine ks_wpAt_super_base (env := ksEnv qual iS L f (.ref cda) cc) (ar := { arg := "self", annotation := none, pos := p1 }) (by rfl) (by rfl) (by decide) rfl (X _ _ hf) rfl rfl rfl (X _ _ hcode) rfl hvs hfile W'.top ?_
  refine ks_loadName_global (by rfl) (by rfl) (loadGlobal_builtin (env := ksEnv qual iS L f (.ref cda) cc) a.g W'.sup hb1 hb2 ⟨rfl, ?_⟩)
  refine wpAny_loadName_free (by rfl) (by rfl) (by rfl) ⟨_, X _ _ hcell, rfl⟩ ?_
  refine wpAny_loadName_local (by rfl) (by rfl) hn hv ?_
  refine ks_wpAny_isType_cls hD1 hD2 ⟨rfl, ?_⟩
  refine ks_wpAny_call_super hD1 hD2 I.at_ I.cls (fun c e => ?_) (looks_mroIn X hsub) (fun h' e k => ?_)
  · have := I.no
    unfold notCls at this
    rw [e] at this
    exact Bool.noConfusion this
  · exact h _ e k
end
end FX
end PySem


set_option Elab.async false
set_option linter.all false
set_option maxRecDepth 100000
set_option maxHeartbeats 4000000
namespace PySem
namespace FX
open PySem.W PySem.Calls PyProof.Rows PySem.HandSPX
section
variable {prog : Program} {w : World} {A : Around} {E : Value → Shared → Prop} {R : Result → Shared → Prop} {s : Shared} {K : Frag} {mg : Str → Option Value} {C CB fB : Addr}
abbrev supE (p0 p1 p2 p3 p4 : Pos) : Expr := .Call (.Attribute (.Call (.Name "super" p0) [] [] p1) "__init__" p2) [.Name "place" p3] [] p4
/-- the call stands on one line -/
def SupOk (p0 p1 p2 p3 p4 : Pos) : Prop := ∀ env : PySem.Env, ∃ pl : Sem Bool, eval (supE p0 p1 p2 p3 p4) env = (do
      let ov ← attributeBase (.Call (.Name "super" p0) [] [] p1) "__init__" env (eval (.Call (.Name "super" p0) [] [] p1) env)
      standAt p2.atName
      let (f, first) ← holding [ov] (getMethod ov "__init__" pl)
      callWith p4 f first (backTo p4 (starEach [.Name "place" p3] env)) [])
example : SupOk ⟨5, 8, 5, 13⟩ ⟨5, 8, 5, 15⟩ ⟨5, 8, 5, 24⟩ ⟨5, 25, 5, 30⟩ ⟨5, 8, 5, 31⟩ := fun env => ⟨_, rfl⟩
theorem inst0 {h : Heap} {x C t0 : Addr} (hx : h.get? x = some (excO C t0)) : InstAt h x (excO C t0) C none := ⟨hx, rfl, rfl, trivial⟩
/-- the arguments of super().__init__(place) -/
theorem arg1 {L : Addr} {env : Env} {m : Str → Option Value} {p3 pos : Pos} {v : Value} {Q : List Value → Shared → Prop} {M : Model} (hn : s.heap.Ns env.locals m) (hv : m "place" = some v) (hk : env.scope.kind = .function) (hl : env.kindOf "place" = some .local) (h : Q [v] s) :
    wpAny M A (spliced (backTo pos (starEach [.Name "place" p3] env))) Q E s :=
  wpAny_items_cons (ESX.ldL hn hv (wpAny_items_nil h) hk hl) rfl
/-- ValueError's own __init__, by super() -/
theorem sup_own {f D cda cc x t0 L : Addr} {qual : Str} {body body' : List Stmt} {oc kV doc pm ct ccl cl : Value} {od an cdd cld : Option Addr} {osl ccs csl : Array (Option Value)} {p1 p2 p0 pp p3 p4 p5 p6 : Pos} {vs : Array Value} {file : Str} {tf : Tok} {m : Str → Option Value} {cdD : ClassData} {v : Value} {Q : Flow → Shared → Prop}
    (W' : Wd prog K mg) (so : SupOk p0 pp p3 p4 p5) (T : ExcF K C D fB) (X : K.In s.heap) (a : At mg s.heap) (hn : s.heap.Ns L m) (hv : m "self" = some (.ref x)) (hp : m "place" = some v) (hx : s.heap.get? x = some (excO C t0))
    (hf : K.lookup f = some ⟨oc, od, .func (ksFn "__init__" qual (iA p1 p2) body iS .none kV doc pm an (.ref cda) ct cc), osl⟩)
    (hcode : K.lookup cda = some ⟨ccl, cdd, .fields vs, ccs⟩) (hvs : vs[2]? = some (.str file tf)) (hfile : ((prog.main.file : Str) == file) = true) (hcell : K.lookup cc = some ⟨cl, cld, .cell (some (.ref D)), csl⟩) (hD : clsIn K D = some cdD)
    (h : ∀ h' t1 tk, (∀ b o, b ≠ x → s.heap.get? b = some o → h'.get? b = some o) → h'.get? x = some (excO C t1) → Q .next { s with heap := h', toks := tk }) :
    _root_.PySem.wpAt (model prog w) A (.func body' (ksEnv qual iS L f (.ref cda) cc)) (exec (supS p0 pp p3 p4 p5 p6) (ksEnv qual iS L f (.ref cda) cc)) Q E s := by
  obtain ⟨hh, g, d, t, os⟩ := s
  obtain ⟨pl, hpl⟩ := so (ksEnv qual iS L f (.ref cda) cc)
  refine ks_wpAt_Expr_any (ks_wpAt_MethodCall (sup_node W' X a hn hv (inst0 hx) hf hcode hvs hfile hcell hD T.mB fun h1 hso k1 => ?_) hpl) (by rfl)
  have X1 := X.keeps k1
  obtain ⟨nm, q, N, bs, bm, sn, sub, ab, col, dd, k0, kk1, k2, k3, k5, hC, hbm⟩ := T.cls
  have hcl : clsIn K C = some { name := nm, bases := bs, mro := .ref C :: bm, ns := N, qualname := q, hasDict := true, slotNames := sn, subclasses := sub, abstract := ab, collection := col, hasDel := false } := by unfold clsIn; rw [hC] <;> rfl
  have hsp := T.spB
  unfold ks_superIn at hsp
  rw [hcl] at hsp
  have hI : Looks (model prog w) h1 (isInstance (.ref x) (.type "ValueError")) true := (inst0 (k1 _ _ hx)).type.andThen (looks_subIn X1 T.sVE)
  refine kxs_getMethod kxs_ValueError hso (looks_opaque X1 W'.any) (l₀ := .ref C :: bm) ?_ rfl X1 hsp hI (ks_ne X1 (inst0 (k1 _ _ hx)) hcl) (by decide) ?_
  · exact fun A Q E s k q => wpAny_bind ((looks_clsIn X1 hcl) A _ E s k (wpAny_pure q))
  · have ku : ∀ b o, h1.get? b = some o → (h1.push (kxs_mw vei x)).get? b = some o := fun b o e => Heap.get?_push_of_some _ e
    have hmw : (h1.push (kxs_mw vei x)).get? h1.objs.size = some (kxs_mw vei x) := Heap.get?_push_size _ rfl
    refine kxs_callWith (i := vei) (x := x) (by rfl) (evalArgs_plain (arg1 (L := L) ((hn.keeps k1).keeps ku) hp (by rfl) (by rfl) ⟨hmw, ?_⟩))
    refine call_mw (X1.keeps ku _ _ hC) (ku _ _ (k1 _ _ hx)) hmw (one_size v) fun h' t1 kk e' => ?_
    exact h h' t1 _ (fun b o hb e => kk b o hb (ku _ _ (k1 _ _ e))) e'
/-- self.name = '..' where the dict stands -/
theorem name_store {L x dx t1 : Addr} {env : PySem.Env} {cn : Str} {k : Nat} {r1 r2 r3 r4 : Pos} {m : Str → Option Value} {m0 : Str → Option Value} {nl : List Str} {Q : Flow → Shared → Prop}
    (T : ExcF K C CB fB) (X : K.In s.heap) (hL : env.locals = L) (hn : s.heap.Ns L m) (hv : m "self" = some (.ref x)) (hk : env.scope.kind = .function) (hl : env.kindOf "self" = some .local)
    (hx : s.heap.get? x = some { cls := .ref C, dict := some dx, data := .fields #[.ref t1, .none, .none, .none, .bool false, .none] }) (hd : s.heap.Ns1 dx m0) (hw : Within m0 nl) (hz : nl.length ≤ 1000) (hs : swapsWith (.Constant (.str cn) k r3) (some (.Attribute (.Name "self" r1) "name" r2)) r4.line env = pure false)
    (h : ∀ h' tk tv, (∀ b o, b ≠ dx → s.heap.get? b = some o → h'.get? b = some o) → h'.Ns1 dx (fun y => if y = "name" then some (.str cn tv) else m0 y) → Q .next { s with heap := h', toks := tk }) :
    wpAny (model prog w) A (exec (nmS cn k r1 r2 r3 r4) env) Q E s := by
  subst hL
  refine plainObj_wpAny_Assign_Attribute ?_ hs
  refine Calls.Constant_str (ESX.ldL hn hv ?_ hk hl)
  obtain ⟨nm, q, N, bs, bm, sn, sub, ab, col, dd, k0, kk1, k2, k3, k5, hC, hbm⟩ := T.cls
  have hcl : clsIn K C = some { name := nm, bases := bs, mro := .ref C :: bm, ns := N, qualname := q, hasDict := true, slotNames := sn, subclasses := sub, abstract := ab, collection := col, hasDel := false } := by unfold clsIn; rw [hC] <;> rfl
  obtain ⟨oD, esD, epD, hoD, hdD, _⟩ := hd.count hw
  obtain ⟨hh, g, d, t, os⟩ := s
  refine set_plain (s := ⟨hh, g, d, t + 1, os⟩) X (od := some oD) ⟨hx, rfl, rfl, hoD⟩ T.sa ?_
  exact osa_old X hx hd hw hz hcl (show refsVE (.ref C :: bm) = true from hbm) rfl T.noN fun h' tk' kk e => h h' tk' _ kk e
/-- the base's __init__ -/
theorem base_init {cnB : Str} {qual : Str} {p0 pp p3 p4 p5 p6 q1 q2 q3 q4 r1 r2 r3 r4 : Pos} {k : Nat} {x t0 : Addr} {v : Value}
    (W' : Wd prog K mg) (so : SupOk p0 pp p3 p4 p5) (T : ExcF K C CB fB) (IB : InitF prog K fB CB qual [supS p0 pp p3 p4 p5 p6, plS q1 q2 q3 q4, nmS cnB k r1 r2 r3 r4]) (X : K.In s.heap) (hlim : s.heap.NoLimit) (a : At mg s.heap) (hx : s.heap.get? x = some (excO C t0)) (hnx : K.lookup x = none) (hroom : A.depth < recursionLimit)
    (hq : ∀ h' tk dx t1, InitEnd s.heap h' x C dx t1 v cnB → R (.ok (.ret .none)) { s with heap := h', toks := tk }) :
    codeAny (model prog w) A (.call (.ref fB) ⟨[.ref x, v], []⟩) R s := by
  obtain ⟨⟨oc, od, kV, doc, pm, an, ct, osl, cda, cc, p1, p2, ccl, cdd, vs, ccs, file, tf, cl, cld, csl, hf, hcd, hcode, hvs, hfile, hcell⟩, cdD, hD⟩ := IB
  obtain ⟨nm, q, N, bs, bm, sn, sub, ab, col, dd, k0, kk1, k2, k3, k5, hC, hbm⟩ := id T.cls
  have hcl : clsIn K C = some { name := nm, bases := bs, mro := .ref C :: bm, ns := N, qualname := q, hasDict := true, slotNames := sn, subclasses := sub, abstract := ab, collection := col, hasDel := false } := by unfold clsIn; rw [hC] <;> rfl
  refine ks_codeAny_call_defAt (fd := ksFn "__init__" qual (iA p1 p2) [supS p0 pp p3 p4 p5 p6, plS q1 q2 q3 q4, nmS cnB k r1 r2 r3 r4] iS .none kV doc pm an (.ref cda) ct cc) (body := [supS p0 pp p3 p4 p5 p6, plS q1 q2 q3 q4, nmS cnB k r1 r2 r3 r4]) (binds := [("self", .ref x), ("place", v)]) hroom (X _ _ hf) rfl hlim (codeRec_of X hcd) rfl (BindsTo.of_eq rfl) (show ∀ z ∈ iS.names, z.2 ≠ .cell by decide) (show ∀ z ∈ [(("self" : Str), Value.ref x), ("place", v)], iS.names.lookup z.1 = some .local from fun z hz => by rcases List.mem_cons.mp hz with rfl | hz; exact (by decide : iS.names.lookup ("self" : Str) = some .local); rcases List.mem_cons.mp hz with rfl | hz; exact (by decide : iS.names.lookup ("place" : Str) = some .local); cases hz) (fun h0 hn k0 => ?_) rfl rfl rfl
  obtain ⟨hh, g, d, t, os⟩ := s
  have X0 : K.In h0 := X.keeps k0
  have hv1 : (([("self", .ref x), ("place", v)] : List (Str × Value)).reverse.lookup ("self" : Str)) = some (Value.ref x) := by rfl
  have hv2 : (([("self", .ref x), ("place", v)] : List (Str × Value)).reverse.lookup ("place" : Str)) = some v := by rfl
  have hxL : hh.objs.size ≠ x := Nat.ne_of_gt (Heap.lt_size hx)
  have hLt := hn.lt
  refine ks_wpAt_execs_cons (sup_own (s := ⟨h0, g, d, _, os⟩) (L := hh.objs.size) W' so T X0 (a.keeps k0) hn hv1 hv2 (k0 _ _ hx) hf hcode hvs hfile hcell hD fun h1 t1 tk1 k1 e1 => ?_)
  refine wpAt_of_wpAny ?_
  show wpAny _ _ (execs _ _) _ _ _
  have X1 : K.In h1 := kept_but X0 hnx k1
  have hn1 : h1.Ns hh.objs.size (([("self", .ref x), ("place", v)] : List (Str × Value)).reverse.lookup ·) := by
    obtain ⟨oL, es, ep, hL, r⟩ := hn
    exact ⟨oL, es, ep, k1 _ _ hxL hL, r⟩
  refine wpAny_execs_cons (plainObj_wpAny_Assign_Attribute ?_ (by rfl))
  refine ESX.ldL hn1 hv2 (ESX.ldL hn1 hv1 ?_ (by rfl) (by rfl)) (by rfl) (by rfl)
  refine set_plain (s := ⟨h1, g, d, tk1, os⟩) X1 (od := none) (inst0 e1) T.sa ?_
  refine exc_osa X1 e1 hcl (show refsVE (.ref C :: bm) = true from hbm) rfl T.noP (fun h3 tk3 dx k3 dn dne hx3 hn3 => ?_)
  have X3 : K.In h3 := kept_but X1 hnx k3
  have hn3' : h3.Ns hh.objs.size (([("self", .ref x), ("place", v)] : List (Str × Value)).reverse.lookup ·) := by
    obtain ⟨oL, es, ep, hL, r⟩ := hn1
    exact ⟨oL, es, ep, k3 _ _ hxL hL, r⟩
  have big1 : hh.objs.size < h1.objs.size := by
    obtain ⟨oL, es, ep, hL, _⟩ := hn1
    exact Heap.lt_size hL
  have bigx : hh.objs.size ≤ dx := Nat.le_trans (Nat.le_of_lt big1) dn
  refine wpAny_execs_cons (name_store (s := ⟨h3, g, d, tk3, os⟩) (L := hh.objs.size) (nl := ["place"]) T X3 rfl hn3' hv1 (by rfl) (by rfl) hx3 hn3 (Within.cons "place" v Within.nil) (by decide) (by rfl) fun h4 tk4 tv k4 hn4 => ?_)
  refine wpAny_execs_nil (hq h4 tk4 dx t1 ⟨fun b o hb e => ?_, ?_, ?_, dne, ?_⟩)
  · have hbd : b ≠ dx := by
      have e0 : hh.get? b = some o := e
      exact Nat.ne_of_lt (Nat.lt_of_lt_of_le (Heap.lt_size e0) bigx)
    exact k4 b o hbd (k3 b o hb (k1 b o hb (k0 b o e)))
  · exact k4 _ _ (Ne.symm dne) hx3
  · exact bigx
  · exact ⟨tv, hn4⟩
end
end FX
end PySem


set_option Elab.async false
set_option linter.all false
set_option maxRecDepth 100000
set_option maxHeartbeats 4000000
namespace PySem
namespace FX
open PySem.W PySem.Calls PyProof.Rows PySem.HandSPX
/-- an heir's own facts: C the class, fI its __init__, CB the base, fB its __init__ -/
structure HeirF (prog : Program) (K : Frag) (C fI CB fB : Addr) (cn cnB : Str) : Prop where
  exc : ExcF K C CB fB
  iC : findIn K (.ref C) "__init__" = some (some (.ref fI))
  tI : typeIn K (.ref fI) = some (.type "function")
  tB : typeIn K (.ref fB) = some (.type "function")
  fnB : fnIn K fB = true
  mC : mroIn K C (.ref C) = some true
  spC : ks_superIn K C C "__init__" = some (some (.ref fB))
  kC : keepIn K (.ref C) = true
  exC : subIn K (.ref C) (.type "BaseException") = some true
  tyC : typeIn K (.ref C) = some (.type "type")
  own : ∃ (qual : Str) (p0 pp p3 p4 p5 p6 r1 r2 r3 r4 : Pos) (k : Nat), SupOk p0 pp p3 p4 p5 ∧ InitF prog K fI C qual [supS p0 pp p3 p4 p5 p6, nmS cn k r1 r2 r3 r4]
  base : ∃ (qual : Str) (p0 pp p3 p4 p5 p6 q1 q2 q3 q4 r1 r2 r3 r4 : Pos) (k : Nat), SupOk p0 pp p3 p4 p5 ∧ InitF prog K fB CB qual [supS p0 pp p3 p4 p5 p6, plS q1 q2 q3 q4, nmS cnB k r1 r2 r3 r4]
/-- a made one -/
structure OwnMade (h h' : Heap) (e C d : Addr) (v : Value) (cn : Str) : Prop where
  keep : ∀ b o, h.get? b = some o → h'.get? b = some o
  new : h.objs.size ≤ e
  obj : ∃ oe vs, h'.get? e = some oe ∧ oe.cls = .ref C ∧ oe.dict = some d ∧ oe.data = .fields vs ∧ vs[1]? = some .none
  dbig : h.objs.size ≤ d
  dne : d ≠ e
  ns : ∃ tk, h'.Ns1 d (fun y => if y = "name" then some (.str cn tk) else if y = "place" then some v else none)
section
variable {prog : Program} {w : World} {A : Around} {E : Value → Shared → Prop} {R : Result → Shared → Prop} {s : Shared} {K : Frag} {mg : Str → Option Value} {C CB fI fB : Addr} {cn cnB : Str}
theorem two_names (a b : Value) : Within (fun y : Str => if y = "name" then some a else if y = "place" then some b else none) ["name", "place"] := by
  intro y hy
  by_cases h : y = "name"
  · subst h; exact List.mem_cons_self
  · by_cases h2 : y = "place"
    · subst h2; exact List.mem_cons_of_mem _ List.mem_cons_self
    · simp only [h, h2, if_false] at hy
      exact absurd rfl hy
/-- an heir's __init__ -/
theorem sub_init {x t0 : Addr} {v : Value}
    (W' : Wd prog K mg) (T : HeirF prog K C fI CB fB cn cnB) (X : K.In s.heap) (hlim : s.heap.NoLimit) (a : At mg s.heap) (hx : s.heap.get? x = some (excO C t0)) (hnx : K.lookup x = none) (hroom : A.depth + 1 < recursionLimit)
    (hq : ∀ h' tk dx t1, InitEnd s.heap h' x C dx t1 v cn → R (.ok (.ret .none)) { s with heap := h', toks := tk }) :
    codeAny (model prog w) A (.call (.ref fI) ⟨[.ref x, v], []⟩) R s := by
  obtain ⟨qual, p0, pp, p3, p4, p5, p6, r1, r2, r3, r4, k, so, IB⟩ := T.own
  obtain ⟨qualB, p0', pp', p3', p4', p5', p6', q1', q2', q3', q4', r1', r2', r3', r4', k', so', IB'⟩ := T.base
  obtain ⟨⟨oc, od, kV, doc, pm, an, ct, osl, cda, cc, p1, p2, ccl, cdd, vs, ccs, file, tf, cl, cld, csl, hf, hcd, hcode, hvs, hfile, hcell⟩, cdD, hD⟩ := IB
  obtain ⟨nm, q, N, bs, bm, sn, sub, ab, col, dd, k0, kk1, k2, k3, k5, hC, hbm⟩ := id T.exc.cls
  have hcl : clsIn K C = some { name := nm, bases := bs, mro := .ref C :: bm, ns := N, qualname := q, hasDict := true, slotNames := sn, subclasses := sub, abstract := ab, collection := col, hasDel := false } := by unfold clsIn; rw [hC] <;> rfl
  refine ks_codeAny_call_defAt (fd := ksFn "__init__" qual (iA p1 p2) [supS p0 pp p3 p4 p5 p6, nmS cn k r1 r2 r3 r4] iS .none kV doc pm an (.ref cda) ct cc) (body := [supS p0 pp p3 p4 p5 p6, nmS cn k r1 r2 r3 r4]) (binds := [("self", .ref x), ("place", v)]) (Nat.lt_of_succ_lt hroom) (X _ _ hf) rfl hlim (codeRec_of X hcd) rfl (BindsTo.of_eq rfl) (show ∀ z ∈ iS.names, z.2 ≠ .cell by decide) (show ∀ z ∈ [(("self" : Str), Value.ref x), ("place", v)], iS.names.lookup z.1 = some .local from fun z hz => by rcases List.mem_cons.mp hz with rfl | hz; exact (by decide : iS.names.lookup ("self" : Str) = some .local); rcases List.mem_cons.mp hz with rfl | hz; exact (by decide : iS.names.lookup ("place" : Str) = some .local); cases hz) (fun h0 hn k0 => ?_) rfl rfl rfl
  obtain ⟨hh, g, d, t, os⟩ := s
  have X0 : K.In h0 := X.keeps k0
  have hv1 : (([("self", .ref x), ("place", v)] : List (Str × Value)).reverse.lookup ("self" : Str)) = some (Value.ref x) := by rfl
  have hv2 : (([("self", .ref x), ("place", v)] : List (Str × Value)).reverse.lookup ("place" : Str)) = some v := by rfl
  have hxL : hh.objs.size ≠ x := Nat.ne_of_gt (Heap.lt_size hx)
  have hlim0 : h0.NoLimit := Heap.NoLimit.keeps hlim k0
  obtain ⟨pl, hpl⟩ := so (ksEnv qual iS hh.objs.size fI (.ref cda) cc)
  refine ks_wpAt_execs_cons (ks_wpAt_Expr_any (ks_wpAt_MethodCall (sup_node (s := ⟨h0, g, d, _, os⟩) W' X0 (a.keeps k0) hn hv1 (inst0 (k0 _ _ hx)) hf hcode hvs hfile hcell hD T.mC fun h1 hso k1 => ?_) hpl) (by rfl))
  have X1 := X0.keeps k1
  have hsp := T.spC
  unfold ks_superIn at hsp
  rw [hcl] at hsp
  obtain ⟨of, hof, hofc⟩ : ∃ of, h1.get? fB = some of ∧ of.cls = .type "function" := by
    have ht' : (K.lookup fB).map (·.cls) = some (.type "function") := T.tB
    cases z : K.lookup fB with
    | none => rw [z] at ht'; cases ht'
    | some of => rw [z] at ht'; exact ⟨of, X1 _ _ z, Option.some.inj ht'⟩
  have k01 : ∀ b o, hh.get? b = some o → h1.get? b = some o := fun b o e => k1 b o (k0 b o e)
  refine ks_wpAny_getMethod_super hso (looks_opaque X1 W'.any) (l₀ := .ref C :: bm) ?_ rfl X1 hsp hof hofc (ks_ne X1 (inst0 (k01 _ _ hx)) hcl) (by decide) ?_
  · exact fun A Q E s k q => wpAny_bind ((looks_clsIn X1 hcl) A _ E s k (wpAny_pure q))
  have ku : ∀ b o, h1.get? b = some o → (h1.push { cls := .type "method", data := .fields #[.ref fB, .ref x] }).get? b = some o := fun b o e => Heap.get?_push_of_some _ e
  have hm : (h1.push { cls := .type "method", data := .fields #[.ref fB, .ref x] }).get? h1.objs.size = some (methodObj (.ref fB) (.ref x)) := Heap.get?_push_size _ rfl
  have ku' : ∀ b o, hh.get? b = some o → (h1.push { cls := .type "method", data := .fields #[.ref fB, .ref x] }).get? b = some o := fun b o e => ku b o (k01 b o e)
  refine callWith_of (P := MethP K h1.objs.size fB (.ref x)) (by rfl) (keeps_M T.fnB) (evalArgs_plain (arg1 (L := hh.objs.size) ((hn.keeps k1).keeps ku) hv2 (by rfl) (by rfl) ⟨⟨hm, X1.keeps ku⟩, ?_⟩))
  refine wpAny_call (method_call hm (base_init W' so' T.exc IB' (X1.keeps ku) (hlim.keeps ku') (a.keeps ku') (ku' _ _ hx) hnx hroom fun h2 tk2 dx t1 e2 => ?_))
  refine wpAt_of_wpAny ?_
  have hn2 : h2.Ns hh.objs.size (([("self", .ref x), ("place", v)] : List (Str × Value)).reverse.lookup ·) := by
    obtain ⟨oL, es, ep, hL, r⟩ := hn
    exact ⟨oL, es, ep, e2.keep _ _ hxL (ku _ _ (k1 _ _ hL)), r⟩
  obtain ⟨tk', hns⟩ := e2.ns
  refine wpAny_execs_cons (name_store (s := ⟨h2, g, d, tk2, os⟩) (L := hh.objs.size) (nl := ["name", "place"]) T.exc (kept_but (X1.keeps ku) hnx e2.keep) rfl hn2 hv1 (by rfl) (by rfl) e2.obj hns (two_names _ _) (by decide) (by rfl) fun h4 tk4 tv k4 hn4 => ?_)
  have bigx : hh.objs.size ≤ dx := by
    have q1 : hh.objs.size < (h1.push { cls := .type "method", data := .fields #[.ref fB, .ref x] }).objs.size := by
      obtain ⟨oL, es, ep, hL, r⟩ := hn
      exact Heap.lt_size (ku _ _ (k1 _ _ hL))
    exact Nat.le_trans (Nat.le_of_lt q1) e2.dbig
  refine wpAny_execs_nil (hq h4 tk4 dx t1 ⟨fun b o hb e => ?_, ?_, bigx, e2.dne, tv, ?_⟩)
  · have hbd : b ≠ dx := Nat.ne_of_lt (Nat.lt_of_lt_of_le (Heap.lt_size e) bigx)
    exact k4 b o hbd (e2.keep b o hb (ku' b o e))
  · exact k4 _ _ (Ne.symm e2.dne) e2.obj
  · have : (fun y : Str => if y = "name" then some (Value.str cn tv) else if y = "name" then some (.str cnB tk') else if y = "place" then some v else none) = (fun y : Str => if y = "name" then some (Value.str cn tv) else if y = "place" then some v else none) := by
      funext y
      by_cases h : y = "name"
      · simp only [h, if_true]
      · simp only [h, if_false]
    rw [← this]
    exact hn4
/-- C(v) -/
theorem made (W' : Wd prog K mg) (T : HeirF prog K C fI CB fB cn cnB) {v : Value} (X : K.In s.heap) (hlim : s.heap.NoLimit) (a : At mg s.heap) (hroom : A.depth + 2 < recursionLimit)
    (hq : ∀ h' tk e d, OwnMade s.heap h' e C d v cn → R (.ok (.ret (.ref e))) { s with heap := h', toks := tk }) :
    codeAny (model prog w) A (.call (.ref C) ⟨[v], []⟩) R s := by
  obtain ⟨nm, q, N, bs, bm, sn, sub, ab, col, dd, k0, k1, k2, k3, k5, hC, hbm⟩ := T.exc.cls
  obtain ⟨hp, g, dr, tk, os⟩ := s
  have k : ∀ b o, hp.get? b = some o → ((hp.push (kdv_tup [v])).push (excO C hp.objs.size)).get? b = some o := fun b o e => Heap.get?_push_of_some _ (Heap.get?_push_of_some _ e)
  have hget : ((hp.push (kdv_tup [v])).push (excO C hp.objs.size)).get? (hp.objs.size + 1) = some (excO C hp.objs.size) := by heap_get
  have hnx : K.lookup (hp.objs.size + 1) = none := by
    cases e : K.lookup (hp.objs.size + 1) with
    | none => rfl
    | some o =>
      have z : hp.get? (hp.objs.size + 1) = some o := X _ _ e
      exact absurd (Nat.lt_of_succ_lt (Heap.lt_size z)) (Nat.lt_irrefl _)
  refine call_own F.excBase_ValueError (fun X => refsVE_contains X bm hbm) (X _ _ hC) (looks_findIn X T.iC) (fun self => bind_fn X self T.tI) (one_size v) ?_
  refine sub_init (s := ⟨(hp.push (kdv_tup [v])).push (excO C hp.objs.size), g, dr, tk, os⟩) W' T (X.keeps k) (hlim.keeps k) (a.keeps k) hget hnx ?_ fun h' tk' dx t1 ⟨k', hx, dn, dne, hns⟩ => ?_
  · show A.depth + 1 + 1 < recursionLimit
    exact hroom
  · have old : ∀ b o, hp.get? b = some o → h'.get? b = some o := fun b o e => k' b o (Nat.ne_of_lt (Nat.lt_succ_of_lt (Heap.lt_size e))) (k b o e)
    have z : hp.objs.size + 1 + 1 ≤ dx := by
      first
        | (simpa only [Heap.size_push] using dn)
        | exact dn
        | (have q := dn; rw [Heap.size_push, Heap.size_push] at q; exact q)
    exact ⟨rfl, hq h' tk' (hp.objs.size + 1) dx ⟨old, Nat.le_succ _, ⟨_, _, hx, rfl, rfl, rfl, rfl⟩, Nat.le_trans (Nat.le_trans (Nat.le_succ _) (Nat.le_succ _)) z, dne, hns⟩⟩
/-- the root itself -/
structure RootF (prog : Program) (K : Frag) (CB fB : Addr) (cnB : Str) : Prop where
  exc : ExcF K CB CB fB
  iC : findIn K (.ref CB) "__init__" = some (some (.ref fB))
  tB : typeIn K (.ref fB) = some (.type "function")
  kC : keepIn K (.ref CB) = true
  exC : subIn K (.ref CB) (.type "BaseException") = some true
  tyC : typeIn K (.ref CB) = some (.type "type")
  base : ∃ (qual : Str) (p0 pp p3 p4 p5 p6 q1 q2 q3 q4 r1 r2 r3 r4 : Pos) (k : Nat), SupOk p0 pp p3 p4 p5 ∧ InitF prog K fB CB qual [supS p0 pp p3 p4 p5 p6, plS q1 q2 q3 q4, nmS cnB k r1 r2 r3 r4]
theorem made_root (W' : Wd prog K mg) (T : RootF prog K CB fB cnB) {v : Value} (X : K.In s.heap) (hlim : s.heap.NoLimit) (a : At mg s.heap) (hroom : A.depth + 2 < recursionLimit)
    (hq : ∀ h' tk e d, OwnMade s.heap h' e CB d v cnB → R (.ok (.ret (.ref e))) { s with heap := h', toks := tk }) :
    codeAny (model prog w) A (.call (.ref CB) ⟨[v], []⟩) R s := by
  obtain ⟨nm, q, N, bs, bm, sn, sub, ab, col, dd, k0, k1, k2, k3, k5, hC, hbm⟩ := T.exc.cls
  obtain ⟨qualB, p0', pp', p3', p4', p5', p6', q1', q2', q3', q4', r1', r2', r3', r4', k', so', IB'⟩ := T.base
  obtain ⟨hp, g, dr, tk, os⟩ := s
  have k : ∀ b o, hp.get? b = some o → ((hp.push (kdv_tup [v])).push (excO CB hp.objs.size)).get? b = some o := fun b o e => Heap.get?_push_of_some _ (Heap.get?_push_of_some _ e)
  have hget : ((hp.push (kdv_tup [v])).push (excO CB hp.objs.size)).get? (hp.objs.size + 1) = some (excO CB hp.objs.size) := by heap_get
  have hnx : K.lookup (hp.objs.size + 1) = none := by
    cases e : K.lookup (hp.objs.size + 1) with
    | none => rfl
    | some o =>
      have z : hp.get? (hp.objs.size + 1) = some o := X _ _ e
      exact absurd (Nat.lt_of_succ_lt (Heap.lt_size z)) (Nat.lt_irrefl _)
  refine call_own F.excBase_ValueError (fun X => refsVE_contains X bm hbm) (X _ _ hC) (looks_findIn X T.iC) (fun self => bind_fn X self T.tB) (one_size v) ?_
  refine base_init (s := ⟨(hp.push (kdv_tup [v])).push (excO CB hp.objs.size), g, dr, tk, os⟩) W' so' T.exc IB' (X.keeps k) (hlim.keeps k) (a.keeps k) hget hnx ?_ fun h' tk' dx t1 ⟨k', hx, dn, dne, hns⟩ => ?_
  · show A.depth + 1 < recursionLimit
    omega
  · have old : ∀ b o, hp.get? b = some o → h'.get? b = some o := fun b o e => k' b o (Nat.ne_of_lt (Nat.lt_succ_of_lt (Heap.lt_size e))) (k b o e)
    have z : hp.objs.size + 1 + 1 ≤ dx := by
      first
        | (simpa only [Heap.size_push] using dn)
        | exact dn
        | (have q := dn; rw [Heap.size_push, Heap.size_push] at q; exact q)
    exact ⟨rfl, hq h' tk' (hp.objs.size + 1) dx ⟨old, Nat.le_succ _, ⟨_, _, hx, rfl, rfl, rfl, rfl⟩, Nat.le_trans (Nat.le_trans (Nat.le_succ _) (Nat.le_succ _)) z, dne, hns⟩⟩
/-- what is asked of a class that is raised -/
structure MadeF (prog : Program) (K : Frag) (mg : Str → Option Value) (C : Addr) (cn : Str) : Prop where
  kC : keepIn K (.ref C) = true
  exC : subIn K (.ref C) (.type "BaseException") = some true
  tyC : typeIn K (.ref C) = some (.type "type")
  go : ∀ (w : World) (A : Around) (R : Result → Shared → Prop) (s : Shared) (v : Value), K.In s.heap → s.heap.NoLimit → At mg s.heap → A.depth + 2 < recursionLimit → (∀ h' tk e d, OwnMade s.heap h' e C d v cn → R (.ok (.ret (.ref e))) { s with heap := h', toks := tk }) → codeAny (model prog w) A (.call (.ref C) ⟨[v], []⟩) R s
theorem MadeF.heir (W' : Wd prog K mg) (T : HeirF prog K C fI CB fB cn cnB) : MadeF prog K mg C cn := ⟨T.kC, T.exC, T.tyC, fun w A R s v X hl a hr hq => made W' T X hl a hr hq⟩
theorem MadeF.root (W' : Wd prog K mg) (T : RootF prog K CB fB cnB) : MadeF prog K mg CB cnB := ⟨T.kC, T.exC, T.tyC, fun w A R s v X hl a hr hq => made_root W' T X hl a hr hq⟩
end
end FX
end PySem
namespace FW
open PySem PySem.Spec PyProof.Rows L2
theorem relO_xd {v : V} {v' : Value} {cn : Str} {tk : Tok} (r : RelV v v') (f : Str) : RelO (List.lookup f [(("place" : Str), v), ("name", .str cn)]) (if f = "name" then some (.str cn tk) else if f = "place" then some v' else none) := by
  by_cases hw : f = "place"
  · subst hw
    rw [if_neg (by decide), if_pos rfl]
    have q : List.lookup ("place" : Str) [(("place" : Str), v), ("name", .str cn)] = some v := by simp [List.lookup]
    rw [q]
    exact r
  · have qw : (f == ("place" : Str)) = false := by simpa using hw
    by_cases hn : f = "name"
    · subst hn
      rw [if_pos rfl]
      have q : List.lookup ("name" : Str) [(("place" : Str), v), ("name", .str cn)] = some (.str cn) := by simp [List.lookup, qw]
      rw [q]
      exact ⟨tk, rfl⟩
    · rw [if_neg hn, if_neg hw]
      have qn : (f == ("name" : Str)) = false := by simpa using hn
      have q2 : List.lookup f [(("place" : Str), v), ("name", .str cn)] = none := by simp [List.lookup, qw, qn]
      rw [q2]
      trivial
section
variable {X : Cx} {C : Addr} {cn x : Str}
theorem pmk_own {a : Expr} {ta : TA} {p pos : Pos} {k : Nat} (T : PySem.FX.MadeF X.prog X.K X.mg C cn) (gC : X.mg x = some (.ref C)) (hr : Room k X.A) (ha : PA X [a] ta) (hg : Gl X x := by rfl) (hnd : (x == ("__debug__" : Str)) = false := by decide)
    (he : starEach (a :: []) X.env = (false, eval a X.env) :: starEach [] X.env := by rfl) (hpl : (backTo pos (starEach [] X.env)).any (·.1) = false := by rfl) :
    PMk X (.Call (.Name x p) [a] [] pos) (tMkX cn C ta) := by
  intro pins s σ H Q I h
  refine wpAny_Call_Name_kw (ld_glob I hg gC ?_ hnd)
  refine PySem.W.callWith_K (h₀ := X.base) I.ok.mod.kin T.kC (thn (ha.run pos pins s σ H _ I h) fun us s1 hh => ?_) he hpl
  obtain ⟨vs, H1, I1, r1, v, ev, q1⟩ := hh
  subst ev
  refine ⟨I1.kIn, ?_⟩
  cases r1 with
  | cons rv rn =>
    rename_i v' us'
    cases rn
    show wpAny _ _ (call (.ref C) [v']) _ _ _
    have hlim := I1.nolimit
    have hk1 := I1.bk
    have hat : PySem.FX.At X.mg X.base := ⟨I1.mod.glob, let ⟨mb, h1, h2⟩ := I1.mod.blt; ⟨mb, h1, (h2 _ (by decide)).trans (by first | rfl | decide +kernel)⟩⟩
    obtain ⟨hp, g, dr, tk, os⟩ := s1
    refine wpAny_call (T.go _ _ _ _ _ I1.kIn hlim ((PySem.FX.At.keeps hat) hk1) (by have := hr.dp; omega) fun h' tk' e d M => ?_)
    show MkP X pins σ Q (.ref e) ⟨h', g, dr, tk', os⟩
    obtain ⟨oe, fv, hoe, hc, hd, hdat, h1⟩ := M.obj
    obtain ⟨tk0, hns⟩ := M.ns
    obtain ⟨G', g1, g2⟩ := restrict h' fun b => decide (b ≠ e)
    have gk : ∀ b, b ≠ e → G'.get? b = h'.get? b := fun b hb => g1 b (decide_eq_true hb)
    have ge : G'.get? e = none := g2 e (by simp)
    have old : ∀ b o, hp.get? b = some o → G'.get? b = some o := fun b o q => (gk b (Nat.ne_of_lt (Nat.lt_of_lt_of_le (Heap.lt_size q) M.new))).trans (M.keep b o q)
    have ob : ObjOk X.prog X.w (upd H1 d (.xd [(("place" : Str), v), ("name", .str cn)])) G' d (.xd [(("place" : Str), v), ("name", .str cn)]) :=
      ⟨_, hns.at (fun o q => (gk d M.dne).trans q), fun f => relO_xd rv f⟩
    have J : Inv X pins σ (upd H1 d (.xd [(("place" : Str), v), ("name", .str cn)])) ⟨G', g, dr, tk', os⟩ := I1.laid (t' := tk') old M.dbig ob
    refine ⟨e, oe, fv, ⟨G', g, dr, tk', os⟩, _, .ref C, some d, rfl, J, fun b o q => ?_, ge, hoe, ⟨hc, hd⟩, hdat, h1, ?_, rfl, I1.bare, raises_own T.exC T.tyC, q1 d (I1.hok.fresh M.dbig)⟩
    · by_cases hb : b = e
      · have q' : G'.get? b = some o := q
        rw [hb, ge] at q'; cases q'
      · exact (gk b hb).symm.trans q
    · rw [upd_ne (Ne.symm M.dne)]
      exact I1.hok.fresh M.new
end
end FW


set_option Elab.async false
set_option linter.all false
set_option maxRecDepth 100000
set_option maxHeartbeats 4000000
namespace FW
open PySem PySem.Spec PyProof.Rows L2
/-! ### list * int -/
theorem list_mulW (l : Addr) (items : Array Value) (n : Nat) (sl : Array (Option Value)) (x : Int) (u : Tok) (hc0 : ¬(!Builtin.List.listFitsIndex x) = true) (hc1 : ¬items.size * x.toNat > (2 ^ 63 - 1) / 8) (hc2 : ¬Builtin.List.listTooLong (items.size * x.toNat) = true) :
    Meets (Builtin.«list.__mul__» ⟨[.ref l, .int x u], []⟩) (fun _ R s => s.heap.get? l = some { cls := .type "list", dict := none, data := .seq items n, slots := sl } ∧ R (.ok (.ret (Value.ref s.heap.objs.size))) { s with heap := s.heap.push { cls := Value.type "list", data := Data.seq (List.foldl (fun x1 x2 => x1 ++ x2) #[] (List.replicate (if items.isEmpty = true then 0 else x.toNat) items)) }, toks := s.toks }) :=
  .of_wp fun prog w A R s h => by
    obtain ⟨hp, g, d, tk, os⟩ := s; obtain ⟨hl, h⟩ := h
    have hsz := PySem.AutoListH.joined_fits hc2
    wp_walk; refine wpAny_ite_false (decide_eq_false (Nat.not_lt.mpr hsz)) ?_; wp_walk; exact ⟨_, rfl, h⟩
theorem int_rmulW (a : Int) (t : Tok) (l : Addr) (items : Array Value) (n : Nat) (sl : Array (Option Value)) :
    Meets (Builtin.«int.__rmul__» ⟨[.int a t, .ref l], []⟩) (fun _ R s => s.heap.get? l = some { cls := .type "list", dict := none, data := .seq items n, slots := sl } ∧ R (.ok (.ret Value.notImplemented)) s) :=
  .of_wp fun prog w A R s h => by obtain ⟨hp, g, d, tk, os⟩ := s; obtain ⟨hl, h⟩ := h; wp_walk; exact ⟨_, rfl, h⟩
def rRepL (K : PySem.W.Frag) : R2 := fun x y H Q => ∃ l k xs, x = .ref l ∧ y = .int k ∧ SqL K H l xs ∧ -1000 ≤ k ∧ k ≤ 1000 ∧ xs.length ≤ 1000 ∧
  ∀ p, H p = none → Q (.ref p) (upd H p (.lst (List.replicate k.toNat xs).flatten))
section
variable {X : Cx}
theorem op_repL : OpR X (binaryOp .Mult) (rRepL X.K) := by
  intro pins s σ H x y v u Q I rx ry h
  obtain ⟨l, k, xs, rfl, rfl, hH, h1, h2, hz, q⟩ := h
  cases rx
  obtain ⟨t, rfl⟩ := ry
  obtain ⟨its, r, ⟨o, n, e, c1, c2, c3⟩, z⟩ := I.list hH
  have hl : xs.length = its.length := r.length
  obtain ⟨cls, dd, data, sl⟩ := o
  dsimp only at c1 c2 c3
  subst c1; subst c2; subst c3
  have hkn : k.toNat ≤ 1000 := by omega
  have hmul : xs.length * k.toNat ≤ 1000 * 1000 := Nat.mul_le_mul hz hkn
  have hlen : its.toArray.size * k.toNat ≤ sizeLine := by
    rw [List.size_toArray, ← hl, sizeLine_eq]
    exact Nat.le_trans hmul (by decide)
  have hcap : ¬ its.toArray.size * k.toNat > (2 ^ 63 - 1) / 8 := by
    have : (sizeLine : Nat) ≤ (2 ^ 63 - 1) / 8 := by decide
    omega
  have hfit : ¬ (!Builtin.List.listFitsIndex k) = true := by
    rw [fitsIndex_both (by omega) (by omega)]
    exact Bool.false_ne_true
  have hlong : ¬ Builtin.List.listTooLong (its.toArray.size * k.toNat) = true := by
    rw [notLongL hlen]
    exact Bool.false_ne_true
  have hnew : List.foldl (fun x1 x2 => x1 ++ x2) #[] (List.replicate (if its.toArray.isEmpty = true then 0 else k.toNat) its.toArray) = (List.replicate k.toNat its).flatten.toArray := by
    have f0 : ∀ m : Nat, List.foldl (fun x1 x2 => x1 ++ x2) #[] (List.replicate m its.toArray) = (List.replicate m its).flatten.toArray := fun m => by
      have := foldl_rep its m []
      rw [List.nil_append] at this
      exact this
    rw [f0]
    cases its with
    | nil => simp
    | cons a r' => rw [if_neg (by simp)]
  refine wpAny_binaryOp_repeat_ref (T := "list") (U := "int") (by decide) ⟨_, e, rfl⟩ (fun s' => typeIs_int s' k t) noFill_list_mul PySem.F.fills_int_mul PySem.F.slot_int_rmul repeat_list PySem.F.slot_int_index.lookup
    (call_meets PySem.F.slot_int_rmul (typeIs_int s k t) PySem.F.entry_int_rmul (PySem.F.args_int_rmul_2 _ _) (int_rmulW k t l its.toArray n sl)
      ⟨e, rfl, ⟨_, e, rfl⟩, call_meets PySem.F.slot_list_mul ⟨_, e, rfl⟩ PySem.F.entry_list_mul (PySem.F.args_list_mul_2 _ _) (list_mulW l its.toArray n sl k t hfit hcap hlong) ⟨e, ?_⟩⟩)
  rw [hnew]
  exact ⟨.ref _, _, I.lnew (t' := s.toks) (r.rep k.toNat) (by rw [PyProof.Rows.lm_len_rep_flat, Nat.mul_comm, sizeLine_eq]; exact Nat.le_trans hmul (by decide)), rfl, q _ I.fresh⟩
end
def dMulB (x y : D) : Option D := match x with
  | .list _ => dRepL x y
  | _ => dMulA x y
section
variable {K : PySem.W.Frag} {X : Cx}
theorem ser_repL : Ser K (rRepL K) dRepL := by
  intro I H v u x y z Q s hx hy hz d
  unfold dRepL at hz
  split at hz
  · rename_i xs k
    split at hz
    · rename_i hl
      cases hz
      have hl := of_decide_eq_true hl
      obtain ⟨a, vs, rfl, h1, t1⟩ := hx.of_list s
      exact ⟨a, k, vs, rfl, hy.of_int, h1, hl.1, hl.2.1, by rw [t1.length]; exact hl.2.2, d.lst s (t1.rep _)⟩
    · cases hz
  · cases hz
theorem ser_mulB : Ser K (fun x y H Q => rRepL K x y H Q ∨ (rI CMul (fun i j => .int (i * j)) x y H Q ∨ rRepA K x y H Q)) dMulB := by
  intro I H v u x y z Q s hx hy hz d
  unfold dMulB at hz
  split at hz
  · exact .inl (ser_repL I H v u _ y z Q s hx hy hz d)
  · exact .inr (ser_mulA I H v u x y z Q s hx hy hz d)
theorem op_mulB : OpR X (binaryOp .Mult) (fun x y H Q => rRepL X.K x y H Q ∨ (rI CMul (fun i j => .int (i * j)) x y H Q ∨ rRepA X.K x y H Q)) := OpR.or op_repL op_mulA
/-! floor division of any sign -/
def dDivN : D → D → Option D
  | .int i, .int j => if divOk j = true then some (.int (i / j)) else if decide (j < 0 ∧ -1073741824 < j) = true then some (.int (i.fdiv j)) else none
  | _, _ => none
theorem ser_divN : Ser K (fun x y H Q => rI CDivW (fun i j => .int (i / j)) x y H Q ∨ rI CDivN (fun i j => .int (i.fdiv j)) x y H Q) dDivN := by
  intro I H v u x y z Q s hx hy hz d
  unfold dDivN at hz
  split at hz
  · rename_i i j
    split at hz
    · rename_i hl
      exact .inl (ser_div I H v u (.int i) (.int j) z Q s hx hy (by show (if divOk j = true then _ else _) = _; rw [if_pos hl]; exact hz) d)
    · split at hz
      · rename_i hl
        cases hz
        have hl := of_decide_eq_true hl
        exact .inr ⟨_, _, hx.of_int, hy.of_int, ⟨by omega, by omega⟩, d.1 _ Rp.int⟩
      · cases hz
  · cases hz
theorem op_divN : OpR X (binaryOp .FloorDiv) (fun x y H Q => rI CDivW (fun i j => .int (i / j)) x y H Q ∨ rI CDivN (fun i j => .int (i.fdiv j)) x y H Q) := OpR.or op_fdivW op_fdivN
/-! >= of ints or of tuples of ints -/
end
section
variable {C : Ctx} {X : Cx} {W : WX} {pos : Pos} {K : PySem.W.Frag}
/-! ### a list display that is written on: a new cell -/
def cLstC (f : Cd (List Val)) : Cd Val := fun ρ μ => (f ρ μ).bind fun vs μ1 => match dats vs with
  | some xs => if lim xs.length = true then .ok (.loc μ1.length) (μ1 ++ [.lst xs]) else .stuck
  | none => .stuck
theorem Res.alloc {W : WX} {σ : L2.St} {I : Hp} {β : Nat → Addr} {μ : Sto} {H : Hp} {Q : VK} {p : Addr} {xs : List PyData} {ys : List V} (s : SR K I β μ H) (hp : H p = none) (t : RpAll K I ys xs) (h : Res C K W σ I β μ H (RV C K) Q (.ok (.loc μ.length) (μ ++ [.lst xs]))) : Q (.ref p) (upd H p (.lst ys)) := by
  obtain ⟨β', s2, x2, e2⟩ := s.alloc hp t
  exact h I β' (upd H p (.lst ys)) (.ref p) x2 s2 ⟨by rw [e2], by simp⟩
theorem se_lstC {es : List Expr} {f : Cd (List Val)} (h : SA C X W f es) : SE C X W (cLstC f) (.List es pos) := PE_imp (pe_lst h) fun σ H Q h => by
  obtain ⟨I, β, ρ, μ, s, e, h⟩ := h
  refine ⟨I, β, ρ, μ, s, e, Res.bind h fun vs μ1 I1 β1 H1 ws q x1 s1 r1 h1 => ?_⟩
  split at h1
  · rename_i xs hd
    split at h1
    · rename_i hl
      have t := dats_rp r1 hd
      exact ⟨by rw [t.length]; exact lim_size hl, fun p hp => Res.alloc s1 hp t h1⟩
    · exact h1.elim
  · exact h1.elim
end
end FW


set_option Elab.async false
set_option linter.all false
set_option maxRecDepth 100000
set_option maxHeartbeats 4000000
namespace FW
open PySem PySem.Spec PyProof.Rows L2
/-! ### comprehensions of two clauses -/
def lc2Run (w : Walked) (ρ0 : Env) (bd : D → Env → Option Env) (c : Cd Bool) (fw1 : Cd Walked) (bd1 : D → Env → Option Env) (vs1 : List Nat) (c1 : Cd Bool) (f : Cd Val) : List D → List D → Sto → R (List D)
  | [], acc, μ => .ok acc μ
  | x :: xs, acc, μ => match bd x ρ0 with
    | none => .stuck
    | some ρ1 => match c ρ1 μ with
      | .ok true μ1 => match fw1 ρ1 μ1 with
        | .ok w1 μ2 => if okB w1 μ2 = true then match lcRun w1 (wipeE ρ1 vs1) bd1 c1 f w1.1 acc μ2 with
            | .ok acc' μ3 => if okB w μ3 = true then lc2Run w ρ0 bd c fw1 bd1 vs1 c1 f xs acc' μ3 else .stuck
            | _ => .stuck
          else .stuck
        | _ => .stuck
      | .ok false μ1 => if okB w μ1 = true then lc2Run w ρ0 bd c fw1 bd1 vs1 c1 f xs acc μ1 else .stuck
      | _ => .stuck
def cLc2 (fw : Cd Walked) (bd : D → Env → Option Env) (vs : List Nat) (c : Cd Bool) (fw1 : Cd Walked) (bd1 : D → Env → Option Env) (vs1 : List Nat) (c1 : Cd Bool) (f : Cd Val) : Cd Val := fun ρ μ => (fw ρ μ).bind fun w μ1 =>
  if okB w μ1 = true then match lc2Run w (wipeE ρ vs) bd c fw1 bd1 vs1 c1 f w.1 [] μ1 with
    | .ok out μ2 => if lim out.length = true then .ok (.d (.list out)) μ2 else .stuck
    | _ => .stuck
  else .stuck
theorem lc2Run_len {w : Walked} {ρ0 : Env} {bd : D → Env → Option Env} {c : Cd Bool} {fw1 : Cd Walked} {bd1 : D → Env → Option Env} {vs1 : List Nat} {c1 : Cd Bool} {f : Cd Val} {out : List D} {μ2 : Sto} : ∀ {xs acc : List D} {μ : Sto}, lc2Run w ρ0 bd c fw1 bd1 vs1 c1 f xs acc μ = .ok out μ2 → acc.length ≤ out.length
  | [], acc, μ, h => by cases h; exact Nat.le_refl _
  | x :: xs, acc, μ, h => by
    unfold lc2Run at h
    split at h
    · cases h
    · split at h
      · split at h
        · split at h
          · split at h
            · rename_i hr
              split at h
              · exact Nat.le_trans (lcRun_len hr) (lc2Run_len h)
              · cases h
            · cases h
          · cases h
        · cases h
      · split at h
        · exact lc2Run_len h
        · cases h
      · cases h
section
variable {C : Ctx} {X : Cx} {W : WX} {pos : Pos} {K : PySem.W.Frag} {tg tg1 : Expr}
/-- a turn's step of the iterator -/
theorem LcS.yld {w : Walked} {ρ0 : Env} {σ0 : L2.St} {D : Addr} {acc : List PyData} {I1 I0 : Hp} {β1 β0 : Nat → Addr} {μ1 : Sto} {H1 : Hp} {I' : Hp} {β' : Nat → Addr} {μ' : Sto} {H' H2 : Hp} {n i : Nat} {J : It} {x : PyData} {v : V}
    (S : LcS C K w ρ0 σ0 D acc I1 β1 μ1 H1 I' β' μ' H') (r1 : WalkOk K I0 β0 n w J) (si : Sub I0 I') (bt : ∀ l, w.2 = some l → β' l = β0 l) (hx : w.1[i]? = some x) (hy : J.yld i H' v H2) :
    ∃ I2, Sub I' I2 ∧ SR K I2 β' μ' H2 ∧ ER C K I2 β' ρ0 μ' σ0 ∧ (∃ vs, H2 D = some (.lst vs) ∧ RpAll K I2 vs acc) ∧ Own I2 β' μ'.length D ∧ Ext μ1.length I1 β1 μ1 H1 I2 β' μ' H2 ∧ Rp K I2 v x := by
  obtain ⟨vs, hv, tv⟩ := S.ac
  rcases r1.yld I' β' H' i v H2 x si bt (okG_wh S.s S.ok) hx hy with ⟨rfl, rp⟩ | ⟨p, o, hp, rfl, rp⟩
  · exact ⟨I', Sub.refl _, S.s, S.e, ⟨vs, hv, tv⟩, S.own, S.x, rp⟩
  · obtain ⟨s', x'⟩ := S.s.lay (o := o) hp
    have hpD : D ≠ p := ne_of_none hv hp
    exact ⟨_, x'.imm, s', S.e.ext x', ⟨vs, by rw [upd_ne hpD]; exact hv, (Sub.new (S.s.imm.fresh hp)).rpAll tv⟩, ⟨by rw [upd_ne hpD]; exact S.own.i, S.own.b⟩, S.x.trans (Nat.le_refl _) (x'.lower S.x.len (Nat.le_refl _)), rp⟩
theorem drop_cons {α : Type} {l : List α} {i : Nat} {x : α} (hx : l[i]? = some x) : l.drop i = x :: l.drop (i + 1) := by
  have hlt : i < l.length := (List.getElem?_eq_some_iff.mp hx).1
  rw [List.drop_eq_getElem_cons hlt]
  congr 1
  rw [List.getElem?_eq_getElem hlt] at hx
  exact Option.some.inj hx
theorem lc2_imp {own : List (Str × Nat)} {vs1 : List Nat} {g g1 : TG} {fw fw1 : Cd Walked} {bd bd1 : D → Env → Option Env} {c c1 : Cd Bool} {f : Cd Val} (hb : Bd X.K (own.map (·.2)) g bd) (hb1 : Bd X.K vs1 g1 bd1) {σ : L2.St} {H : Hp} {Q : VK} (h : tE C X.K W (cLc2 fw bd (own.map (·.2)) c fw1 bd1 vs1 c1 f) σ H Q) :
    tLc2 (tI C X.K W fw) g (tT C X.K WF c) (tI C X.K WF fw1) g1 (tT C X.K WF c1) (tE C X.K WF f) (own.map (·.2)) vs1 σ H Q := by
  obtain ⟨I, β, ρ, μ, s, e, h⟩ := h
  refine ⟨I, β, ρ, μ, s, e, Res.bind h fun w μ1 I1 β1 H1 J q x1 s1 r1 h1 => ?_⟩
  intro D hD
  split at h1
  · rename_i hok
    split at h1
    · rename_i out μ2 hrun
      split at h1
      · rename_i hlim
        have hl0 : out.length < sizeLine := by
          have := of_decide_eq_true hlim
          have z : 100000 < sizeLine := by decide
          omega
        refine ⟨fun i m H' => m = w.1.length - i ∧ i ≤ w.1.length ∧ ∃ I' β' μ' acc, LcS C X.K w (wipeE ρ (own.map (·.2))) (L2.wipe σ (own.map (·.2))) D acc I1 β1 μ1 H1 I' β' μ' H' ∧ lc2Run w (wipeE ρ (own.map (·.2))) bd c fw1 bd1 vs1 c1 f (w.1.drop i) acc μ' = .ok out μ2, ⟨_, rfl, Nat.zero_le _, I1, β1, μ1, [], ?_, by simpa using hrun⟩, ?_⟩
        · have ow := s1.not_cell hD
          exact ⟨s1.other ow, (e.ext x1).wipe _, ⟨[], upd_same, .nil⟩, ow, okB_ok hok, Ext.put (Nat.le_refl _) hD⟩
        · rintro i m H' ⟨rfl, him, I', β', μ', acc, S, hr⟩
          have hwb : ∀ l, w.2 = some l → β' l = β1 l := fun l z => S.x.bet l (r1.lt l z)
          have hwh := okG_wh S.s S.ok
          by_cases hlt : i < w.1.length
          · refine .inr ⟨r1.go I' β' H' i S.x.imm hwb hwh hlt, fun H2 => ∃ m', m' < w.1.length - i ∧ (m' = w.1.length - (i + 1) ∧ i + 1 ≤ w.1.length ∧ ∃ I' β' μ' acc, LcS C X.K w (wipeE ρ (own.map (·.2))) (L2.wipe σ (own.map (·.2))) D acc I1 β1 μ1 H1 I' β' μ' H2 ∧ lc2Run w (wipeE ρ (own.map (·.2))) bd c fw1 bd1 vs1 c1 f (w.1.drop (i + 1)) acc μ' = .ok out μ2), fun _ z => z, ?_⟩
            intro v H2 hy
            obtain ⟨x, hx⟩ : ∃ x, w.1[i]? = some x := ⟨_, List.getElem?_eq_getElem hlt⟩
            rw [drop_cons hx] at hr
            unfold lc2Run at hr
            obtain ⟨I2, si2, s2, e2, ⟨vs, hv, tv⟩, ow2, xx, rp⟩ := S.yld r1 S.x.imm hwb hx hy
            cases hbd : bd x (wipeE ρ (own.map (·.2))) with
            | none => rw [hbd] at hr; cases hr
            | some ρ1 =>
              simp only [hbd] at hr
              refine hb C I2 β' _ ρ1 μ' _ v x H2 _ s2.imm e2 rp hbd fun σ2 e3 hw => ⟨hw.trans wipe_wipe, ?_⟩
              refine ⟨I2, β', ρ1, μ', s2, e3, ?_⟩
              cases hcc : c ρ1 μ' with
              | exc cn pl μ3 => rw [hcc] at hr; cases hr
              | stuck => rw [hcc] at hr; cases hr
              | ok b μ3 =>
                simp only [hcc] at hr
                intro I3 β3 H3 b' x3 s3 rb
                cases rb
                have hv3 : H3 D = some (.lst vs) := x3.fram D _ hv ow2.b
                have ow3 := ow2.ext hv x3
                have xx3 := xx.trans (Nat.le_refl _) (x3.lower xx.len (Nat.le_refl _))
                cases b with
                | false =>
                  refine iteF ?_
                  simp only at hr
                  split at hr
                  · rename_i hok3
                    exact ⟨_, by omega, rfl, by omega, I3, β3, μ3, acc, ⟨s3, e2.ext x3, ⟨vs, hv3, x3.imm.rpAll tv⟩, ow3, (okB_ok hok3), xx3⟩, hr⟩
                  · cases hr
                | true =>
                  refine iteT ?_
                  simp only at hr
                  refine ⟨I3, β3, ρ1, μ3, s3, e3.ext x3, ?_⟩
                  cases hff : fw1 ρ1 μ3 with
                  | exc cn pl μ4 => rw [hff] at hr; cases hr
                  | stuck => rw [hff] at hr; cases hr
                  | ok w1 μ4 =>
                    simp only [hff] at hr
                    split at hr
                    · rename_i hok4
                      split at hr
                      · rename_i acc' μ5 hrun1
                        split at hr
                        · rename_i hok5
                          intro I4 β4 H4 J1 x4 s4 rw1
                          have hv4 : H4 D = some (.lst vs) := x4.fram D _ hv3 ow3.b
                          have ow4 := ow3.ext hv3 x4
                          have xx4 := xx3.trans (Nat.le_refl _) (x4.lower xx3.len (Nat.le_refl _))
                          have hacc := lc2Run_len hr
                          refine ⟨fun j k H' => k = w1.1.length - j ∧ j ≤ w1.1.length ∧ ∃ I' β' μ' acc, LcS C X.K w1 (wipeE ρ1 vs1) (L2.wipe σ2 vs1) D acc I1 β1 μ1 H1 I' β' μ' H' ∧ Sub I4 I' ∧ (∀ l, l < μ4.length → β' l = β4 l) ∧ μ4.length ≤ μ'.length ∧ ER C X.K I' β' (wipeE ρ (own.map (·.2))) μ' (L2.wipe σ (own.map (·.2))) ∧ lcRun w1 (wipeE ρ1 vs1) bd1 c1 f (w1.1.drop j) acc μ' = .ok acc' μ5,
                            ⟨_, rfl, Nat.zero_le _, I4, β4, μ4, acc, ⟨s4, ((e3.ext x3).ext x4).wipe _, ⟨vs, hv4, x4.imm.rpAll (x3.imm.rpAll tv)⟩, ow4, okB_ok hok4, xx4⟩, Sub.refl _, fun _ _ => rfl, Nat.le_refl _, (e2.ext x3).ext x4, by simpa using hrun1⟩, ?_⟩
                          rintro j k H5 ⟨rfl, hjm, I5, β5, μ6, acc2, S5, si5, bt5, ln5, eo5, hr5⟩
                          have hwb1 : ∀ l, w1.2 = some l → β5 l = β4 l := fun l z => bt5 l (rw1.lt l z)
                          have hwh1 := okG_wh S5.s S5.ok
                          by_cases hlt1 : j < w1.1.length
                          · refine .inr ⟨rw1.go I5 β5 H5 j si5 hwb1 hwh1 hlt1, fun H2 => ∃ k', k' < w1.1.length - j ∧ (k' = w1.1.length - (j + 1) ∧ j + 1 ≤ w1.1.length ∧ ∃ I' β' μ' acc, LcS C X.K w1 (wipeE ρ1 vs1) (L2.wipe σ2 vs1) D acc I1 β1 μ1 H1 I' β' μ' H2 ∧ Sub I4 I' ∧ (∀ l, l < μ4.length → β' l = β4 l) ∧ μ4.length ≤ μ'.length ∧ ER C X.K I' β' (wipeE ρ (own.map (·.2))) μ' (L2.wipe σ (own.map (·.2))) ∧ lcRun w1 (wipeE ρ1 vs1) bd1 c1 f (w1.1.drop (j + 1)) acc μ' = .ok acc' μ5), fun _ z => z, ?_⟩
                            intro v1 H6 hy1
                            obtain ⟨y, hyy⟩ : ∃ y, w1.1[j]? = some y := ⟨_, List.getElem?_eq_getElem hlt1⟩
                            rw [drop_cons hyy] at hr5
                            unfold lcRun at hr5
                            obtain ⟨I6, si6, s6, e6, ⟨vs6, hv6, tv6⟩, ow6, xx6, rp6⟩ := S5.yld rw1 si5 hwb1 hyy hy1
                            have eo6 : ER C X.K I6 β5 (wipeE ρ (own.map (·.2))) μ6 (L2.wipe σ (own.map (·.2))) := eo5.mono si6 (fun _ _ => rfl) (Nat.le_refl _)
                            cases hbd1 : bd1 y (wipeE ρ1 vs1) with
                            | none => rw [hbd1] at hr5; cases hr5
                            | some ρ7 =>
                              simp only [hbd1] at hr5
                              refine hb1 C I6 β5 _ ρ7 μ6 _ v1 y H6 _ s6.imm e6 rp6 hbd1 fun σ7 e7 hw7 => ⟨hw7.trans wipe_wipe, ?_⟩
                              refine ⟨I6, β5, ρ7, μ6, s6, e7, ?_⟩
                              cases hc1 : c1 ρ7 μ6 with
                              | exc cn pl μ8 => rw [hc1] at hr5; cases hr5
                              | stuck => rw [hc1] at hr5; cases hr5
                              | ok b8 μ8 =>
                                simp only [hc1] at hr5
                                intro I8 β8 H8 b8' x8 s8 rb8
                                cases rb8
                                have hv8 : H8 D = some (.lst vs6) := x8.fram D _ hv6 ow6.b
                                have ow8 := ow6.ext hv6 x8
                                have xx8 := xx6.trans (Nat.le_refl _) (x8.lower xx6.len (Nat.le_refl _))
                                have si8 : Sub I4 I8 := (si5.trans si6).trans x8.imm
                                have bt8 : ∀ l, l < μ4.length → β8 l = β4 l := fun l z => (x8.bet l (Nat.lt_of_lt_of_le z ln5)).trans (bt5 l z)
                                have ln8 : μ4.length ≤ μ8.length := Nat.le_trans ln5 x8.len
                                cases b8 with
                                | false =>
                                  refine iteF ?_
                                  simp only at hr5
                                  split at hr5
                                  · rename_i hok8
                                    exact ⟨_, by omega, rfl, by omega, I8, β8, μ8, acc2, ⟨s8, e6.ext x8, ⟨vs6, hv8, x8.imm.rpAll tv6⟩, ow8, (okB_ok hok8), xx8⟩, si8, bt8, ln8, eo6.ext x8, hr5⟩
                                  · cases hr5
                                | true =>
                                  refine iteT ?_
                                  simp only at hr5
                                  refine ⟨I8, β8, ρ7, μ8, s8, e7.ext x8, ?_⟩
                                  cases hf9 : f ρ7 μ8 with
                                  | exc cn pl μ9 => rw [hf9] at hr5; cases hr5
                                  | stuck => rw [hf9] at hr5; cases hr5
                                  | ok a μ9 =>
                                    rw [hf9] at hr5
                                    cases a with
                                    | loc l => cases hr5
                                    | exn => cases hr5
                                    | d z =>
                                      simp only at hr5
                                      split at hr5
                                      · rename_i hok9
                                        intro I9 β9 H9 u x9 s9 ru
                                        have hv9 : H9 D = some (.lst vs6) := x9.fram D _ hv8 ow8.b
                                        have ow9 := ow8.ext hv8 x9
                                        have hl := lcRun_len hr5
                                        rw [List.length_append] at hl
                                        have hvl := tv6.length
                                        refine ⟨vs6, hv9, ?_, ?_⟩
                                        · simp at hl
                                          omega
                                        · exact ⟨_, by omega, rfl, by omega, I9, β9, μ9, acc2 ++ [z], ⟨s9.other ow9, (e6.ext x8).ext x9, ⟨vs6 ++ [u], upd_same, ((x9.imm.rpAll (x8.imm.rpAll tv6)).app (.cons ru .nil))⟩, ow9, okB_ok hok9, Ext.own (xx8.trans (Nat.le_refl _) (x9.lower xx8.len (Nat.le_refl _))) hD⟩, si8.trans x9.imm, fun l z => (x9.bet l (Nat.lt_of_lt_of_le z ln8)).trans (bt8 l z), Nat.le_trans ln8 x9.len, (eo6.ext x8).ext x9, hr5⟩
                                      · cases hr5
                          · have hje : j = w1.1.length := Nat.le_antisymm hjm (Nat.le_of_not_lt hlt1)
                            subst hje
                            refine .inl ⟨rw1.stop I5 β5 H5 si5 hwb1 hwh1, ?_⟩
                            rw [List.drop_length] at hr5
                            unfold lcRun at hr5
                            injection hr5 with hr1 hr2
                            subst hr1; subst hr2
                            exact ⟨_, by omega, rfl, by omega, I5, β5, μ6, acc2, ⟨S5.s, eo5, S5.ac, S5.own, okB_ok hok5, S5.x⟩, hr⟩
                        · cases hr
                      · cases hr
                    · cases hr
          · have hie : i = w.1.length := Nat.le_antisymm him (Nat.le_of_not_lt hlt)
            subst hie
            refine .inl ⟨r1.stop I' β' H' S.x.imm hwb hwh, ?_⟩
            rw [List.drop_length] at hr
            unfold lc2Run at hr
            injection hr with hr1 hr2
            subst hr1; subst hr2
            obtain ⟨vs, hv, tv⟩ := S.ac
            exact h1 _ _ H' (.ref D) (S.x.frz hD S.own.i) (S.s.freeze S.own hv) (Rp.list (SqL.of upd_same) ((Sub.new S.own.i).rpAll tv))
      · exact h1.elim
    · exact h1.elim
  · exact h1.elim
theorem se_lc2 {elt iter iter1 : Expr} {ifs ifs1 : List Expr} {scope : Scope} {own : List (Str × Nat)} {vs1 : List Nat} {g g1 : TG} {fw fw1 : Cd Walked} {bd bd1 : D → Env → Option Env} {c c1 : Cd Bool} {f : Cd Val} (hc : X.calm = true) (hN : X.N.Nodup) (hi : SI C X W tg fw iter) (ok : BlkOk X.N X.env.scope scope own) (hv : ∀ i ∈ vs1, i ∈ own.map (·.2))
    (hg : ∀ (s : Shared) (H : Hp) (B : Addr) (cl : List (Str × Addr)) (fp : List Addr), PG (X.blk s H scope (compEnvC scope cl B X.env) fp) tg g) (hb : Bd X.K (own.map (·.2)) g bd)
    (ht : ∀ (s : Shared) (H : Hp) (B : Addr) (cl : List (Str × Addr)) (fp : List Addr), STs C (X.blk s H scope (compEnvC scope cl B X.env) fp) WF c ifs)
    (hi1 : ∀ (s : Shared) (H : Hp) (B : Addr) (cl : List (Str × Addr)) (fp : List Addr), SI C (X.blk s H scope (compEnvC scope cl B X.env) fp) WF tg1 fw1 iter1)
    (hg1 : ∀ (s : Shared) (H : Hp) (B : Addr) (cl : List (Str × Addr)) (fp : List Addr), PG (X.blk s H scope (compEnvC scope cl B X.env) fp) tg1 g1) (hb1 : Bd X.K vs1 g1 bd1)
    (ht1 : ∀ (s : Shared) (H : Hp) (B : Addr) (cl : List (Str × Addr)) (fp : List Addr), STs C (X.blk s H scope (compEnvC scope cl B X.env) fp) WF c1 ifs1)
    (he : ∀ (s : Shared) (H : Hp) (B : Addr) (cl : List (Str × Addr)) (fp : List Addr), SE C (X.blk s H scope (compEnvC scope cl B X.env) fp) WF f elt) (hs : ∀ x, foldedSetIterable iter X.env x = pure x := by intro _; rfl) (hs1 : ∀ env x, foldedSetIterable iter1 env x = pure x := by intro _ _; rfl) :
    SE C X W (cLc2 fw bd (own.map (·.2)) c fw1 bd1 vs1 c1 f) (.ListComp elt [⟨tg, iter, ifs, 0⟩, ⟨tg1, iter1, ifs1, 0⟩] scope pos) :=
  PE_imp (pe_lc2 (tt := tT C X.K WF c) (wi1 := tI C X.K WF fw1) (tt1 := tT C X.K WF c1) (te := tE C X.K WF f) hc hN hi ok hv hg ht hi1 hg1 ht1 he hs hs1) fun _ _ _ h => lc2_imp hb hb1 h
theorem ss_setLc2 {i : Nat} {y : Str} {py spos : Pos} {elt iter iter1 : Expr} {ifs ifs1 : List Expr} {scope : Scope} {own : List (Str × Nat)} {vs1 : List Nat} {g g1 : TG} {fw fw1 : Cd Walked} {bd bd1 : D → Env → Option Env} {c c1 : Cd Bool} {f : Cd Val} (hc : X.calm = true) (hN : X.N.Nodup) (hy : X.N[i]? = some y) (hyl : X.env.scope.names.lookup y = some .local)
    (hsw : swapsWith (.ListComp elt [⟨tg, iter, ifs, 0⟩, ⟨tg1, iter1, ifs1, 0⟩] scope pos) (some (.Name y py)) spos.line X.env = pure true) (hi : SI C X W tg fw iter) (ok : BlkOk X.N X.env.scope scope own) (hv : ∀ i ∈ vs1, i ∈ own.map (·.2))
    (hg : ∀ (s : Shared) (H : Hp) (B : Addr) (cl : List (Str × Addr)) (fp : List Addr), PG (X.blk s H scope (compEnvC scope cl B X.env) fp) tg g) (hb : Bd X.K (own.map (·.2)) g bd)
    (ht : ∀ (s : Shared) (H : Hp) (B : Addr) (cl : List (Str × Addr)) (fp : List Addr), STs C (X.blk s H scope (compEnvC scope cl B X.env) fp) WF c ifs)
    (hi1 : ∀ (s : Shared) (H : Hp) (B : Addr) (cl : List (Str × Addr)) (fp : List Addr), SI C (X.blk s H scope (compEnvC scope cl B X.env) fp) WF tg1 fw1 iter1)
    (hg1 : ∀ (s : Shared) (H : Hp) (B : Addr) (cl : List (Str × Addr)) (fp : List Addr), PG (X.blk s H scope (compEnvC scope cl B X.env) fp) tg1 g1) (hb1 : Bd X.K vs1 g1 bd1)
    (ht1 : ∀ (s : Shared) (H : Hp) (B : Addr) (cl : List (Str × Addr)) (fp : List Addr), STs C (X.blk s H scope (compEnvC scope cl B X.env) fp) WF c1 ifs1)
    (he : ∀ (s : Shared) (H : Hp) (B : Addr) (cl : List (Str × Addr)) (fp : List Addr), SE C (X.blk s H scope (compEnvC scope cl B X.env) fp) WF f elt) (hs : ∀ x, foldedSetIterable iter X.env x = pure x := by intro _; rfl) (hs1 : ∀ env x, foldedSetIterable iter1 env x = pure x := by intro _ _; rfl) :
    SS C X W (sSet i (cLc2 fw bd (own.map (·.2)) c fw1 bd1 vs1 c1 f)) (.Assign [.Name y py] (.ListComp elt [⟨tg, iter, ifs, 0⟩, ⟨tg1, iter1, ifs1, 0⟩] scope pos) spos) :=
  PS_imp (ps_setLc2 (tt := tT C X.K WF c) (wi1 := tI C X.K WF fw1) (tt1 := tT C X.K WF c1) (te := tE C X.K WF f) hc hN hy hyl hsw hi ok hv hg ht hi1 hg1 ht1 he hs hs1) fun D σ H h => by
  obtain ⟨n0, I, β, ρ, μ, hn, s, e, h⟩ := h
  refine lc2_imp hb hb1 ⟨I, β, ρ, μ, s, e, OutOk.bind hn e h fun v μ1 I1 β1 H1 w q x1 s1 n1 r1 h1 => OutOk.here n1 s1 ((e.ext x1).set r1) h1⟩
end
end FW


set_option Elab.async false
set_option linter.all false
set_option maxRecDepth 100000
set_option maxHeartbeats 4000000
namespace FW
open PySem PySem.Spec PyProof.Rows L2
/-! ### >= of tuples of ints -/
def geT (ns ms : List Int) : Bool := Ob.lexAt (fun j => decide (ns.getD j 0 = ms.getD j 0)) (fun j => decide (ms.getD j 0 ≤ ns.getD j 0)) (decide (ns.length ≥ ms.length)) 0 (min ns.length ms.length)
def rGeT (K : PySem.W.Frag) : R2 := fun x y H Q => ∃ (a b : Addr) (ns ms : List Int), x = .ref a ∧ y = .ref b ∧ SqT K H a (ns.map V.int) ∧ SqT K H b (ms.map V.int) ∧ Q (.bl (geT ns ms)) H
theorem op_geT {X : Cx} (hu : X.A.units < cLine) : OpR X (compareOp .GtE) (rGeT X.K) := by
  intro pins s σ H x y v u Q I rx ry h
  obtain ⟨a, b, ns, ms, rfl, rfl, ha, hb, q⟩ := h
  cases rx
  cases ry
  obtain ⟨its, r1, p1, _⟩ := I.tuple ha
  obtain ⟨its2, r2, p2, _⟩ := I.tuple hb
  have i1 : IntsAre its ns := Vals.ints r1
  have i2 : IntsAre its2 ms := Vals.ints r2
  have e1 : its.toArray.size = ns.length := by rw [List.size_toArray]; exact i1.length
  have e2 : its2.toArray.size = ms.length := by rw [List.size_toArray]; exact i2.length
  have at1 : ∀ j (h1 : j < its.toArray.size), ∃ t, its.toArray[j] = .int (ns.getD j 0) t := fun j h1 => PyProof.Rows.IntsAre.int_at i1 _ _ (by simp at h1; simp [h1])
  have at2 : ∀ j (h1 : j < its2.toArray.size), ∃ t, its2.toArray[j] = .int (ms.getD j 0) t := fun j h1 => PyProof.Rows.IntsAre.int_at i2 _ _ (by simp at h1; simp [h1])
  have R := Ob.RcOp.tuples_ge (A := X.A) (s := s) (e := fun j => decide (ns.getD j 0 = ms.getD j 0)) (r := fun j => decide (ms.getD j 0 ≤ ns.getD j 0)) p1 p2 hu (fun j h1 h2 => by
    obtain ⟨t, et⟩ := at1 j h1
    obtain ⟨t', et'⟩ := at2 j h2
    rw [et, et']
    have z : (ns.getD j 0 == ms.getD j 0) = decide (ns.getD j 0 = ms.getD j 0) := by
      by_cases q : ns.getD j 0 = ms.getD j 0
      · rw [decide_eq_true q]; exact beq_iff_eq.mpr q
      · rw [decide_eq_false q]; exact beq_eq_false_iff_ne.mpr q
    rw [← z]
    exact SeqAt.EqAt.int_int _ _ _ _) (fun j h1 h2 _ => by
    obtain ⟨t, et⟩ := at1 j h1
    obtain ⟨t', et'⟩ := at2 j h2
    rw [et, et']
    exact Ob.RcOp.ge_int _ _ _ _)
  rw [e1, e2] at R
  have z : wpAny (model X.prog X.w) X.A (compareOp .GtE (.ref a) (.ref b)) (EP X pins σ Q) X.xe s := R X.prog X.w X.xe (EP X pins σ Q) ⟨.bl _, H, I, rfl, q⟩
  exact z
def dGeA : D → D → Option D
  | .int i, .int j => some (.bool (decide (j ≤ i)))
  | .tuple xs, .tuple ys => match ints? xs, ints? ys with
    | some a, some b => some (.bool (geT a b))
    | _, _ => none
  | _, _ => none
section
variable {X : Cx} {K : PySem.W.Frag}
theorem ser_geA : Ser K (fun x y H Q => rI0 (fun i j => .bl (decide (j ≤ i))) x y H Q ∨ rGeT K x y H Q) dGeA := by
  intro I H v u x y z Q s hx hy hz d
  unfold dGeA at hz
  split at hz
  · cases hz
    exact .inl ⟨_, _, hx.of_int, hy.of_int, d.1 _ Rp.bool⟩
  · split at hz
    · rename_i a b h1 h2
      cases hz
      obtain ⟨p, vs, rfl, t1, r1⟩ := hx.of_tup
      obtain ⟨q, us, rfl, t2, r2⟩ := hy.of_tup
      rw [ints_rp r1 h1] at t1
      rw [ints_rp r2 h2] at t2
      exact .inr ⟨_, _, a, b, rfl, rfl, s.seqT t1, s.seqT t2, d.1 _ Rp.bool⟩
    · cases hz
  · cases hz
theorem op_geA (hu : X.A.units < cLine) : OpR X (compareOp .GtE) (fun x y H Q => rI0 (fun i j => .bl (decide (j ≤ i))) x y H Q ∨ rGeT X.K x y H Q) := OpR.or op_ge (op_geT hu)
/-! shifts, bits -/
def dShl : D → D → Option D
  | .int i, .int j => if decide (0 ≤ j ∧ j ≤ 1000 ∧ -1000 ≤ i ∧ i ≤ 1000) = true then some (.int (i * 2 ^ j.toNat)) else none
  | _, _ => none
theorem ser_shl : Ser K (rI CPow fun i j => .int (i * 2 ^ j.toNat)) dShl := by
  intro I H v u x y z Q s hx hy hz d
  unfold dShl at hz
  split at hz
  · split at hz
    · rename_i hl
      cases hz
      have hl := of_decide_eq_true hl
      exact ⟨_, _, hx.of_int, hy.of_int, by unfold CPow; omega, d.1 _ Rp.int⟩
    · cases hz
  · cases hz
def dShr : D → D → Option D
  | .int i, .int j => if decide (0 ≤ j) = true then some (.int (i / 2 ^ j.toNat)) else none
  | _, _ => none
theorem ser_shr : Ser K (rI (fun _ j => 0 ≤ j) fun i j => .int (i / 2 ^ j.toNat)) dShr := by
  intro I H v u x y z Q s hx hy hz d
  unfold dShr at hz
  split at hz
  · split at hz
    · rename_i hl
      cases hz
      exact ⟨_, _, hx.of_int, hy.of_int, of_decide_eq_true hl, d.1 _ Rp.int⟩
    · cases hz
  · cases hz
end
end FW


set_option Elab.async false
set_option linter.all false
set_option maxRecDepth 100000
set_option maxHeartbeats 4000000
namespace PySem.FX
open PySem PySem.Spec PySem.W PySem.Calls PyProof.Rows PySem.HandSPX
section
variable {prog : Program} {w : World} {A : Around} {E : Value → Shared → Prop} {s : Shared} {K : Frag} {x D : Addr} {ox : Obj} {od : Option Obj}
theorem findObj_data2 {C : Addr} {name : Str} {a g : Value} (hc : (clsIn K C).isSome = true) (ha : findIn K (.ref C) name = some (some a)) (hg : specialIn K a "__get__" = some (some g)) (ht : takesIn K a = some true) : findObj K C od name = some (.bind g a) := by
  obtain ⟨cd, hc⟩ := Option.isSome_iff_exists.mp hc
  unfold findObj
  rw [hc, Option.bind_some, ha, Option.bind_some]
  simp [hg, ht]
/-- e.__class__ where e has fields -/
theorem class_of {Q : Option Value → Shared → Prop} (T : L2.ExcC K D)
    (X : K.In s.heap) (I : InstAt s.heap x ox D od) (h : Q (some (.ref D)) { s with toks := s.toks + 1 }) : wpAny (model prog w) A (getAttr? (.ref x) "__class__") Q E s := by
  obtain ⟨hga, hgt, hsub, hdct, ha, hn, htk, hm⟩ := T
  have hf : findObj K D od "__class__" = some (.bind (.builtin "getset_descriptor.__get__") (.builtin "object.__class__")) := findObj_data2 (by obtain ⟨cd, hc, _⟩ := any_some hdct; rw [hc]; rfl) ha hn htk
  obtain ⟨hp, g, d, t, os⟩ := s
  have L0 := I.type (M := model prog w)
  have L1 := looks_findIn (M := model prog w) X hga
  have L2 := looks_findIn (M := model prog w) X hgt
  have L3 := looks_find (M := model prog w) X I hf
  have sub : Looks (model prog w) hp (isInstance (.ref x) (.type "BaseException")) true := L0.andThen (looks_subIn X hsub)
  have hx0 : (false && onTheHeap (Value.builtin "BaseException.__getattribute__")) = false := rfl
  have hx2 : (Value.builtin "BaseException.__getattribute__" == Value.builtin "object.__getattribute__") = false := by decide +kernel
  have hx1 : (onTheHeap (Value.ref D) && Value.builtin "BaseException.__getattribute__" == Value.builtin "object.__getattribute__") = false := by rw [hx2]; rfl
  unfold getAttr? getAttrBy? getAttrBy
  refine wpAny_bind (wpAny_mkText (wpAny_bind (wpAny_attempt (wpAny_holding (wpAny_bind (L0.at (wpAny_bind (L1.at ?_))))))))
  show wpAny _ _ (if (onTheHeap (Value.ref D) && Value.builtin "BaseException.__getattribute__" == Value.builtin "object.__getattribute__") = true then _ else _) _ _ _
  rw [hx1, if_neg Bool.false_ne_true]
  unfold getAttrByItsOwn hookBefore
  refine wpAny_bind ?_
  rw [if_pos (show onTheHeap (Value.ref D) = true from rfl)]
  refine L2.at ?_
  refine wpAny_bind (wpAny_attempt (wpAny_holding ?_))
  unfold callGetattribute
  rw [hx0, if_neg Bool.false_ne_true]
  unfold boundAndCalled
  rw [PySem.F.excAttr_ValueError.ga.bind (.ref x)]
  refine wpAny_bind (wpAny_pure ?_)
  show wpAny _ _ (call (.builtin "BaseException.__getattribute__") [.ref x, .str "__class__" t]) _ _ _
  refine wpAny_call (codeAny_call_builtin PySem.F.excAttr_ValueError.ga.plain PySem.F.entry_bexc_ga ?_)
  refine @check_slot (model prog w) _ _ ⟨hp, g, d, t + 1, os⟩ "BaseException.__getattribute__" "BaseException" "__getattribute__" (.ref x) [.str "__class__" t] [] _ (by decide +kernel) (by decide +kernel) sub (PySem.F.args_bexc_ga (.ref x) (.str "__class__" t)) ?_
  unfold Builtin.«object.__getattribute__»
  refine wpAny_bind (wpAny_of_eq (a := ((Value.ref x : Value), [Value.str "__class__" t])) (by first | rfl | (simp only [slotArgs]; rfl)) ?_)
  refine wpAny_bind (wpAny_pure (wpAny_bind (L0.at (wpAny_bind (L3.at ?_)))))
  show wpAny _ _ (holding [Value.builtin "object.__class__"] (call (.builtin "getset_descriptor.__get__") [.builtin "object.__class__", .ref x, .ref D]) >>= ret) _ _ _
  refine wpAny_bind (wpAny_holding (wpAny_call (class_get (s := ⟨hp, g, d, t + 1, os⟩) (ox := ox) (od := od) X I hm ?_)))
  refine wpAny_pure ?_
  show wpAny _ _ (handedOut (.ref D)) _ _ _
  rw [handedOut_of (v := .ref D) rfl]
  first
    | exact wpAny_pure (wpAny_pure h)
    | exact wpAny_pure h
    | exact wpAny_pure (wpAny_bind (wpAny_pure (wpAny_pure h)))
theorem kitx2 (T : L2.ExcC K D) : KitX K (.ref x) (.ref D) (fun h => ∃ od, InstAt h x ox D od) where
  ty := fun _ _ _ ⟨_, I⟩ => I.type
  it := fun _ _ X _ => by
    obtain ⟨cdD, hcD, _⟩ := any_some T.hd
    unfold clsIn at hcD
    split at hcD
    · rename_i c' d' cd' sl' ho
      intro A' Q' E' s' k q
      unfold isType loadHead
      exact wpAny_bind (wpAny_loadPart (k _ _ (X _ _ ho)) (wpAny_pure q))
    · cases hcD
  ne := fun h tp dd its n sl X htp => by
    obtain ⟨cdD, hcD, _⟩ := any_some T.hd
    refine Bool.eq_false_iff.mpr fun q => ?_
    have e : D = tp := Value.ref.inj (beq_iff_eq.mp q)
    subst e
    unfold clsIn at hcD
    split at hcD
    · rename_i c' d' cd' sl' ho
      have z := (X _ _ ho).symm.trans htp
      cases z
    · cases hcD
  ca := fun X ⟨_, I⟩ k => class_of T X I k
end
end PySem.FX
namespace FW
open PySem PySem.Spec PyProof.Rows L2
theorem call_isE2 {X : Cx} {a D dd : Addr} {oe : Obj} {pn : List (Addr × Obj)} (T : L2.ExcC X.K D) (hz : Zc (.ref D) (some dd) oe) (hf : ∃ vs, oe.data = .fields vs) :
    CallR (X.suite a ((a, oe) :: pn)) (.builtin "isinstance") (fun xs H Q => (∃ fs, H dd = some (.xd fs)) ∧ rIsE X.K D a xs H Q) := by
  intro pins s σ H xs us Q I r h
  obtain ⟨⟨fs, hdd⟩, c, cv, b, rfl, hcv, e, q⟩ := h
  cases r with
  | cons rx rr =>
    cases rr with
    | cons rt rr =>
      cases rr
      cases rx
      have ec := hcv _ rt
      subst ec
      obtain ⟨hget, _⟩ := I.pin (a, oe) (List.mem_append.mpr (.inl List.mem_cons_self))
      obtain ⟨vs, hv⟩ := hf
      obtain ⟨m, hn1, _⟩ := I.hok dd _ hdd
      obtain ⟨od, es, ep, hod, hdat⟩ := hn1
      have J : PySem.W.InstAt s.heap a oe D (some od) := by
        obtain ⟨oc, odd, oda, osl⟩ := oe
        obtain ⟨h1, h2⟩ := hz
        dsimp only at h1 h2 hv
        subst h1 h2 hv
        exact ⟨hget, rfl, rfl, hod⟩
      exact PySem.W.kia_one (PySem.FX.kitx2 T) I.kIn ⟨_, J⟩ e (fun z => nomatch z) fun tk => ⟨.bl b, H, I.kept (t' := tk) fun _ _ z => z, rfl, q⟩
/-- isinstance(e, T) of the caught one -/
def cIsE (i : Nat) (b : Bool) : Cd Val := fun ρ μ => match ρ[i]? with
  | some (some .exn) => .ok (.d (.bool b)) μ
  | _ => .stuck
section
variable {C : Ctx} {X : Cx} {W : WX}
theorem se_isE {i : Nat} {n x y : Str} {b : Bool} {T : String} {a A dd : Addr} {oe : Obj} {cn : Str} {pl : PyData} {pn : List (Addr × Obj)} {np p p' pos : Pos} (hN : X.N[i]? = some n) (hv : Vis X.env.scope n) (hT : L2.ExcC X.K A) (z : Zc (.ref A) (some dd) oe) (hf : ∃ vs, oe.data = .fields vs)
    (hg : Gl X x) (hm : X.mg x = none) (hx : x = "isinstance") (hg' : Gl X y) (hm' : X.mg y = none) (hv' : bootBuiltins y = some (.type T)) (hk : PySem.W.kitOne X.K (.ref A) (.type T) = some b) (hn' : y ≠ "__name__" := by decide) (hd' : (y == ("__debug__" : Str)) = false := by decide)
    (hd : (n == ("__debug__" : Str)) = false := by decide) (hcd : (n == ("__classdict__" : Str)) = false := by decide)
    (hst : starEach [.Name n np, .Name y p'] (X.suite a ((a, oe) :: pn)).env = (false, eval (.Name n np) (X.suite a ((a, oe) :: pn)).env) :: starEach [.Name y p'] (X.suite a ((a, oe) :: pn)).env := by rfl) (hst2 : starEach [.Name y p'] (X.suite a ((a, oe) :: pn)).env = (false, eval (.Name y p') (X.suite a ((a, oe) :: pn)).env) :: starEach [] (X.suite a ((a, oe) :: pn)).env := by rfl) (hpl : (backTo pos (starEach [.Name y p'] (X.suite a ((a, oe) :: pn)).env)).any (·.1) = false := by rfl) :
    SE (C.of a dd cn pl) (X.suite a ((a, oe) :: pn)) WF (cIsE i b) (.Call (.Name x p) [.Name n np, .Name y p'] [] pos) := by
  subst hx
  refine PE_imp (pe_callB (call_isE2 hT z hf) hg hm (by decide +kernel) (pa_cons (pe_var (X := X.suite a ((a, oe) :: pn)) hN hv hd hcd) (pa_cons (pe_bltn (v := .ty T) hg' hm' hv' rfl hn' hd') pa_nil hst2) hst) (by decide) (by decide) hst hpl) fun σ H Q h => ?_
  obtain ⟨I, β, ρ, μ, s, e, h⟩ := h
  unfold cIsE at h
  split at h
  · rename_i hi
    obtain ⟨w, h1, rfl⟩ := e.get i .exn hi
    obtain ⟨v, h3, h4⟩ := e.ex dd cn pl rfl
    exact ⟨_, h1, ⟨_, s.imm _ _ h3⟩, .ty T, .type T, b, rfl, fun u hu => hu, hk, Res.here s h Rp.bool⟩
  · exact h.elim
end
end FW


set_option Elab.async false
set_option linter.all false
set_option maxRecDepth 100000
set_option maxHeartbeats 4000000
/-! # What a generated text leans on -/
namespace FW
open PySem PySem.Spec PyProof.Rows L2
section
variable {P : Program} {w : World} {K : PySem.W.Frag} {mg : Str → Option Value} {base : Heap} {N : List Str} {qual : Str} {scope : Scope} {f : Addr} {cd : Value} {A : Around} {outer : List PySem.Env} {s : Shared} {H : Hp} {E : XK}
theorem owns0 : PassesOwn (model P w) (cxOf (L2.CX P w) P w K mg base N qual scope f cd A outer s H E).A (cxOf (L2.CX P w) P w K mg base N qual scope f cd A outer s H E).env (cxOf (L2.CX P w) P w K mg base N qual scope f cd A outer s H E).xe :=
  passes_of (X := cxOf (L2.CX P w) P w K mg base N qual scope f cd A outer s H E) (K := fun e s'' => L2.CX P w outer H s E e s'') (E₁ := fun e' s'' => L2.CX P w outer H s E e' s'') rfl
theorem takes1 : Takes (cxOf (L2.CX P w) P w K mg base N qual scope f cd A outer s H E) (fun cls d _ H => E cls d H) := takes_of rfl rfl rfl rfl
end
theorem takesF {X : Cx} : Takes X WF := fun _ _ x => by
  obtain ⟨_, _, _, _, _, _, _, _, _, _, _, _, _, _, _, _, z⟩ := x
  exact z.elim
/-- a def that may be called -/
def Cal (C : Ctx) (P : Program) (w : World) (K : PySem.W.Frag) (mg : Str → Option Value) (base : Heap) (k : Nat) (x : Str) (n : Nat) (Φ : Fn) : Prop :=
  ∃ (f : Addr) (fd : FuncData) (ps : List Str), FnOk P w K mg base (L2.CX P w) k f fd ps (spF C K n Φ) ∧ mg x = some (.ref f) ∧ PySem.W.keepIn K (.ref f) = true ∧ Binds K fd ps []
section
variable {C C0 : Ctx} {X : Cx} {W : WX} {n k k' : Nat} {Φ : Fn} {x : Str} {p pos : Pos} {e : Expr} {es : List Expr} {g : Cd (List Val)}
theorem se_cal (c : Cal C0 X.prog X.w X.K X.mg X.base k x n Φ) (hr : Room k' X.A) (ha : SA C X W g (e :: es)) (tk : Takes X W) (hk : k ≤ k' := by decide) (hg : Gl X x := by rfl) (hca : C.ca = C0.ca := by rfl) 
    (hdb : (x == ("__debug__" : Str)) = false := by decide) (he : starEach (e :: es) X.env = (false, eval e X.env) :: starEach es X.env := by rfl) (hpl : (backTo pos (starEach es X.env)).any (·.1) = false := by rfl) :
    SE C X W (cCall n Φ g) (.Call (.Name x p) (e :: es) [] pos) := by
  obtain ⟨f, fd, ps, F, hm, hkp, hb⟩ := c
  exact se_call F (hr.mono hk) hg hm hkp hb hca tk ha hdb he hpl
end
/-- an own error's facts -/
def ErrF (C : Ctx) (P : Program) (K : PySem.W.Frag) (mg : Str → Option Value) (x : Str) : Prop := ∃ A, C.ca x = some A ∧ mg x = some (.ref A) ∧ PySem.FX.MadeF P K mg A x
def CatF (C : Ctx) (K : PySem.W.Frag) (mg : Str → Option Value) (x : Str) : Prop := ∃ Ac, mg x = some (.ref Ac) ∧ ∀ cn A, C.ca cn = some A → PySem.W.exmOne K (.ref A) (.ref Ac) = some (subX cn x)
/-- a caught one's facts -/
structure XF (K : PySem.W.Frag) (A : Addr) (cn : Str) : Prop where
  xc : XfC K A
  noP : PySem.W.findIn K (.ref A) "place" = some none
  noN : PySem.W.findIn K (.ref A) "name" = some none
  lay : PyData.canLay0 (.str cn) = true
structure Txt (C : Ctx) (P : Program) (K : PySem.W.Frag) (mg : Str → Option Value) : Prop where
  ed : C.ed = none
  xf : ∀ cn A, C.ca cn = some A → XF K A cn
section
variable {C : Ctx} {X : Cx} {W : WX} {x : Str} {p p2' pos : Pos} {a : Expr} {f : Cd Val} {k : Nat}
theorem ss_rs (T : ErrF C X.prog X.K X.mg x) (hr : Room k X.A) (hc : X.calm = true) (tk : Takes X W) (ha : SE C X W f a) (hg : Gl X x := by rfl) (hnd : (x == ("__debug__" : Str)) = false := by decide)
    (he : starEach (a :: []) X.env = (false, eval a X.env) :: starEach [] X.env := by rfl) (hpl : (backTo p2' (starEach [] X.env)).any (·.1) = false := by rfl) :
    SS C X W (sRaise x f) (.Raise (some (.Call (.Name x p) [a] [] p2')) none pos) := by
  obtain ⟨A, h1, h2, M⟩ := T
  exact ss_raise hc tk h1 ha (fun hpa => pmk_own M h2 hr hpa hg hnd he hpl) he
theorem sh_cons {h : Str → D → Sc} {b₀ : Stmt} {suite : List Stmt} {np pos' : Pos} {hds : List ExceptHandler} {l : List Hd} (T : CatF C X.K X.mg x) (hsu : SSu C X h (b₀ :: suite)) (r : SHds C X l hds) (hg : Gl X x := by rfl) (hnd : (x == ("__debug__" : Str)) = false := by decide) :
    SHds C X ((x, none, h) :: l) (.ExceptHandler (some (.Name x np)) none (b₀ :: suite) pos' :: hds) := by
  obtain ⟨Ac, h1, h2⟩ := T
  exact .cons ⟨hg, hnd, .inl h1⟩ h2 hsu r
theorem sh_as {n : Str} {i : Nat} {h : Str → D → Sc} {b₀ : Stmt} {suite : List Stmt} {np pos' : Pos} {hds : List ExceptHandler} {l : List Hd} (T : CatF C X.K X.mg x) (hsu : SSu C X h (b₀ :: suite)) (r : SHds C X l hds) (hi : X.N[i]? = some n := by rfl) (hln : X.env.kindOf n = some .local := by rfl) (hg : Gl X x := by rfl) (hnd : (x == ("__debug__" : Str)) = false := by decide) :
    SHds C X ((x, some i, h) :: l) (.ExceptHandler (some (.Name x np)) (some n) (b₀ :: suite) pos' :: hds) := by
  obtain ⟨Ac, h1, h2⟩ := T
  exact .as hi hln ⟨hg, hnd, .inl h1⟩ h2 hsu r
variable {n : Str} {i : Nat} {A dd aa : Addr} {oe : Obj} {cn : Str} {pl : PyData} {pn : List (Addr × Obj)} {np : Pos}
theorem se_place (T : XF X.K A cn) (z : Zc (.ref A) (some dd) oe) (hf : ∃ vs, oe.data = .fields vs) (hN : X.N[i]? = some n := by rfl) (hv : Vis X.env.scope n := by first | exact Or.inl rfl | exact Or.inr (Or.inl rfl) | exact Or.inr (Or.inr rfl))
    (hd : (n == ("__debug__" : Str)) = false := by decide) (hcd : (n == ("__classdict__" : Str)) = false := by decide)
    (hb : attributeBase (.Name n np) "place" X.env (eval (.Name n np) X.env) = eval (.Name n np) X.env := by rfl) :
    SE (C.of aa dd cn pl) (X.suite aa ((aa, oe) :: pn)) WF (cXf i pl) (.Attribute (.Name n np) "place" pos) :=
  se_xf hN hv T.xc T.noP z hf (fun I v r => ⟨v, by simp [List.lookup], r⟩) hd hcd hb
theorem se_name (T : XF X.K A cn) (z : Zc (.ref A) (some dd) oe) (hf : ∃ vs, oe.data = .fields vs) (hN : X.N[i]? = some n := by rfl) (hv : Vis X.env.scope n := by first | exact Or.inl rfl | exact Or.inr (Or.inl rfl) | exact Or.inr (Or.inr rfl))
    (hd : (n == ("__debug__" : Str)) = false := by decide) (hcd : (n == ("__classdict__" : Str)) = false := by decide)
    (hb : attributeBase (.Name n np) "name" X.env (eval (.Name n np) X.env) = eval (.Name n np) X.env := by rfl) :
    SE (C.of aa dd cn pl) (X.suite aa ((aa, oe) :: pn)) WF (cXf i (.str cn)) (.Attribute (.Name n np) "name" pos) :=
  se_xf hN hv T.xc T.noN z hf (fun I v r => ⟨.str cn, by rw [List.lookup_cons, show (("name" : Str) == "place") = false by decide]; simp [List.lookup], .str cn, T.lay⟩) hd hcd hb
end
end FW


set_option Elab.async false
set_option linter.all false
set_option maxRecDepth 100000
set_option maxHeartbeats 4000000
namespace FW
open PySem PySem.Spec PyProof.Rows L2
theorem u0 {k : Nat} {A : Around} (r : Room k A) : A.units < cLine := by have := r.un; omega
theorem u64 {k : Nat} {A : Around} (r : Room k A) : A.units + 64 < cLine := by have := r.un; omega
theorem u65 {k : Nat} {A : Around} (r : Room k A) : A.units + 65 < cLine := by have := r.un; omega
/-- a comprehension's block, looked at -/
def blkB (N : List Str) (sc scope : Scope) (own : List (Str × Nat)) : Bool :=
  (match scope.kind with | .function => true | _ => false) && (scope.names.all fun y => decide (scope.names.lookup y.1 = some y.2)) && (own.all fun p => decide (N[p.2]? = some p.1)) &&
  (scope.names.all fun y => !decide (y.2 = .free) || decide (sc.names.lookup y.1 = some .cell) || decide (sc.names.lookup y.1 = some .free)) &&
  (scope.names.all fun y => !(decide (y.2 = .local) || decide (y.2 = .cell)) || (own.map (·.1)).contains y.1 || !N.contains y.1)
theorem blk_of {N : List Str} {sc scope : Scope} {own : List (Str × Nat)} (h : blkB N sc scope own = true) : BlkOk N sc scope own := by
  unfold blkB at h
  simp only [Bool.and_eq_true, List.all_eq_true] at h
  obtain ⟨⟨⟨⟨h1, h2⟩, h3⟩, h4⟩, h5⟩ := h
  refine ⟨?_, fun y hy => of_decide_eq_true (h2 y hy), fun p hp => of_decide_eq_true (h3 p hp), fun y hy hf => ?_, fun y hy hl => ?_⟩
  · revert h1
    cases scope.kind <;> simp
  · have := h4 y hy
    simp only [hf, Bool.or_eq_true, decide_eq_true_eq] at this
    rcases this with (z | z) | z
    · simp at z
    · exact .inl z
    · exact .inr z
  · have := h5 y hy
    simp only [Bool.or_eq_true, decide_eq_true_eq, Bool.not_eq_true', Bool.or_eq_false_iff, List.contains_iff_mem] at this
    rcases this with (z | z) | z
    · rcases hl with q | q
      · simp [q] at z
      · simp [q] at z
    · exact .inl z
    · refine .inr fun m => ?_
      have : N.contains y.1 = true := List.contains_iff_mem.mpr m
      rw [z] at this
      cases this
/-- a def as the top has written it -/
def FnW (K : PySem.W.Frag) (mg : Str → Option Value) (x : Str) (st : Stmt) : Prop := ∃ (f : Addr) (fd : FuncData), mg x = some (.ref f) ∧ L2.Fun K x x st f fd ∧ PySem.W.keepIn K (.ref f) = true
theorem fnw_mk {K : PySem.W.Frag} {mg : Str → Option Value} {h : Heap} {x : Str} {st : Stmt} {f : Addr} {oc : Value} {od an : Option Addr} {osl : Array (Option Value)} {kV doc pm cdv ct : Value} (X : K.In h) (G : h.Ns mainGlobals mg)
    (a : PySem.W.nsIn K mainGlobals x = some (some (.ref f))) (l : K.lookup f = some ⟨oc, od, .func (PySem.W.fnOf x x (defArgs st) (defBody st) (defScope st) .none kV doc pm an cdv ct), osl⟩) (c : PySem.W.codeIn K cdv x = true) (k : PySem.W.keepIn K (.ref f) = true) : FnW K mg x st :=
  ⟨f, _, PySem.W.mg_of X G a, fun_mk l c k, k⟩
/-- what binding says -/
def BindW (x : Str) (st : Stmt) (ps : List Str) : Prop := ∀ (kV doc pm : Value) (an : Option Addr) (cdv ct : Value) (us : List Value), us.length = ps.length → bindArgs (PySem.W.fnOf x x (defArgs st) (defBody st) (defScope st) .none kV doc pm an cdv ct) ⟨us, []⟩ = pure (ps.zip us)
section
variable {C : Ctx} {P : Program} {w : World} {K : PySem.W.Frag} {mg : Str → Option Value} {base : Heap} {x : Str} {st : Stmt} {N ps : List Str} {k n sl : Nat} {b : Sc} {fn : Nat → Val → Sto → R Val}
theorem cal_mk (T : Txt C P K mg) (F : FnW K mg x st) (S : FnScope N ps (defScope st)) (hb : BindW x st ps) (hfn : FinOk fn) (hk : N.length = sl) (hn : ps.length = n)
    (hbody : ∀ (f : Addr) (cdv : Value) (A : Around) (outer : List PySem.Env) (s : Shared) (H : Hp) (E : XK), Room k (A.deeper (envOfC x (defScope st) s.heap.objs.size f cdv)) → SSs C (cxOf (L2.CX P w) P w K mg base N x (defScope st) f cdv A outer s H E) (fun cls d _ H => E cls d H) b (defBody st)) :
    Cal C P w K mg base (k + 1) x n (runFn fn sl b) := by
  obtain ⟨f, fd, hm, F, hkp⟩ := F
  subst hn
  exact ⟨f, fd, ps, fn_ok F S T.ed hfn hk (hbody f), hm, hkp, F.binds hb⟩
theorem cal_none (F : FnW K mg x st) (hb : BindW x st ps) (hn : ps.length = n) : Cal C P w K mg base k x n (fun _ _ => .stuck) := by
  obtain ⟨f, fd, hm, F, hkp⟩ := F
  subst hn
  exact ⟨f, fd, ps, fn_none, hm, hkp, F.binds hb⟩
/-- what the law's def promises -/
def spLaw (n : Nat) (K : PySem.W.Frag) : Sp := fun ws H Q _ => ∃ (a : Addr) (ns : List Int), ws = [.ref a] ∧ SqL K H a (ns.map V.int) ∧ ns.length ≤ n ∧ ∀ H', Q (.bl true) H'
theorem ints_rpAll {I : Hp} : ∀ ns : List Int, RpAll K I (ns.map V.int) (ns.map PyData.int)
  | [] => .nil
  | _ :: r => .cons Rp.int (ints_rpAll r)
theorem law_sp {Φ : Fn} {m : Nat} (h : ∀ ns : List Int, ns.length ≤ m → Φ [.d (.list (ns.map PyData.int))] [] = .ok (.d (.bool true)) []) (vs : List V) (H : Hp) (Q : VK) (E : XK) (q : spLaw m K vs H Q E) : spF C K 1 Φ vs H Q E := by
  obtain ⟨a, ns, rfl, hS, hl, k⟩ := q
  refine ⟨H, fun _ => 0, [.d (.list (ns.map PyData.int))], [], ⟨Sub.refl _, fun l hl => absurd hl (Nat.not_lt_zero _), fun l m hl => absurd hl (Nat.not_lt_zero _), fun l c hc => by simp at hc⟩, .cons (Rp.list hS (ints_rpAll ns)) .nil, rfl, ?_⟩
  rw [h ns hl]
  intro I' β' H' t _ _ r
  have e : t = .bl true := Rp.of_bool r
  subst e
  exact k H'
end
end FW


set_option Elab.async false
set_option linter.all false
set_option maxRecDepth 100000
set_option maxHeartbeats 4000000
namespace PySem.FX
open PySem PySem.Spec PySem.W PySem.Calls PyProof.Rows PySem.HandSPX FW
variable {prog : Program} {K : Frag} {mg : Str → Option Value} {h : Heap}
/-- what is common to all the error classes -/
structure ClsF (K : Frag) (mg : Str → Option Value) (cn : Str) (C CB fB fI : Addr) : Prop where
  g : mg cn = some (.ref C)
  exc : ExcF K C CB fB
  xc : L2.XfC K C
  iC : findIn K (.ref C) "__init__" = some (some (.ref fI))
  tI : typeIn K (.ref fI) = some (.type "function")
  kC : keepIn K (.ref C) = true
  tyC : typeIn K (.ref C) = some (.type "type")
  cls : ∃ cd, clsIn K C = some cd
theorem cls_mk {cn : Str} {C CB fB fI : Addr} {nm q : Str} {N : Addr} {bs bm : List Value} {sn : List Str} {sub : List Value} {ab : Bool} {col : Option Bool} {dd : Option Addr} {k0 k1 k2 k3 k5 : Option Value} (X : K.In h) (G : h.Ns mainGlobals mg)
    (a : nsIn K mainGlobals cn = some (some (.ref C))) (x : K.lookup C = some (excClassObj nm q C N bs bm true sn sub ab col dd k0 k1 k2 k3 k5 "ValueError.__new__")) (hm : refsVE bm = true)
    (sa : findIn K (.ref C) "__setattr__" = some (some (.builtin "object.__setattr__"))) (noP : findIn K (.ref C) "place" = some none) (noN : findIn K (.ref C) "name" = some none) (mB : mroIn K C (.ref CB) = some true)
    (spB : ks_superIn K C CB "__init__" = some (some (.builtin vei))) (sVE : subIn K (.ref C) (.type "ValueError") = some true) (ga : findIn K (.ref C) "__getattribute__" = some (some (.builtin "BaseException.__getattribute__"))) (gg : findIn K (.ref C) "__getattr__" = some none)
    (exC : subIn K (.ref C) (.type "BaseException") = some true) (hd : hasDictIn K C = true) (iC : findIn K (.ref C) "__init__" = some (some (.ref fI))) (tI : typeIn K (.ref fI) = some (.type "function")) (kC : keepIn K (.ref C) = true) (tyC : typeIn K (.ref C) = some (.type "type")) : ClsF K mg cn C CB fB fI :=
  ⟨mg_of X G a, ⟨⟨nm, q, N, bs, bm, sn, sub, ab, col, dd, k0, k1, k2, k3, k5, x, hm⟩, sa, noP, noN, mB, spB, sVE⟩, ⟨ga, gg, exC, hd⟩, iC, tI, kC, tyC, ⟨_, by unfold clsIn; rw [x] <;> rfl⟩⟩
theorem init_mk {f D : Addr} {qual : Str} {body : List Stmt} {oc : Value} {od : Option Addr} {kV doc pm : Value} {an : Option Addr} {ct : Value} {osl : Array (Option Value)} {cda cc : Addr} {p1 p2 : Pos} {ccl : Value} {cdd : Option Addr} {vs : Array Value} {ccs : Array (Option Value)} {file : Str} {tf : Tok} {cl : Value} {cld : Option Addr} {csl : Array (Option Value)}
    (l : K.lookup f = some ⟨oc, od, .func (ksFn "__init__" qual (iA p1 p2) body iS .none kV doc pm an (.ref cda) ct cc), osl⟩) (c : codeIn K (.ref cda) qual = true) (lc : K.lookup cda = some ⟨ccl, cdd, .fields vs, ccs⟩) (v2 : vs[2]? = some (.str file tf)) (fl : ((prog.main.file : Str) == file) = true) (cl' : K.lookup cc = some ⟨cl, cld, .cell (some (.ref D)), csl⟩) (k : ∃ cd, clsIn K D = some cd) :
    InitF prog K f D qual body := ⟨⟨oc, od, kV, doc, pm, an, ct, osl, cda, cc, p1, p2, ccl, cdd, vs, ccs, file, tf, cl, cld, csl, l, c, lc, v2, fl, cl'⟩, k⟩
/-- the root, as the top has written it -/
def RootW (prog : Program) (K : Frag) (mg : Str → Option Value) (cn : Str) : Prop := ∃ (C f : Addr), ClsF K mg cn C C f f ∧ fnIn K f = true ∧
  ∃ (qual : Str) (p0 pp p3 p4 p5 p6 q1 q2 q3 q4 r1 r2 r3 r4 : Pos) (k : Nat), SupOk p0 pp p3 p4 p5 ∧ InitF prog K f C qual [supS p0 pp p3 p4 p5 p6, plS q1 q2 q3 q4, nmS cn k r1 r2 r3 r4]
def HeirW (prog : Program) (K : Frag) (mg : Str → Option Value) (cn cnB : Str) : Prop := ∃ (C fI CB fB : Addr), ClsF K mg cn C CB fB fI ∧ mg cnB = some (.ref CB) ∧ mroIn K C (.ref C) = some true ∧ ks_superIn K C C "__init__" = some (some (.ref fB)) ∧ findIn K (.ref CB) "__init__" = some (some (.ref fB)) ∧
  ∃ (qual : Str) (p0 pp p3 p4 p5 p6 r1 r2 r3 r4 : Pos) (k : Nat), SupOk p0 pp p3 p4 p5 ∧ InitF prog K fI C qual [supS p0 pp p3 p4 p5 p6, nmS cn k r1 r2 r3 r4]
theorem rootw_mk {cn : Str} {C f : Addr} {qual : Str} {p0 pp p3 p4 p5 p6 q1 q2 q3 q4 r1 r2 r3 r4 : Pos} {k : Nat} (c : ClsF K mg cn C C f f) (fn : fnIn K f = true) (so : SupOk p0 pp p3 p4 p5) (i : (∃ cd, clsIn K C = some cd) → InitF prog K f C qual [supS p0 pp p3 p4 p5 p6, plS q1 q2 q3 q4, nmS cn k r1 r2 r3 r4]) : RootW prog K mg cn :=
  ⟨C, f, c, fn, qual, p0, pp, p3, p4, p5, p6, q1, q2, q3, q4, r1, r2, r3, r4, k, so, i c.cls⟩
theorem heirw_mk {cn cnB : Str} {C fI CB fB : Addr} {qual : Str} {p0 pp p3 p4 p5 p6 r1 r2 r3 r4 : Pos} {k : Nat} (X : K.In h) (G : h.Ns mainGlobals mg) (aB : nsIn K mainGlobals cnB = some (some (.ref CB))) (iB : findIn K (.ref CB) "__init__" = some (some (.ref fB))) (c : ClsF K mg cn C CB fB fI)
    (mC : mroIn K C (.ref C) = some true) (sp : ks_superIn K C C "__init__" = some (some (.ref fB))) (so : SupOk p0 pp p3 p4 p5) (i : (∃ cd, clsIn K C = some cd) → InitF prog K fI C qual [supS p0 pp p3 p4 p5 p6, nmS cn k r1 r2 r3 r4]) : HeirW prog K mg cn cnB :=
  ⟨C, fI, CB, fB, c, mg_of X G aB, mC, sp, iB, qual, p0, pp, p3, p4, p5, p6, r1, r2, r3, r4, k, so, i c.cls⟩
/-- which class is below which -/
def PairW (K : Frag) (mg : Str → Option Value) (a b : Str) (v : Bool) : Prop := ∃ (A B : Addr), mg a = some (.ref A) ∧ mg b = some (.ref B) ∧ subIn K (.ref A) (.ref B) = some v
theorem pairw_mk {a b : Str} {v : Bool} {A B : Addr} (X : K.In h) (G : h.Ns mainGlobals mg) (ha : nsIn K mainGlobals a = some (some (.ref A))) (hb : nsIn K mainGlobals b = some (some (.ref B))) (s : subIn K (.ref A) (.ref B) = some v) : PairW K mg a b v := ⟨A, B, mg_of X G ha, mg_of X G hb, s⟩
def IsEW (K : Frag) (mg : Str → Option Value) (a : Str) : Prop := ∃ A : Addr, mg a = some (.ref A) ∧ L2.ExcC K A ∧ kitOne K (.ref A) (.type "ValueError") = some true
theorem isew_mk {a : Str} {A : Addr} (X : K.In h) (G : h.Ns mainGlobals mg) (ha : nsIn K mainGlobals a = some (some (.ref A))) (h1 : findIn K (.ref A) "__getattribute__" = some (some (.builtin "BaseException.__getattribute__"))) (h2 : findIn K (.ref A) "__getattr__" = some none) (h3 : subIn K (.ref A) (.type "BaseException") = some true) (h4 : hasDictIn K A = true)
    (h5 : findIn K (.ref A) "__class__" = some (some (.builtin "object.__class__"))) (h6 : specialIn K (.builtin "object.__class__") "__get__" = some (some (.builtin "getset_descriptor.__get__"))) (h7 : takesIn K (.builtin "object.__class__") = some true) (h8 : mroIn K A (.type "object") = some true) (h9 : kitOne K (.ref A) (.type "ValueError") = some true) : IsEW K mg a :=
  ⟨A, mg_of X G ha, ⟨h1, h2, h3, h4, h5, h6, h7, h8⟩, h9⟩
theorem wd_mk (X : K.In h) (G : h.Ns mainGlobals mg) (s : nsIn K mainGlobals "super" = some none) (t : (prog.main.scope.names.lookup ("super" : Str)).isSome = false) (a : nsIn K cStatics "thirdparty.any" = some none) : Wd prog K mg := ⟨mg_none_of X G s, t, a⟩
theorem mgn_mk {x : Str} (X : K.In h) (G : h.Ns mainGlobals mg) (s : nsIn K mainGlobals x = some none) : mg x = none := mg_none_of X G s
/-! ### joined -/
theorem RootW.made {cn : Str} (W' : Wd prog K mg) (R : RootW prog K mg cn) : ∃ C, mg cn = some (.ref C) ∧ MadeF prog K mg C cn ∧ L2.XfC K C ∧ findIn K (.ref C) "place" = some none ∧ findIn K (.ref C) "name" = some none ∧ typeIn K (.ref C) = some (.type "type") := by
  obtain ⟨C, f, c, fn, qual, p0, pp, p3, p4, p5, p6, q1, q2, q3, q4, r1, r2, r3, r4, k, so, i⟩ := R
  exact ⟨C, c.g, .root W' ⟨c.exc, c.iC, c.tI, c.kC, c.xc.exC, c.tyC, qual, p0, pp, p3, p4, p5, p6, q1, q2, q3, q4, r1, r2, r3, r4, k, so, i⟩, c.xc, c.exc.noP, c.exc.noN, c.tyC⟩
theorem HeirW.made {cn cnB : Str} (W' : Wd prog K mg) (R : RootW prog K mg cnB) (T : HeirW prog K mg cn cnB) : ∃ C, mg cn = some (.ref C) ∧ MadeF prog K mg C cn ∧ L2.XfC K C ∧ findIn K (.ref C) "place" = some none ∧ findIn K (.ref C) "name" = some none ∧ typeIn K (.ref C) = some (.type "type") := by
  obtain ⟨C0, f0, c0, fn0, base⟩ := R
  obtain ⟨C, fI, CB, fB, c, hB, mC, sp, iB, qual, p0, pp, p3, p4, p5, p6, r1, r2, r3, r4, k, so, i⟩ := T
  have e1 := hB.symm.trans c0.g
  cases e1
  have e2 := iB.symm.trans c0.iC
  cases e2
  exact ⟨C, c.g, .heir W' ⟨c.exc, c.iC, c.tI, c0.tI, fn0, mC, sp, c.kC, c.xc.exC, c.tyC, ⟨qual, p0, pp, p3, p4, p5, p6, r1, r2, r3, r4, k, so, i⟩, base⟩, c.xc, c.exc.noP, c.exc.noN, c.tyC⟩
end PySem.FX
namespace FW
open PySem PySem.Spec PyProof.Rows L2 PySem.FX
variable {prog : Program} {K : PySem.W.Frag} {mg : Str → Option Value} {h : Heap}
/-- a class that is raised or caught -/
def ClsW (prog : Program) (K : PySem.W.Frag) (mg : Str → Option Value) (cn : Str) : Prop := ∃ C, mg cn = some (.ref C) ∧ MadeF prog K mg C cn ∧ L2.XfC K C ∧ PySem.W.findIn K (.ref C) "place" = some none ∧ PySem.W.findIn K (.ref C) "name" = some none ∧ PySem.W.typeIn K (.ref C) = some (.type "type")
def caOf (mg : Str → Option Value) (names : List Str) : Str → Option Addr := fun cn => if names.contains cn = true then (match mg cn with | some (.ref a) => some a | _ => none) else none
def ctxOf (mg : Str → Option Value) (names : List Str) : FW.Ctx := ⟨caOf mg names, 0, none⟩
theorem ca_is {names : List Str} {cn : Str} {A : Addr} (e : caOf mg names cn = some A) : cn ∈ names ∧ mg cn = some (.ref A) := by
  unfold caOf at e
  split at e
  · rename_i hc
    refine ⟨List.contains_iff_mem.mp hc, ?_⟩
    split at e
    · rename_i a h1
      cases e
      exact h1
    · cases e
  · cases e
theorem ca_of {names : List Str} {cn : Str} {A : Addr} (hm : cn ∈ names) (e : mg cn = some (.ref A)) : caOf mg names cn = some A := by
  unfold caOf
  rw [if_pos (List.contains_iff_mem.mpr hm), e]
theorem txt_mk {names : List Str} (hc : ∀ cn ∈ names, ClsW prog K mg cn) (hl : ∀ cn ∈ names, PyData.canLay0 (.str cn) = true) : Txt (ctxOf mg names) prog K mg := by
  refine ⟨rfl, fun cn A e => ?_⟩
  obtain ⟨hm, e⟩ := ca_is e
  obtain ⟨C, h1, _, h3, h4, h5, _⟩ := hc cn hm
  cases e.symm.trans h1
  exact ⟨h3, h4, h5, hl cn hm⟩
theorem err_mk {names : List Str} {cn : Str} (c : ClsW prog K mg cn) (hm : cn ∈ names) : ErrF (ctxOf mg names) prog K mg cn := by
  obtain ⟨C, h1, h2, _⟩ := c
  exact ⟨C, ca_of hm h1, h1, h2⟩
theorem cat_mk {names : List Str} {x : Str} (c : ClsW prog K mg x) (hp : ∀ cn ∈ names, PairW K mg cn x (subX cn x)) : CatF (ctxOf mg names) K mg x := by
  obtain ⟨C, h1, h2, h3, h4, h5, h6⟩ := c
  refine ⟨C, h1, fun cn A e => ?_⟩
  obtain ⟨hm, e⟩ := ca_is e
  obtain ⟨A', B', g1, g2, g3⟩ := hp cn hm
  cases e.symm.trans g1
  cases h1.symm.trans g2
  exact PySem.W.exm_ref h3.exC h3.hdC h6 g3
theorem pair_is {a b : Str} {v : Bool} (p : PairW K mg a b v) (e : subX a b = v) : PairW K mg a b (subX a b) := by rw [e]; exact p
theorem ise_mk {names : List Str} (hp : ∀ cn ∈ names, IsEW K mg cn) (cn : Str) (A : Addr) (e : (ctxOf mg names).ca cn = some A) : L2.ExcC K A ∧ PySem.W.kitOne K (.ref A) (.type "ValueError") = some true := by
  obtain ⟨hm, e⟩ := ca_is e
  obtain ⟨A', g1, g2⟩ := hp cn hm
  cases e.symm.trans g1
  exact g2
/-- the law's def -/
theorem law_fin {C : FW.Ctx} {w : World} {x : Str} {st : Stmt} {N : List Str} {k n sl : Nat} {b : Sc} {fa : Addr} {v : Str} (T : Txt C prog K mg) (F : FnW K mg x st) (hmg : mg x = some (.ref fa)) (S : FnScope N [v] (defScope st)) (hb : BindW x st [v]) (hk : N.length = sl)
    (hbody : ∀ (base : Heap) (f : Addr) (cdv : Value) (A : Around) (outer : List PySem.Env) (s : Shared) (H : Hp) (E : XK), Room k (A.deeper (envOfC x (defScope st) s.heap.objs.size f cdv)) → SSs C (cxOf (L2.CX prog w) prog w K mg base N x (defScope st) f cdv A outer s H E) (fun cls d _ H => E cls d H) b (defBody st))
    (hlaw : ∀ ns : List Int, ns.length ≤ n → runFn fin sl b [.d (.list (ns.map PyData.int))] [] = .ok (.d (.bool true)) []) :
    ∃ fd : FuncData, (∀ (s : Shared) (u : Value), BindsTo s fd ⟨[u], []⟩ [(v, u)]) ∧ ∀ base : Heap, K.In base → base.Ns mainGlobals mg → FnOk prog w K mg base (L2.CX prog w) (k + 1) fa fd [v] (spLaw n K) := by
  obtain ⟨f, fd, hm, F, hkp⟩ := F
  cases hmg.symm.trans hm
  refine ⟨fd, fun s u => ?_, fun base _ _ => (fn_ok F S T.ed fin_ok hk (hbody base fa)).imp (law_sp hlaw)⟩
  have q := hb
  obtain ⟨oc, od, kV, doc, pm, an, cdv, ct, osl, rfl, lk, hcd⟩ := F.ex
  exact .of_eq (q kV doc pm an cdv ct [u] rfl)
end FW


set_option Elab.async false
set_option linter.all false
set_option maxRecDepth 100000
/-! # What a run of pure code gives -/
namespace FW
open PySem PySem.Spec
variable {α β : Type}
def okP (r : R α) (Q : α → Sto → Prop) : Prop := match r with
  | .ok a μ => Q a μ
  | _ => False
theorem okP_ok {a : α} {μ : Sto} {Q : α → Sto → Prop} : okP (.ok a μ) Q = Q a μ := rfl
theorem okP_bind {r : R α} {f : α → Sto → R β} {Q : β → Sto → Prop} : okP (r.bind f) Q = okP r (fun a μ => okP (f a μ) Q) := by cases r <;> rfl
theorem okP_mono {r : R α} {Q Q' : α → Sto → Prop} (h : okP r Q) (k : ∀ a μ, Q a μ → Q' a μ) : okP r Q' := by
  cases r with
  | ok a μ => exact k a μ h
  | exc _ _ _ => exact h.elim
  | stuck => exact h.elim
theorem okP_of {r : R α} {a : α} {μ : Sto} {Q : α → Sto → Prop} (e : r = .ok a μ) (h : Q a μ) : okP r Q := by rw [e]; exact h
theorem okP_is {r : R α} {a : α} {μ : Sto} (h : okP r fun b ν => b = a ∧ ν = μ) : r = .ok a μ := by
  cases r with
  | ok b ν => obtain ⟨rfl, rfl⟩ := h; rfl
  | exc _ _ _ => exact h.elim
  | stuck => exact h.elim
def okO (o : O) (Q : Env → Sto → Prop) (T : Val → Sto → Prop) : Prop := match o with
  | .next ρ μ => Q ρ μ
  | .ret v μ => T v μ
  | _ => False
theorem okO_next {ρ : Env} {μ : Sto} {Q : Env → Sto → Prop} {T : Val → Sto → Prop} : okO (.next ρ μ) Q T = Q ρ μ := rfl
theorem okO_ret {v : Val} {μ : Sto} {Q : Env → Sto → Prop} {T : Val → Sto → Prop} : okO (.ret v μ) Q T = T v μ := rfl
theorem okO_lift {r : R α} {ρ : Env} {f : α → Sto → O} {Q : Env → Sto → Prop} {T : Val → Sto → Prop} : okO (lift r ρ f) Q T = okP r (fun a μ => okO (f a μ) Q T) := by cases r <;> rfl
theorem okO_seq {f g : Sc} {n0 : Nat} {ρ : Env} {μ : Sto} {Q : Env → Sto → Prop} {T : Val → Sto → Prop} : okO (sSeq f g n0 ρ μ) Q T = okO (f n0 ρ μ) (fun ρ' μ' => okO (g n0 ρ' μ') Q T) T := by
  unfold sSeq
  cases f n0 ρ μ <;> rfl
theorem okO_of {o : O} {ρ : Env} {μ : Sto} {Q : Env → Sto → Prop} {T : Val → Sto → Prop} (e : o = .next ρ μ) (h : Q ρ μ) : okO o Q T := by rw [e]; exact h
theorem okO_set {i : Nat} {f : Cd Val} {n0 : Nat} {ρ : Env} {μ : Sto} {Q : Env → Sto → Prop} {T : Val → Sto → Prop} : okO (sSet i f n0 ρ μ) Q T = okP (f ρ μ) (fun v μ' => Q (ρ.set i (some v)) μ') := by
  unfold sSet
  rw [okO_lift]
  rfl
/-- the law's whole -/
theorem law_of {slots : Nat} {c : Sc} {v : Val} (h : okO (c 0 (some v :: List.replicate (slots - 1) none) []) (fun _ _ => False) (fun v _ => v = .d (.bool true))) : runFn fin slots c [v] [] = .ok (.d (.bool true)) [] := by
  unfold runFn
  simp only [List.map_cons, List.map_nil, List.length_cons, List.length_nil, List.cons_append, List.nil_append]
  cases e : c 0 (some v :: List.replicate (slots - 1) none) [] with
  | next ρ μ => rw [e] at h; exact h.elim
  | ret u μ =>
    rw [e] at h
    have h : u = .d (.bool true) := h
    subst h
    simp [ending, fin]
  | brk ρ μ => rw [e] at h; exact h.elim
  | cont ρ μ => rw [e] at h; exact h.elim
  | exc cn pl ρ μ => rw [e] at h; exact h.elim
  | stuck => rw [e] at h; exact h.elim
theorem okP_call {n : Nat} {F : Fn} {g : Cd (List Val)} {ρ : Env} {μ : Sto} {Q : Val → Sto → Prop} (h : okP (g ρ μ) fun vs μ1 => vs.length = n ∧ vs.all notExn = true ∧ okP (F vs μ1) fun v μ2 => notExn v = true ∧ Q v μ2) : okP (cCall n F g ρ μ) Q := by
  unfold cCall
  rw [okP_bind]
  refine okP_mono h fun vs μ1 ⟨h1, h2, h3⟩ => ?_
  rw [if_pos ⟨h1, h2⟩]
  cases e : F vs μ1 with
  | ok v μ2 =>
    rw [e] at h3
    have h3 : notExn v = true ∧ Q v μ2 := h3
    simp only [h3.1, if_true]
    exact h3.2
  | exc _ _ _ => rw [e] at h3; exact h3.elim
  | stuck => rw [e] at h3; exact h3.elim
/-- a comprehension that draws -/
theorem lcRun_draw {w : Walked} {ρ0 : Env} {bd : D → Env → Option Env} {f : Cd Val} {P : D → Prop} {Inv : Sto → Prop} (hw : w.2 = none) (h : ∀ x ρ1 μ, x ∈ w.1 → bd x ρ0 = some ρ1 → Inv μ → okP (f ρ1 μ) fun v μ' => ∃ y, v = .d y ∧ P y ∧ Inv μ') (hb : ∀ x ∈ w.1, (bd x ρ0).isSome = true) :
    ∀ (xs acc : List D) (μ : Sto), (∀ x ∈ xs, x ∈ w.1) → Inv μ → okP (lcRun w ρ0 bd cYes f xs acc μ) fun out μ' => ∃ ys, out = acc ++ ys ∧ ys.length = xs.length ∧ (∀ y ∈ ys, P y) ∧ Inv μ'
  | [], acc, μ, _, i => ⟨[], by simp, rfl, (fun _ h => nomatch h), i⟩
  | x :: xs, acc, μ, hx, i => by
    have hm := hx x List.mem_cons_self
    obtain ⟨ρ1, e⟩ := Option.isSome_iff_exists.mp (hb x hm)
    have q := h x ρ1 μ hm e i
    unfold lcRun
    simp only [e, cYes]
    cases e2 : f ρ1 μ with
    | exc _ _ _ => rw [e2] at q; exact q.elim
    | stuck => rw [e2] at q; exact q.elim
    | ok v μ' =>
      rw [e2] at q
      obtain ⟨y, rfl, hp, i'⟩ := q
      have ob : okB w μ' = true := by unfold okB; rw [hw]
      simp only [ob, if_true]
      refine okP_mono (lcRun_draw hw h hb xs (acc ++ [y]) μ' (fun z hz => hx z (List.mem_cons_of_mem _ hz)) i') fun out μ2 ⟨ys, h1, h2, h3, h4⟩ => ⟨y :: ys, by rw [h1]; simp, by simp [h2], fun z hz => ?_, h4⟩
      rcases List.mem_cons.mp hz with rfl | hz
      · exact hp
      · exact h3 z hz
/-- a comprehension over a range whose body draws: so many values, each as promised -/
theorem lc_draw {fw : Cd Walked} {i : Nat} {vs : List Nat} {f : Cd Val} {P : D → Prop} {Inv : Sto → Prop} {ρ : Env} {μ μ1 : Sto} {xs : List D} (hf : fw ρ μ = .ok (xs, none) μ1) (hl : xs.length ≤ 100000) (i1 : Inv μ1)
    (h : ∀ x μ, x ∈ xs → Inv μ → okP (f ((wipeE ρ vs).set i (some (.d x))) μ) fun v μ' => ∃ y, v = .d y ∧ P y ∧ Inv μ') :
    okP (cLc fw (bN i) vs cYes f ρ μ) fun v μ' => ∃ ys, v = .d (.list ys) ∧ ys.length = xs.length ∧ (∀ y ∈ ys, P y) ∧ Inv μ' := by
  unfold cLc
  rw [hf]
  rw [okP_bind, okP_ok]
  rw [if_pos (show okB (xs, none) μ1 = true from rfl)]
  have q := lcRun_draw (w := (xs, none)) (ρ0 := wipeE ρ vs) (bd := bN i) (f := f) (P := P) (Inv := Inv) rfl (fun x ρ1 μ hx e iv => by
    have e : ρ1 = (wipeE ρ vs).set i (some (.d x)) := (Option.some.inj e).symm
    subst e
    exact h x μ hx iv) (fun x _ => rfl) xs [] μ1 (fun _ h => h) i1
  cases e : lcRun (xs, none) (wipeE ρ vs) (bN i) cYes f xs [] μ1 with
  | exc _ _ _ => rw [e] at q; exact q.elim
  | stuck => rw [e] at q; exact q.elim
  | ok out μ2 =>
    rw [e] at q
    obtain ⟨ys, h1, h2, h3, h4⟩ := q
    rw [List.nil_append] at h1
    subst h1
    simp only [lim, h2, decide_eq_true hl, if_true]
    exact ⟨out, rfl, h2, h3, h4⟩
/-- one word for a table of cases -/
def foldE {γ : Type} (G : α → γ) : List α → List γ
  | [] => []
  | x :: xs => G x :: foldE G xs
theorem at_of {γ : Type} {F G : α → γ} : ∀ {L : List α}, L.map F = foldE G L → ∀ x ∈ L, F x = G x
  | [], _, _, h => nomatch h
  | y :: ys, e, x, h => by
    have e1 : F y :: ys.map F = G y :: foldE G ys := e
    injection e1 with e1 e2
    rcases List.mem_cons.mp h with rfl | h
    · exact e1
    · exact at_of e2 x h
end FW


set_option Elab.async false
set_option linter.all false
set_option maxRecDepth 100000
/-! # What every construct gives, for simp -/
namespace FW
open PySem PySem.Spec
variable {α β : Type} {ρ : Env} {μ : Sto} {n0 : Nat} {QO : Env → Sto → Prop} {T : Val → Sto → Prop} {Q : Val → Sto → Prop} {QB : Bool → Sto → Prop} {QL : List Val → Sto → Prop}
@[simp ↓] theorem w_ok {a : α} {Q : α → Sto → Prop} : okP (.ok a μ) Q = Q a μ := rfl
@[simp ↓] theorem w_exc {cn : Str} {pl : D} {Q : α → Sto → Prop} : okP (.exc cn pl μ : R α) Q = False := rfl
@[simp ↓] theorem w_stuck {Q : α → Sto → Prop} : okP (.stuck : R α) Q = False := rfl
@[simp ↓] theorem w_next : okO (.next ρ μ) QO T = QO ρ μ := rfl
@[simp ↓] theorem w_ret {v : Val} : okO (.ret v μ) QO T = T v μ := rfl
@[simp ↓] theorem w_seq {f g : Sc} : okO (sSeq f g n0 ρ μ) QO T = okO (f n0 ρ μ) (fun ρ' μ' => okO (g n0 ρ' μ') QO T) T := okO_seq
@[simp ↓] theorem w_skip : okO (sSkip n0 ρ μ) QO T = QO ρ μ := rfl
@[simp ↓] theorem w_set {i : Nat} {f : Cd Val} : okO (sSet i f n0 ρ μ) QO T = okP (f ρ μ) (fun v μ' => QO (ρ.set i (some v)) μ') := okO_set
@[simp ↓] theorem w_sret {f : Cd Val} : okO (sRet f n0 ρ μ) QO T = okP (f ρ μ) T := by unfold sRet; rw [okO_lift]; rfl
@[simp ↓] theorem w_expr {f : Cd Val} : okO (sExpr f n0 ρ μ) QO T = okP (f ρ μ) (fun _ μ' => QO ρ μ') := by unfold sExpr; rw [okO_lift]; rfl
@[simp ↓] theorem w_par {i j : Nat} {f g : Cd Val} : okO (sPar i j f g n0 ρ μ) QO T = okP (f ρ μ) (fun v μ1 => okP (g ρ μ1) (fun u μ2 => QO ((ρ.set i (some v)).set j (some u)) μ2)) := by
  unfold sPar
  rw [okO_lift]
  congr 1
  funext v μ1
  rw [okO_lift]
  rfl
@[simp ↓] theorem w_if {t : Cd Bool} {f g : Sc} : okO (sIf t f g n0 ρ μ) QO T = okP (t ρ μ) (fun b μ1 => if b = true then okO (f n0 ρ μ1) QO T else okO (g n0 ρ μ1) QO T) := by
  unfold sIf
  rw [okO_lift]
  congr 1
  funext b μ1
  cases b <;> simp
@[simp ↓] theorem w_put {fo fi fe : Cd Val} : okO (sPut fo fi fe n0 ρ μ) QO T = okP (fe ρ μ) (fun v μ1 => okP (fo ρ μ1) (fun o μ2 => okP (fi ρ μ2) (fun k μ3 => match o, rd k μ3, v with
  | .loc l, some (.int j), .d x => match μ3[l]? with
    | some (.lst xs) => match L2.ixN xs.length j with
      | some m => QO ρ (μ3.set l (.lst (xs.set m x)))
      | none => False
    | _ => False
  | _, _, _ => False))) := by
  unfold sPut
  rw [okO_lift]
  congr 1
  funext v μ1
  rw [okO_lift]
  congr 1
  funext o μ2
  rw [okO_lift]
  congr 1
  funext k μ3
  cases o with
  | d _ => rfl
  | exn => rfl
  | loc l =>
    cases rd k μ3 with
    | none => rfl
    | some j =>
      cases j with
      | int j =>
        cases v with
        | loc _ => rfl
        | exn => rfl
        | d x =>
          show okO (match μ3[l]? with | some (.lst xs) => (match L2.ixN xs.length j with | some m => O.next ρ (μ3.set l (.lst (xs.set m x))) | none => .stuck) | _ => .stuck) QO T = (match μ3[l]? with | some (.lst xs) => (match L2.ixN xs.length j with | some m => QO ρ (μ3.set l (.lst (xs.set m x))) | none => False) | _ => False)
          cases μ3[l]? with
          | none => rfl
          | some c =>
            cases c with
            | dct _ => rfl
            | lst xs =>
              dsimp only
              cases L2.ixN xs.length j <;> rfl
      | _ => rfl
@[simp ↓] theorem w_app {fo fe : Cd Val} : okO (sApp fo fe n0 ρ μ) QO T = okP (fo ρ μ) (fun o μ1 => match o with
  | .loc l => match μ1[l]? with
    | some (.lst _) => okP (fe ρ μ1) (fun v μ2 => match v, μ2[l]? with
      | .d x, some (.lst xs) => if lim (xs.length + 1) = true then QO ρ (μ2.set l (.lst (xs ++ [x]))) else False
      | _, _ => False)
    | _ => False
  | _ => False) := by
  unfold sApp
  rw [okO_lift]
  congr 1
  funext o μ1
  cases o with
  | d _ => rfl
  | exn => rfl
  | loc l =>
    show okO (match μ1[l]? with | some (.lst _) => lift (fe ρ μ1) ρ (fun v μ2 => match v, μ2[l]? with | .d x, some (.lst xs) => if lim (xs.length + 1) = true then .next ρ (μ2.set l (.lst (xs ++ [x]))) else .stuck | _, _ => .stuck) | _ => .stuck) QO T = (match μ1[l]? with
    | some (.lst _) => okP (fe ρ μ1) (fun v μ2 => match v, μ2[l]? with
      | .d x, some (.lst xs) => if lim (xs.length + 1) = true then QO ρ (μ2.set l (.lst (xs ++ [x]))) else False
      | _, _ => False)
    | _ => False)
    cases μ1[l]? with
    | none => rfl
    | some c =>
      cases c with
      | dct _ => rfl
      | lst xs =>
        dsimp only
        rw [okO_lift]
        congr 1
        funext v μ2
        generalize μ2[l]? = oc
        cases v with
        | loc _ => rfl
        | exn => rfl
        | d x =>
          cases oc with
          | none => rfl
          | some c =>
            cases c with
            | dct _ => rfl
            | lst ys =>
              dsimp only
              cases lim (ys.length + 1) <;> rfl
/-! expressions -/
@[simp ↓] theorem w_cK {x : D} : okP (cK x ρ μ) Q = Q (.d x) μ := rfl
@[simp ↓] theorem w_cV {i : Nat} : okP (cV i ρ μ) Q = match ρ[i]? with | some (some v) => Q v μ | _ => False := by
  unfold cV
  cases ρ[i]? with
  | none => rfl
  | some o => cases o <;> rfl
@[simp ↓] theorem w_nil : okP (aNil ρ μ) QL = QL [] μ := rfl
@[simp ↓] theorem w_cons {f : Cd Val} {g : Cd (List Val)} : okP (aCons f g ρ μ) QL = okP (f ρ μ) (fun v μ1 => okP (g ρ μ1) (fun vs μ2 => QL (v :: vs) μ2)) := by
  unfold aCons
  rw [okP_bind]
  congr 1
  funext v μ1
  rw [okP_bind]
  rfl
@[simp ↓] theorem w_tup {f : Cd (List Val)} : okP (cTup f ρ μ) Q = okP (f ρ μ) (fun vs μ1 => match dats vs with | some xs => if lim xs.length = true then Q (.d (.tuple xs)) μ1 else False | none => False) := by
  unfold cTup
  rw [okP_bind]
  congr 1
  funext v μ1
  cases dats v with
  | none => rfl
  | some xs =>
    dsimp only
    cases lim xs.length <;> rfl
@[simp ↓] theorem w_lst {f : Cd (List Val)} : okP (cLst f ρ μ) Q = okP (f ρ μ) (fun vs μ1 => match dats vs with | some xs => if lim xs.length = true then Q (.d (.list xs)) μ1 else False | none => False) := by
  unfold cLst
  rw [okP_bind]
  congr 1
  funext v μ1
  cases dats v with
  | none => rfl
  | some xs =>
    dsimp only
    cases lim xs.length <;> rfl
@[simp ↓] theorem w_lstC {f : Cd (List Val)} : okP (cLstC f ρ μ) Q = okP (f ρ μ) (fun vs μ1 => match dats vs with | some xs => if lim xs.length = true then Q (.loc μ1.length) (μ1 ++ [.lst xs]) else False | none => False) := by
  unfold cLstC
  rw [okP_bind]
  congr 1
  funext v μ1
  cases dats v with
  | none => rfl
  | some xs =>
    dsimp only
    cases lim xs.length <;> rfl
@[simp ↓] theorem w_op {op : D → D → Option D} {f g : Cd Val} : okP (cOp op f g ρ μ) Q = okP (f ρ μ) (fun a μ1 => okP (g ρ μ1) (fun b μ2 => match rd a μ2, rd b μ2 with | some x, some y => (match op x y with | some z => Q (.d z) μ2 | none => False) | _, _ => False)) := by
  unfold cOp
  rw [okP_bind]
  congr 1
  funext v μ1
  rw [okP_bind]
  congr 1
  funext u μ2
  unfold p2
  cases rd v μ2 with
  | none => rfl
  | some x =>
    cases rd u μ2 with
    | none => rfl
    | some y =>
      dsimp only
      cases op x y <;> rfl
@[simp ↓] theorem w_un {op : D → Option D} {f : Cd Val} : okP (cUn op f ρ μ) Q = okP (f ρ μ) (fun a μ1 => match rd a μ1 with | some x => (match op x with | some z => Q (.d z) μ1 | none => False) | none => False) := by
  unfold cUn
  rw [okP_bind]
  congr 1
  funext v μ1
  unfold p1
  cases rd v μ1 with
  | none => rfl
  | some x =>
    dsimp only
    cases op x <;> rfl
@[simp ↓] theorem w_tr {f : Cd Val} : okP (cTr f ρ μ) QB = okP (f ρ μ) (fun v μ1 => match rd v μ1 with | some (.bool b) => QB b μ1 | _ => False) := by
  unfold cTr
  rw [okP_bind]
  congr 1
  funext v μ1
  unfold tr
  cases rd v μ1 with
  | none => rfl
  | some x => cases x <;> rfl
@[simp ↓] theorem w_tru {f : Cd Val} : okP (cTru f ρ μ) QB = okP (f ρ μ) (fun v μ1 => match rd v μ1 with | some x => (match truB x with | some b => QB b μ1 | none => False) | none => False) := by
  unfold cTru
  rw [okP_bind]
  congr 1
  funext v μ1
  cases rd v μ1 with
  | none => rfl
  | some x =>
    dsimp only
    cases truB x <;> rfl
@[simp ↓] theorem w_and {f g : Cd Bool} : okP (tAndC f g ρ μ) QB = okP (f ρ μ) (fun a μ1 => if a = true then okP (g ρ μ1) QB else QB false μ1) := by
  unfold tAndC
  rw [okP_bind]
  congr 1
  funext a μ1
  cases a <;> simp
@[simp ↓] theorem w_or {f g : Cd Bool} : okP (tOrC f g ρ μ) QB = okP (f ρ μ) (fun a μ1 => if a = true then QB true μ1 else okP (g ρ μ1) QB) := by
  unfold tOrC
  rw [okP_bind]
  congr 1
  funext a μ1
  cases a <;> simp
@[simp ↓] theorem w_not {f : Cd Bool} : okP (tNotC f ρ μ) QB = okP (f ρ μ) (fun a μ1 => QB (!a) μ1) := by
  unfold tNotC
  rw [okP_bind]
  rfl
@[simp ↓] theorem w_cif {t : Cd Bool} {f g : Cd Val} : okP (cIf t f g ρ μ) Q = okP (t ρ μ) (fun b μ1 => if b = true then okP (f ρ μ1) Q else okP (g ρ μ1) Q) := by
  unfold cIf
  rw [okP_bind]
  congr 1
  funext a μ1
  cases a <;> simp
@[simp ↓] theorem w_cb {op : List D → Option D} {f : Cd (List Val)} : okP (cB op f ρ μ) Q = okP (f ρ μ) (fun vs μ1 => match rds vs μ1 with | some xs => (match op xs with | some z => Q (.d z) μ1 | none => False) | none => False) := by
  unfold cB
  rw [okP_bind]
  congr 1
  funext a μ1
  unfold pB
  cases rds a μ1 with
  | none => rfl
  | some x =>
    dsimp only
    cases op x <;> rfl
@[simp ↓] theorem w_isi {t : String} {f : Cd Val} : okP (cIsi t f ρ μ) Q = okP (f ρ μ) (fun v μ1 => match rd v μ1 with | some x => (match tyN x with | some n => Q (.d (.bool (isiB n t))) μ1 | none => False) | none => False) := by
  unfold cIsi
  rw [okP_bind]
  congr 1
  funext a μ1
  cases rd a μ1 with
  | none => rfl
  | some x =>
    dsimp only
    cases tyN x <;> rfl
@[simp ↓] theorem w_sl {f : Cd Val} {l h : Cd (Option Int)} : okP (cSl f l h ρ μ) Q = okP (f ρ μ) (fun v μ1 => okP (l ρ μ1) (fun lo μ2 => okP (h ρ μ2) (fun hi μ3 => okP (pSl v lo hi μ3) Q))) := by
  unfold cSl
  rw [okP_bind]
  congr 1
  funext v μ1
  rw [okP_bind]
  congr 1
  funext lo μ2
  rw [okP_bind]
@[simp ↓] theorem w_no {QI : Option Int → Sto → Prop} : okP (cNo ρ μ) QI = QI none μ := rfl
@[simp ↓] theorem w_part {f : Cd Val} {QI : Option Int → Sto → Prop} : okP (cPart f ρ μ) QI = okP (f ρ μ) (fun v μ1 => match rd v μ1 with | some (.int i) => QI (some i) μ1 | _ => False) := by
  unfold cPart
  rw [okP_bind]
  congr 1
  funext v μ1
  cases rd v μ1 with
  | none => rfl
  | some x => cases x <;> rfl
@[simp ↓] theorem w_yes {QB : Bool → Sto → Prop} : okP (cYes ρ μ) QB = QB true μ := rfl
@[simp ↓] theorem w_lc_nil {w : Walked} {ρ0 : Env} {bd : D → Env → Option Env} {c : Cd Bool} {f : Cd Val} {acc : List D} {QD : List D → Sto → Prop} : okP (lcRun w ρ0 bd c f [] acc μ) QD = QD acc μ := rfl
@[simp ↓] theorem w_lc_cons {w : Walked} {ρ0 : Env} {bd : D → Env → Option Env} {c : Cd Bool} {f : Cd Val} {x : D} {xs acc : List D} {QD : List D → Sto → Prop} : okP (lcRun w ρ0 bd c f (x :: xs) acc μ) QD = match bd x ρ0 with
    | some ρ1 => okP (c ρ1 μ) (fun b μ1 => if b = true then okP (f ρ1 μ1) (fun v μ2 => match v with
      | .d y => if okB w μ2 = true then okP (lcRun w ρ0 bd c f xs (acc ++ [y]) μ2) QD else False
      | _ => False) else if okB w μ1 = true then okP (lcRun w ρ0 bd c f xs acc μ1) QD else False)
    | none => False := by
  show okP (match bd x ρ0 with
    | none => .stuck
    | some ρ1 => match c ρ1 μ with
      | .ok true μ1 => match f ρ1 μ1 with
        | .ok (.d y) μ2 => if okB w μ2 = true then lcRun w ρ0 bd c f xs (acc ++ [y]) μ2 else .stuck
        | _ => .stuck
      | .ok false μ1 => if okB w μ1 = true then lcRun w ρ0 bd c f xs acc μ1 else .stuck
      | _ => .stuck) QD = _
  cases bd x ρ0 with
  | none => rfl
  | some ρ1 =>
    dsimp only
    cases c ρ1 μ with
    | exc _ _ _ => rfl
    | stuck => rfl
    | ok b μ1 =>
      cases b with
      | false =>
        simp only [w_ok, Bool.false_eq_true, if_false]
        cases okB w μ1 <;> simp
      | true =>
        simp only [w_ok, if_true]
        cases f ρ1 μ1 with
        | exc _ _ _ => rfl
        | stuck => rfl
        | ok v μ2 =>
          cases v with
          | loc _ => rfl
          | exn => rfl
          | d y =>
            simp only [w_ok]
            cases okB w μ2 <;> simp
@[simp ↓] theorem w_lc {fw : Cd Walked} {bd : D → Env → Option Env} {vs : List Nat} {c : Cd Bool} {f : Cd Val} : okP (cLc fw bd vs c f ρ μ) Q = okP (fw ρ μ) (fun w μ1 => if okB w μ1 = true then okP (lcRun w (wipeE ρ vs) bd c f w.1 [] μ1) (fun out μ2 => if lim out.length = true then Q (.d (.list out)) μ2 else False) else False) := by
  unfold cLc
  rw [okP_bind]
  congr 1
  funext w μ1
  cases okB w μ1 with
  | false => simp
  | true =>
    simp only [if_true]
    cases lcRun w (wipeE ρ vs) bd c f w.1 [] μ1 with
    | exc _ _ _ => rfl
    | stuck => rfl
    | ok out μ2 =>
      simp only [w_ok]
      cases lim out.length <;> simp
@[simp ↓] theorem w_iv {f : Cd Val} {QW : Walked → Sto → Prop} : okP (iV f ρ μ) QW = okP (f ρ μ) (fun v μ1 => match itOf v μ1 with | some w => QW w μ1 | none => False) := by
  unfold iV
  rw [okP_bind]
  congr 1
  funext v μ1
  cases itOf v μ1 <;> rfl
@[simp ↓] theorem w_r1 {f : Cd (List Val)} {QW : Walked → Sto → Prop} : okP (iR1 f ρ μ) QW = okP (f ρ μ) (fun vs μ1 => match rds vs μ1 with | some [.int n] => if decide (-(2 ^ 62) ≤ n ∧ n < 2 ^ 62) = true then QW (rng 0 n.toNat, none) μ1 else False | _ => False) := by
  unfold iR1
  rw [okP_bind]
  congr 1
  funext vs μ1
  split
  · rename_i n e
    try rw [e]
    try dsimp only
    cases decide (-(2 ^ 62) ≤ n ∧ n < 2 ^ 62) <;> simp
  · rename_i h
    first
    | rfl
    | (split
       · rename_i n e
         exact absurd e (h n)
       · rfl)
@[simp ↓] theorem w_r2 {f : Cd (List Val)} {QW : Walked → Sto → Prop} : okP (iR2 f ρ μ) QW = okP (f ρ μ) (fun vs μ1 => match rds vs μ1 with | some [.int a, .int b] => if decide (-(2 ^ 62) ≤ a ∧ a < 2 ^ 62 ∧ -(2 ^ 62) ≤ b ∧ b < 2 ^ 62) = true then QW (rng a (b - a).toNat, none) μ1 else False | _ => False) := by
  unfold iR2
  rw [okP_bind]
  congr 1
  funext vs μ1
  split
  · rename_i a b e
    try rw [e]
    try dsimp only
    cases decide (-(2 ^ 62) ≤ a ∧ a < 2 ^ 62 ∧ -(2 ^ 62) ≤ b ∧ b < 2 ^ 62) <;> simp
  · rename_i h
    first
    | rfl
    | (split
       · rename_i a b e
         exact absurd e (h a b)
       · rfl)
theorem for_nil {bd : D → Env → Option Env} {b : Sc} (h : QO ρ μ) : okO (forRun bd b n0 [] ρ μ) QO T := h
theorem for_cons {bd : D → Env → Option Env} {b : Sc} {x : D} {xs : List D} {ρ1 : Env} (e : bd x ρ = some ρ1) (h : okO (b n0 ρ1 μ) (fun ρ2 μ2 => okO (forRun bd b n0 xs ρ2 μ2) QO T) T) : okO (forRun bd b n0 (x :: xs) ρ μ) QO T := by
  unfold forRun
  simp only [e]
  cases q : b n0 ρ1 μ <;> rw [q] at h
  · exact h
  · exact h
  all_goals exact h.elim
@[simp ↓] theorem w_for {fw : Cd Walked} {bd : D → Env → Option Env} {b : Sc} : okO (sFor fw bd b n0 ρ μ) QO T = okP (fw ρ μ) (fun w μ1 => match w.2 with | none => okO (forRun bd b n0 w.1 ρ μ1) QO T | some _ => False) := by
  unfold sFor
  rw [okO_lift]
  congr 1
  funext w μ1
  cases w.2 <;> rfl
@[simp] theorem okB_none {xs : List D} : okB (xs, none) μ = true := rfl
@[simp] theorem itOf_list {xs : List D} : itOf (.d (.list xs)) μ = some (xs, none) := rfl
@[simp] theorem itOf_tuple {xs : List D} : itOf (.d (.tuple xs)) μ = some (xs, none) := rfl
@[simp ↓] theorem w_cand {f g : Cd Val} : okP (cAnd f g ρ μ) Q = okP (f ρ μ) (fun a μ1 => match bo a μ1 with | some true => okP (g ρ μ1) Q | some false => Q (.d (.bool false)) μ1 | none => False) := by
  unfold cAnd
  rw [okP_bind]
  congr 1
  funext a μ1
  cases bo a μ1 with
  | none => rfl
  | some b => cases b <;> rfl
@[simp ↓] theorem w_cor {f g : Cd Val} : okP (cOr f g ρ μ) Q = okP (f ρ μ) (fun a μ1 => match bo a μ1 with | some true => Q (.d (.bool true)) μ1 | some false => okP (g ρ μ1) Q | none => False) := by
  unfold cOr
  rw [okP_bind]
  congr 1
  funext a μ1
  cases bo a μ1 with
  | none => rfl
  | some b => cases b <;> rfl
@[simp ↓] theorem w_cnot {f : Cd Val} : okP (cNot f ρ μ) Q = okP (f ρ μ) (fun a μ1 => match bo a μ1 with | some b => Q (.d (.bool (!b))) μ1 | none => False) := by
  unfold cNot
  rw [okP_bind]
  congr 1
  funext a μ1
  cases bo a μ1 <;> rfl
@[simp ↓] theorem w_call {n : Nat} {F : Fn} {g : Cd (List Val)} : okP (cCall n F g ρ μ) Q = okP (g ρ μ) (fun vs μ1 => if vs.length = n ∧ vs.all notExn = true then okP (F vs μ1) (fun v μ2 => if notExn v = true then Q v μ2 else False) else False) := by
  unfold cCall
  rw [okP_bind]
  congr 1
  funext vs μ1
  by_cases h : vs.length = n ∧ vs.all notExn = true
  · rw [if_pos h, if_pos h]
    cases F vs μ1 with
    | exc _ _ _ => rfl
    | stuck => rfl
    | ok v μ2 =>
      simp only [w_ok]
      cases notExn v <;> simp
  · rw [if_neg h, if_neg h]
    rfl
@[simp] theorem notExn_d {x : D} : notExn (.d x) = true := rfl
@[simp] theorem notExn_loc {l : Nat} : notExn (.loc l) = true := rfl
@[simp] theorem bo_b {b : Bool} : bo (.d (.bool b)) μ = some b := rfl
@[simp] theorem tru_b {b : Bool} : truB (.bool b) = some b := rfl
@[simp] theorem tyN_int {i : Int} : tyN (.int i) = some "int" := rfl
@[simp] theorem tyN_bool {i : Bool} : tyN (.bool i) = some "bool" := rfl
@[simp] theorem tyN_tuple {i : List D} : tyN (.tuple i) = some "tuple" := rfl
@[simp] theorem tyN_list {i : List D} : tyN (.list i) = some "list" := rfl
@[simp] theorem tyN_str {i : Str} : tyN (.str i) = some "str" := rfl
@[simp] theorem tyN_none : tyN .none = some "NoneType" := rfl
/-! data -/
@[simp] theorem rd_d {x : D} : rd (.d x) μ = some x := rfl
@[simp] theorem dEq_int {a b : Int} : dEq (.int a) (.int b) = some (.bool (decide (a = b))) := by
  unfold dEq shal
  simp [PyData.depth, PyData.eqv]
  rw [Bool.eq_iff_iff]
  simp
@[simp] theorem dNe_int {a b : Int} : dNe (.int a) (.int b) = some (.bool (!decide (a = b))) := by
  unfold dNe shal
  simp [PyData.depth, PyData.eqv]
  rw [Bool.eq_iff_iff]
  simp
@[simp] theorem dAdd_int {a b : Int} : dAdd (.int a) (.int b) = some (.int (a + b)) := rfl
@[simp] theorem dSub_int {a b : Int} : dSub (.int a) (.int b) = some (.int (a - b)) := rfl
@[simp] theorem dLt_int {a b : Int} : dLt (.int a) (.int b) = some (.bool (decide (a < b))) := rfl
@[simp] theorem dLe_int {a b : Int} : dLe (.int a) (.int b) = some (.bool (decide (a ≤ b))) := rfl
@[simp] theorem dGt_int {a b : Int} : dGt (.int a) (.int b) = some (.bool (decide (b < a))) := rfl
@[simp] theorem dGeA_int {a b : Int} : dGeA (.int a) (.int b) = some (.bool (decide (b ≤ a))) := rfl
@[simp] theorem bAbs_int {a : Int} : bAbs [.int a] = some (.int (if a < 0 then -a else a)) := rfl
@[simp] theorem bInt_int {a : Int} : bInt [.int a] = some (.int a) := rfl
@[simp] theorem bInt_bool {a : Bool} : bInt [.bool a] = some (.int (if a then 1 else 0)) := rfl
@[simp] theorem bLen_list {xs : List D} : bLen [.list xs] = some (.int xs.length) := rfl
@[simp] theorem bLen_tuple {xs : List D} : bLen [.tuple xs] = some (.int xs.length) := rfl
@[simp] theorem rds_nil : rds [] μ = some [] := rfl
@[simp] theorem rds_cons {v : Val} {vs : List Val} : rds (v :: vs) μ = match rd v μ, rds vs μ with | some x, some xs => some (x :: xs) | _, _ => none := rfl
@[simp] theorem dats_nil : dats [] = some [] := rfl
@[simp] theorem dats_d {x : D} {vs : List Val} : dats (.d x :: vs) = match dats vs with | some xs => some (x :: xs) | none => none := rfl
theorem dMod_int {a b : Int} (h : 0 < b) : dMod (.int a) (.int b) = some (.int (a % b)) := by
  unfold dMod
  simp [h]
theorem dMul_r {a b : Int} (h1 : -(2 ^ 64) < b) (h2 : b < 2 ^ 64) : dMulB (.int a) (.int b) = some (.int (a * b)) := by
  show (if mulOk a b = true then some (PyData.int (a * b)) else none) = _
  rw [if_pos]
  unfold mulOk
  rw [Bool.or_eq_true]
  exact .inr (decide_eq_true ⟨h1, h2⟩)
theorem dMul_l {a b : Int} (h1 : -(2 ^ 64) < a) (h2 : a < 2 ^ 64) : dMulB (.int a) (.int b) = some (.int (a * b)) := by
  show (if mulOk a b = true then some (PyData.int (a * b)) else none) = _
  rw [if_pos]
  unfold mulOk
  rw [Bool.or_eq_true]
  exact .inl (decide_eq_true ⟨h1, h2⟩)
theorem big_pow : (2 : Int) ^ 64 < 2 ^ 4000 := by
  have z : (2 : Nat) ^ 64 < 2 ^ 4000 := Nat.pow_lt_pow_right (by decide) (by decide)
  have e1 : ((2 ^ 64 : Nat) : Int) = (2 : Int) ^ 64 := Int.natCast_pow 2 64
  have e2 : ((2 ^ 4000 : Nat) : Int) = (2 : Int) ^ 4000 := Int.natCast_pow 2 4000
  rw [← e1, ← e2]
  exact Int.ofNat_lt.mpr z
theorem dDiv_pos {a b : Int} (h : 0 < b) (h2 : b < 2 ^ 64) : dDivN (.int a) (.int b) = some (.int (a / b)) := by
  show (if divOk b = true then _ else _) = _
  rw [if_pos]
  unfold divOk
  exact decide_eq_true ⟨h, Int.lt_trans h2 big_pow⟩
theorem dDiv_neg {a b : Int} (h : b < 0) (h2 : -1073741824 < b) : dDivN (.int a) (.int b) = some (.int (a.fdiv b)) := by
  show (if divOk b = true then _ else _) = _
  rw [if_neg, if_pos (decide_eq_true ⟨h, h2⟩)]
  unfold divOk
  intro q
  exact absurd (of_decide_eq_true q).1 (Int.not_lt.mpr (Int.le_of_lt h))
theorem ixN_nat {n i : Nat} (h : i < n) : L2.ixN n (i : Int) = some i := by
  unfold L2.ixN
  rw [if_pos (by omega), if_pos (by omega)]
  simp
theorem dIx_list {xs : List D} {i : Nat} (h : i < xs.length) : dIx (.list xs) (.int (i : Int)) = some xs[i] := by
  show L2.atI xs (i : Int) = _
  unfold L2.atI
  rw [ixN_nat h]
  simp [h]
theorem dIx_tuple {xs : List D} {i : Nat} (h : i < xs.length) : dIx (.tuple xs) (.int (i : Int)) = some xs[i] := dIx_list h
theorem atI_nat {α : Type} {xs : List α} {i : Nat} (h : i < xs.length) : L2.atI xs (i : Int) = xs[i]? := by
  unfold L2.atI L2.ixN
  rw [if_pos (by omega)]
  rw [if_pos (by omega)]
  simp
theorem atI_neg1 {α : Type} {xs : List α} (h : xs ≠ []) : L2.atI xs (-1) = xs.getLast? := by
  have hl : 0 < xs.length := List.length_pos_iff.mpr h
  unfold L2.atI L2.ixN
  rw [if_neg (by omega), if_pos (by omega)]
  rw [List.getLast?_eq_getElem?]
  show xs[_]? = _
  congr 1
  omega
/-- one statement, then the rest -/
theorem seq_of {f g : Sc} {P : Env → Sto → Prop} (h1 : okO (f n0 ρ μ) P T) (h2 : ∀ ρ' μ', P ρ' μ' → okO (g n0 ρ' μ') QO T) : okO (sSeq f g n0 ρ μ) QO T := by
  rw [okO_seq]
  cases e : f n0 ρ μ <;> rw [e] at h1
  · exact h2 _ _ h1
  · exact h1
  all_goals exact h1.elim
theorem seq_gen {f g : Sc} (h : ∀ Q : Env → Sto → Prop, (∀ ρ' μ', okO (g n0 ρ' μ') QO T → Q ρ' μ') → okO (f n0 ρ μ) Q T) : okO (sSeq f g n0 ρ μ) QO T := by
  rw [okO_seq]
  exact h _ fun _ _ z => z
@[simp] theorem psl_tuple {xs : List D} {lo hi : Option Int} : pSl (.d (.tuple xs)) lo hi μ = .ok (.d (.tuple (cut xs lo hi))) μ := rfl
@[simp] theorem psl_list {xs : List D} {lo hi : Option Int} : pSl (.d (.list xs)) lo hi μ = .ok (.d (.list (cut xs lo hi))) μ := rfl
theorem okP_ex {α : Type} {r : R α} {Q : α → Sto → Prop} (h : okP r Q) : ∃ a ν, r = .ok a ν ∧ Q a ν := by
  cases r with
  | ok a ν => exact ⟨a, ν, rfl, h⟩
  | exc _ _ _ => exact h.elim
  | stuck => exact h.elim
theorem if_of {ρ : FW.Env} {μ : Sto} {t : Cd Bool} {f : Sc} {n0 : Nat} {Q : FW.Env → Sto → Prop} {T : Val → Sto → Prop} (e : t ρ μ = .ok false μ) (h : Q ρ μ) : okO (sIf t f sSkip n0 ρ μ) Q T := by
  rw [w_if]
  exact okP_of e (by simpa using h)
theorem next_of {o : O} {ρ : FW.Env} {μ : Sto} {Q : FW.Env → Sto → Prop} {T : Val → Sto → Prop} (e : o = .next ρ μ) (h : Q ρ μ) : okO o Q T := okO_of e h
theorem lo62 : (-(2 ^ 62) : Int) ≤ 0 := by decide
theorem hi62 : (100000 : Int) < 2 ^ 62 := by decide
theorem dd62 {n : Int} (h0 : 0 ≤ n) (h1 : n ≤ 100000) : -(2 ^ 62) ≤ n ∧ n < 2 ^ 62 := ⟨Int.le_trans lo62 h0, Int.lt_of_le_of_lt h1 hi62⟩
theorem iR1_n {f : Cd (List Val)} {n : Int} (hf : f ρ μ = .ok [.d (.int n)] μ) (h : decide (-(2 ^ 62) ≤ n ∧ n < 2 ^ 62) = true) : iR1 f ρ μ = .ok (rng 0 n.toNat, none) μ := by
  unfold iR1
  rw [hf]
  simp only [R.bind, rds, rd]
  rw [if_pos h]
theorem iR1_ok {f : Cd (List Val)} {n : Int} {k : Nat} (hf : f ρ μ = .ok [.d (.int n)] μ) (h : n.toNat = k) (h0 : 0 ≤ n) (h1 : n ≤ 100000) : iR1 f ρ μ = .ok (rng 0 k, none) μ := by
  rw [iR1_n hf (decide_eq_true (dd62 h0 h1)), h]
theorem iR1_wp {f : Cd (List Val)} {QW : Walked → Sto → Prop} (h : okP (f ρ μ) fun vs μ1 => ∃ n : Int, vs = [.d (.int n)] ∧ 0 ≤ n ∧ n ≤ 100000 ∧ QW (rng 0 n.toNat, none) μ1) : okP (iR1 f ρ μ) QW := by
  obtain ⟨vs, μ1, e, n, rfl, h0, h1, q⟩ := okP_ex h
  unfold iR1
  rw [e]
  simp only [R.bind, rds, rd]
  rw [if_pos (decide_eq_true (dd62 h0 h1))]
  exact q
theorem iR2_n {f : Cd (List Val)} {a b : Int} (hf : f ρ μ = .ok [.d (.int a), .d (.int b)] μ) (h : decide (-(2 ^ 62) ≤ a ∧ a < 2 ^ 62 ∧ -(2 ^ 62) ≤ b ∧ b < 2 ^ 62) = true) : iR2 f ρ μ = .ok (rng a (b - a).toNat, none) μ := by
  unfold iR2
  rw [hf]
  simp only [R.bind, rds, rd]
  rw [if_pos h]
theorem iR2_ok {f : Cd (List Val)} {a b : Int} {k : Nat} (hf : f ρ μ = .ok [.d (.int a), .d (.int b)] μ) (h : (b - a).toNat = k) (a0 : 0 ≤ a) (a1 : a ≤ 100000) (b0 : 0 ≤ b) (b1 : b ≤ 100000) : iR2 f ρ μ = .ok (rng a k, none) μ := by
  rw [iR2_n hf (decide_eq_true ⟨(dd62 a0 a1).1, (dd62 a0 a1).2, (dd62 b0 b1).1, (dd62 b0 b1).2⟩), h]
theorem okP_run {n : Nat} {b : Sc} {vs : List Val} (h : okO (b μ.length (vs.map some ++ List.replicate (n - vs.length) none) μ) (fun _ μ' => Q (.d .none) (μ'.take μ.length)) (fun v μ' => okP (fin μ.length v μ') Q)) : okP (runFn fin n b vs μ) Q := by
  unfold runFn
  cases e : b μ.length (vs.map some ++ List.replicate (n - vs.length) none) μ <;> rw [e] at h
  · exact h
  · exact h
  all_goals exact h.elim
@[simp] theorem fin_d {n : Nat} {x : D} : fin n (.d x) μ = .ok (.d x) (μ.take n) := rfl
theorem mulW_l {a b : Int} (h1 : -18446744073709551616 < a) (h2 : a < 18446744073709551616) : dMulB (.int a) (.int b) = some (.int (a * b)) := dMul_l h1 h2
theorem mulW_r {a b : Int} (h1 : -18446744073709551616 < b) (h2 : b < 18446744073709551616) : dMulB (.int a) (.int b) = some (.int (a * b)) := dMul_r h1 h2
end FW


set_option Elab.async false
set_option linter.all false
set_option maxRecDepth 100000
set_option maxHeartbeats 8000000

namespace K00
open PySem PySem.Spec FW
def c__law_start : Sc := (sRet (cLstC (aCons (cV 0) (aCons (cK (.int 0)) (aCons (cK (.int 0)) (aCons (cK (.int 7)) aNil))))))
def F__law_start : Fn := runFn finK 1 c__law_start
def c__law_pick : Sc := (sSeq (sIf (tAndC (cTr (cOp dEq (cOp dIx (cV 0) (cK (.int 2))) (cK (.int 0)))) (cTr (cOp dLt (cOp dIx (cV 0) (cK (.int 1))) (cB bLen (aCons (cOp dIx (cV 0) (cK (.int 0))) aNil))))) (sSeq (sSet 2 (cB bAbs (aCons (cOp dIx (cOp dIx (cV 0) (cK (.int 0))) (cOp dIx (cV 0) (cK (.int 1)))) aNil)))
  (sSeq (sPut (cV 0) (cK (.int 1)) (cOp dAdd (cOp dIx (cV 0) (cK (.int 1))) (cK (.int 1))))
  (sIf (cTr (cOp dGeA (cV 2) (cOp dPow (cK (.int 10)) (cK (.int 18))))) (sPut (cV 0) (cK (.int 2)) (cV 2)) (sPut (cV 0) (cK (.int 3)) (cOp dAdd (cOp dMod (cB bInt (aCons (cOp dAdd (cOp dMulB (cOp dIx (cV 0) (cK (.int 3))) (cK (.int 48271))) (cV 2)) aNil)) (cK (.int 2147483646))) (cK (.int 1))))))) sSkip)
  (sSeq (sIf (cTr (cOp dGt (cOp dIx (cV 0) (cK (.int 2))) (cK (.int 0)))) (sSeq (sSet 3 (cOp dMod (cB bInt (aCons (cOp dIx (cV 0) (cK (.int 2))) aNil)) (cV 1)))
  (sSeq (sPut (cV 0) (cK (.int 2)) (cOp dDivN (cOp dIx (cV 0) (cK (.int 2))) (cV 1)))
  (sRet (cV 3)))) sSkip)
  (sSeq (sPut (cV 0) (cK (.int 3)) (cOp dMod (cB bInt (aCons (cOp dMulB (cOp dIx (cV 0) (cK (.int 3))) (cK (.int 48271))) aNil)) (cK (.int 2147483647))))
  (sRet (cOp dMod (cB bInt (aCons (cOp dAdd (cOp dDivN (cOp dIx (cV 0) (cK (.int 3))) (cK (.int 5))) (cOp dMod (cB bInt (aCons (cOp dMulB (cOp dIx (cV 0) (cK (.int 3))) (cOp dIx (cV 0) (cK (.int 3)))) aNil)) (cK (.int 2147483629)))) aNil)) (cV 1))))))
def F__law_pick : Fn := runFn fin 4 c__law_pick
def c_is_count : Sc := (sRet (cAnd (cIsi "int" (cV 0)) (cAnd (cNot (cIsi "bool" (cV 0))) (cOp dGeA (cV 0) (cK (.int 0))))))
def F_is_count : Fn := runFn fin 1 c_is_count
def c_is_part : Sc := (sSeq (sIf (tOrC (tNotC (cTru (cIsi "tuple" (cV 0)))) (tOrC (cTr (cOp dEq (cV 0) (cTup aNil))) (tNotC (cTru (cB bAll (aCons (cLc (iV (cV 0)) (bN 3) [3] cYes (cAnd (cCall 1 F_is_count (aCons (cV 3) aNil)) (cOp dLt (cV 3) (cV 1)))) aNil)))))) (sRet (cK (.bool false))) sSkip)
  (sRet (cB bAll (aCons (cLc (iR1 (aCons (cOp dSub (cB bLen (aCons (cV 0) aNil)) (cK (.int 1))) aNil)) (bN 2) [2] cYes (cOp dLt (cOp dIx (cV 0) (cV 2)) (cOp dIx (cV 0) (cOp dAdd (cV 2) (cK (.int 1)))))) aNil))))
def F_is_part : Fn := runFn fin 4 c_is_part
def c_check_family : Sc := (sSeq (sIf (tOrC (tNotC (cTru (cCall 1 F_is_count (aCons (cV 0) aNil)))) (tNotC (cTru (cIsi "tuple" (cV 1))))) (sRaise "InvalidFamily" (cK .none)) sSkip)
  (sFor (iR1 (aCons (cB bLen (aCons (cV 1) aNil)) aNil)) (bN 2) (sIf (tNotC (cTru (cCall 2 F_is_part (aCons (cOp dIx (cV 1) (cV 2)) (aCons (cV 0) aNil))))) (sRaise "InvalidFamily" (cV 2)) sSkip)))
def F_check_family : Fn := runFn fin 3 c_check_family
def c_is_whole : Sc := (sRet (cAnd (cIsi "int" (cV 0)) (cNot (cIsi "bool" (cV 0)))))
def F_is_whole : Fn := runFn fin 1 c_is_whole
def c_is_signs : Sc := (sRet (cAnd (cIsi "tuple" (cV 0)) (cAnd (cOp dEq (cB bLen (aCons (cV 0) aNil)) (cV 1)) (cB bAll (aCons (cLc (iV (cV 0)) (bN 2) [2] cYes (cAnd (cCall 1 F_is_whole (aCons (cV 2) aNil)) (cOp dIn (cV 2) (cTup (aCons (cK (.int 1)) (aCons (cUn dNeg (cK (.int 1))) aNil)))))) aNil)))))
def F_is_signs : Fn := runFn fin 3 c_is_signs
def c_check_signs : Sc := (sIf (tNotC (cTru (cCall 2 F_is_signs (aCons (cV 1) (aCons (cV 0) aNil))))) (sRaise "InvalidRow" (cK .none)) sSkip)
def F_check_signs : Fn := runFn fin 2 c_check_signs
def c_is_whole_table : Sc := (sSeq (sIf (tOrC (tNotC (cTru (cIsi "tuple" (cV 0)))) (tNotC (cTru (cB bAll (aCons (cLc (iV (cV 0)) (bN 1) [1] cYes (cIsi "tuple" (cV 1))) aNil))))) (sRet (cK (.bool false))) sSkip)
  (sSeq (sIf (tNotC (cTru (cB bAll (aCons (cLc (iV (cV 0)) (bN 1) [1] cYes (cOp dEq (cB bLen (aCons (cV 1) aNil)) (cB bLen (aCons (cOp dIx (cV 0) (cK (.int 0))) aNil)))) aNil)))) (sRet (cK (.bool false))) sSkip)
  (sRet (cB bAll (aCons (cLc2 (iV (cV 0)) (bN 1) [1, 2] cYes (iV (cV 1)) (bN 2) [2] cYes (cCall 1 F_is_whole (aCons (cV 2) aNil))) aNil)))))
def F_is_whole_table : Fn := runFn fin 3 c_is_whole_table
def c_check_whole_table : Sc := (sIf (tNotC (cTru (cCall 1 F_is_whole_table (aCons (cV 0) aNil)))) (sRaise "InvalidTable" (cK .none)) sSkip)
def F_check_whole_table : Fn := runFn fin 1 c_check_whole_table
def c_check_places : Sc := (sFor (iR1 (aCons (cB bLen (aCons (cV 0) aNil)) aNil)) (bN 1) (sSeq (sSet 2 (cOp dIx (cV 0) (cV 1)))
  (sSeq (sIf (tOrC (tNotC (cTru (cIsi "tuple" (cV 2)))) (tOrC (cTr (cOp dNe (cB bLen (aCons (cV 2) aNil)) (cK (.int 2)))) (tOrC (tNotC (cTru (cCall 1 F_is_count (aCons (cOp dIx (cV 2) (cK (.int 0))) aNil)))) (tNotC (cTru (cCall 1 F_is_count (aCons (cOp dIx (cV 2) (cK (.int 1))) aNil))))))) (sRaise "InvalidTable" (cV 1)) sSkip)
  (sIf (tAndC (cTr (cOp dGt (cV 1) (cK (.int 0)))) (cTr (cOp dGeA (cOp dIx (cV 0) (cOp dSub (cV 1) (cK (.int 1)))) (cV 2)))) (sRaise "InvalidTable" (cV 1)) sSkip))))
def F_check_places : Fn := runFn fin 3 c_check_places
def c_arrow_table : Sc := (sSeq (sFor (iR1 (aCons (cB bLen (aCons (cV 1) aNil)) aNil)) (bN 2) (sSeq (sSet 3 (cOp dIx (cV 1) (cV 2)))
  (sSeq (sIf (tOrC (tNotC (cTru (cIsi "tuple" (cV 3)))) (tOrC (cTr (cOp dNe (cB bLen (aCons (cV 3) aNil)) (cK (.int 2)))) (tNotC (cTru (cB bAll (aCons (cLc (iV (cV 3)) (bN 5) [5] cYes (cAnd (cCall 1 F_is_count (aCons (cV 5) aNil)) (cOp dLt (cV 5) (cV 0)))) aNil)))))) (sRaise "InvalidWeb" (cV 2)) sSkip)
  (sIf (cTr (cOp dEq (cOp dIx (cV 3) (cK (.int 0))) (cOp dIx (cV 3) (cK (.int 1))))) (sRaise "InvalidWeb" (cV 2)) sSkip))))
  (sRet (cB bTup (aCons (cLc (iV (cV 1)) (bP 4 5) [4, 5] cYes (cB bTup (aCons (cLc (iR1 (aCons (cV 0) aNil)) (bN 6) [6] cYes (cOp dSub (cB bInt (aCons (cOp dEq (cV 6) (cV 4)) aNil)) (cB bInt (aCons (cOp dEq (cV 6) (cV 5)) aNil)))) aNil))) aNil))))
def F_arrow_table : Fn := runFn fin 7 c_arrow_table
def c__law_call : Sc := (sSeq (sTry (sIf (cTr (cOp dEq (cV 0) (cK (.str "family")))) (sExpr (cCall 2 F_check_family (aCons (cV 1) (aCons (cV 2) aNil)))) (sIf (cTr (cOp dEq (cV 0) (cK (.str "signs")))) (sExpr (cCall 2 F_check_signs (aCons (cV 1) (aCons (cV 2) aNil)))) (sIf (cTr (cOp dEq (cV 0) (cK (.str "table")))) (sExpr (cCall 1 F_check_whole_table (aCons (cV 1) aNil))) (sIf (cTr (cOp dEq (cV 0) (cK (.str "places")))) (sExpr (cCall 1 F_check_places (aCons (cV 1) aNil))) (sExpr (cCall 2 F_arrow_table (aCons (cV 1) (aCons (cV 2) aNil)))))))) (("EvensplitsError", some 3, fun cn pl => (sRet (cTup (aCons (cXf 3 (.str cn)) (aCons (cXf 3 pl) aNil))))) :: []))
  (sRet (cK .none)))
def F__law_call : Fn := runFn fin 4 c__law_call
def c__law_same (Φ : Fn) : Sc := (sSeq (sIf (cTr (cOp dIs (cV 1) (cK .none))) (sRet (cOp dIs (cV 0) (cK .none))) sSkip)
  (sSeq (sIf (cTru (cIsi "bool" (cV 1))) (sRet (cAnd (cIsi "bool" (cV 0)) (cOp dEq (cV 0) (cV 1)))) sSkip)
  (sSeq (sIf (cTru (cIsi "int" (cV 1))) (sRet (cAnd (cIsi "int" (cV 0)) (cAnd (cNot (cIsi "bool" (cV 0))) (cOp dEq (cV 0) (cV 1))))) sSkip)
  (sSeq (sIf (cTru (cIsi "str" (cV 1))) (sRet (cAnd (cIsi "str" (cV 0)) (cOp dEq (cV 0) (cV 1)))) sSkip)
  (sSeq (sIf (tOrC (tAndC (cTru (cIsi "list" (cV 1))) (tNotC (cTru (cIsi "list" (cV 0))))) (tAndC (cTru (cIsi "tuple" (cV 1))) (tNotC (cTru (cIsi "tuple" (cV 0)))))) (sRet (cK (.bool false))) sSkip)
  (sRet (cAnd (cOp dEq (cB bLen (aCons (cV 0) aNil)) (cB bLen (aCons (cV 1) aNil))) (cOp dEq (cLc (iR1 (aCons (cB bLen (aCons (cV 1) aNil)) aNil)) (bN 2) [2] (tNotC (cTru (cCall 2 Φ (aCons (cOp dIx (cV 0) (cV 2)) (aCons (cOp dIx (cV 1) (cV 2)) aNil))))) (cK (.int 1))) (cLst aNil)))))))))
def F__law_same : Nat → Fn
  | 0 => fun _ _ => .stuck
  | d + 1 => runFn fin 3 (c__law_same (F__law_same d))
def c__law_least : Sc := (sSeq (sPar 2 3 (cB bAbs (aCons (cV 1) aNil)) (cB bAbs (aCons (cV 0) aNil)))
  (sSeq (sWh (cTr (cOp dNe (cV 3) (cK (.int 0)))) (sPar 2 3 (cV 3) (cOp dMod (cB bInt (aCons (cV 2) aNil)) (cV 3))))
  (sSeq (sIf (cTr (cOp dLt (cV 1) (cK (.int 0)))) (sSet 2 (cOp dSub (cK (.int 0)) (cV 2))) sSkip)
  (sRet (cTup (aCons (cOp dDivN (cV 0) (cV 2)) (aCons (cOp dDivN (cV 1) (cV 2)) aNil)))))))
def F__law_least : Fn := runFn fin 4 c__law_least
def c_made : Sc := (sSeq (sPar 3 4 (cB bAbs (aCons (cV 1) aNil)) (cB bAbs (aCons (cV 0) aNil)))
  (sSeq (sWh (cTr (cOp dGt (cV 4) (cK (.int 0)))) (sPar 3 4 (cV 4) (cOp dMod (cB bInt (aCons (cV 3) aNil)) (cV 4))))
  (sSeq (sSet 2 (cIf (cTr (cOp dGt (cV 1) (cK (.int 0)))) (cK (.int 1)) (cUn dNeg (cK (.int 1)))))
  (sRet (cTup (aCons (cOp dDivN (cOp dMulB (cV 2) (cV 0)) (cV 3)) (aCons (cOp dDivN (cOp dMulB (cV 2) (cV 1)) (cV 3)) aNil)))))))
def F_made : Fn := runFn fin 5 c_made
def c_plus_f : Sc := (sRet (cCall 2 F_made (aCons (cOp dAdd (cOp dMulB (cOp dIx (cV 0) (cK (.int 0))) (cOp dIx (cV 1) (cK (.int 1)))) (cOp dMulB (cOp dIx (cV 1) (cK (.int 0))) (cOp dIx (cV 0) (cK (.int 1))))) (aCons (cOp dMulB (cOp dIx (cV 0) (cK (.int 1))) (cOp dIx (cV 1) (cK (.int 1)))) aNil))))
def F_plus_f : Fn := runFn fin 2 c_plus_f
def c_sum_f : Sc := (sSeq (sSet 1 (cTup (aCons (cK (.int 0)) (aCons (cK (.int 1)) aNil))))
  (sSeq (sFor (iV (cV 0)) (bN 2) (sSet 1 (cCall 2 F_plus_f (aCons (cV 1) (aCons (cV 2) aNil)))))
  (sRet (cV 1))))
def F_sum_f : Fn := runFn fin 3 c_sum_f
def c_is_fraction : Sc := (sSeq (sIf (tOrC (tNotC (cTru (cIsi "tuple" (cV 0)))) (cTr (cOp dNe (cB bLen (aCons (cV 0) aNil)) (cK (.int 2))))) (sRet (cK (.bool false))) sSkip)
  (sSeq (sIf (tNotC (cTru (cB bAll (aCons (cLc (iV (cV 0)) (bN 1) [1] cYes (cAnd (cIsi "int" (cV 1)) (cNot (cIsi "bool" (cV 1))))) aNil)))) (sRet (cK (.bool false))) sSkip)
  (sRet (cAnd (cOp dGt (cOp dIx (cV 0) (cK (.int 1))) (cK (.int 0))) (cOp dEq (cCall 2 F_made (aCons (cOp dIx (cV 0) (cK (.int 0))) (aCons (cOp dIx (cV 0) (cK (.int 1))) aNil))) (cV 0))))))
def F_is_fraction : Fn := runFn fin 2 c_is_fraction
def c_minus_f : Sc := (sRet (cCall 2 F_made (aCons (cOp dSub (cOp dMulB (cOp dIx (cV 0) (cK (.int 0))) (cOp dIx (cV 1) (cK (.int 1)))) (cOp dMulB (cOp dIx (cV 1) (cK (.int 0))) (cOp dIx (cV 0) (cK (.int 1))))) (aCons (cOp dMulB (cOp dIx (cV 0) (cK (.int 1))) (cOp dIx (cV 1) (cK (.int 1)))) aNil))))
def F_minus_f : Fn := runFn fin 2 c_minus_f
def c_times_f : Sc := (sRet (cCall 2 F_made (aCons (cOp dMulB (cOp dIx (cV 0) (cK (.int 0))) (cOp dIx (cV 1) (cK (.int 0)))) (aCons (cOp dMulB (cOp dIx (cV 0) (cK (.int 1))) (cOp dIx (cV 1) (cK (.int 1)))) aNil))))
def F_times_f : Fn := runFn fin 2 c_times_f
def c_below_f : Sc := (sRet (cOp dLt (cOp dMulB (cOp dIx (cV 0) (cK (.int 0))) (cOp dIx (cV 1) (cK (.int 1)))) (cOp dMulB (cOp dIx (cV 1) (cK (.int 0))) (cOp dIx (cV 0) (cK (.int 1))))))
def F_below_f : Fn := runFn fin 2 c_below_f
def c_size_f : Sc := (sRet (cTup (aCons (cB bAbs (aCons (cOp dIx (cV 0) (cK (.int 0))) aNil)) (aCons (cOp dIx (cV 0) (cK (.int 1))) aNil))))
def F_size_f : Fn := runFn fin 1 c_size_f
def c_over_f : Sc := (sRet (cCall 2 F_made (aCons (cOp dMulB (cOp dIx (cV 0) (cK (.int 0))) (cOp dIx (cV 1) (cK (.int 1)))) (aCons (cOp dMulB (cOp dIx (cV 0) (cK (.int 1))) (cOp dIx (cV 1) (cK (.int 0)))) aNil))))
def F_over_f : Fn := runFn fin 2 c_over_f
@[irreducible] def p_fractions_1 : Sc := (sSet 1 (cOp dSub (cCall 2 F__law_pick (aCons (cV 0) (aCons (cK (.int 41)) aNil))) (cK (.int 20))))
@[irreducible] def p_fractions_2 : Sc := (sSet 2 (cOp dAdd (cK (.int 1)) (cCall 2 F__law_pick (aCons (cV 0) (aCons (cK (.int 20)) aNil)))))
@[irreducible] def p_fractions_3 : Sc := (sSet 3 (cOp dSub (cCall 2 F__law_pick (aCons (cV 0) (aCons (cK (.int 41)) aNil))) (cK (.int 20))))
@[irreducible] def p_fractions_4 : Sc := (sSet 4 (cOp dAdd (cK (.int 1)) (cCall 2 F__law_pick (aCons (cV 0) (aCons (cK (.int 20)) aNil)))))
@[irreducible] def p_fractions_5 : Sc := (sSet 5 (cCall 2 F__law_least (aCons (cV 1) (aCons (cV 2) aNil))))
@[irreducible] def p_fractions_6 : Sc := (sSet 6 (cCall 2 F__law_least (aCons (cV 3) (aCons (cV 4) aNil))))
@[irreducible] def p_fractions_7_t : Cd Bool := (tOrC (tNotC (cTru (cCall 2 (F__law_same 30) (aCons (cCall 2 F_made (aCons (cV 1) (aCons (cOp dSub (cK (.int 0)) (cV 2)) aNil))) (aCons (cCall 2 F__law_least (aCons (cV 1) (aCons (cOp dSub (cK (.int 0)) (cV 2)) aNil))) aNil))))) (tNotC (cTru (cCall 2 (F__law_same 30) (aCons (cCall 2 F_plus_f (aCons (cV 5) (aCons (cV 6) aNil))) (aCons (cCall 2 F__law_least (aCons (cOp dAdd (cOp dMulB (cV 1) (cV 4)) (cOp dMulB (cV 3) (cV 2))) (aCons (cOp dMulB (cV 2) (cV 4)) aNil))) aNil))))))
@[irreducible] def p_fractions_7 : Sc := (sIf p_fractions_7_t (sRet (cK (.bool false))) sSkip)
@[irreducible] def p_fractions_8_t : Cd Bool := (tOrC (tNotC (cTru (cCall 2 (F__law_same 30) (aCons (cCall 2 F_minus_f (aCons (cV 5) (aCons (cV 6) aNil))) (aCons (cCall 2 F__law_least (aCons (cOp dSub (cOp dMulB (cV 1) (cV 4)) (cOp dMulB (cV 3) (cV 2))) (aCons (cOp dMulB (cV 2) (cV 4)) aNil))) aNil))))) (tNotC (cTru (cCall 2 (F__law_same 30) (aCons (cCall 2 F_times_f (aCons (cV 5) (aCons (cV 6) aNil))) (aCons (cCall 2 F__law_least (aCons (cOp dMulB (cV 1) (cV 3)) (aCons (cOp dMulB (cV 2) (cV 4)) aNil))) aNil))))))
@[irreducible] def p_fractions_8 : Sc := (sIf p_fractions_8_t (sRet (cK (.bool false))) sSkip)
@[irreducible] def p_fractions_9_t : Cd Bool := (tOrC (tAndC (cTr (cOp dNe (cV 3) (cK (.int 0)))) (tNotC (cTru (cCall 2 (F__law_same 30) (aCons (cCall 2 F_over_f (aCons (cV 5) (aCons (cV 6) aNil))) (aCons (cCall 2 F__law_least (aCons (cOp dMulB (cV 1) (cV 4)) (aCons (cOp dMulB (cV 2) (cV 3)) aNil))) aNil)))))) (tNotC (cTru (cCall 2 (F__law_same 30) (aCons (cCall 2 F_below_f (aCons (cV 5) (aCons (cV 6) aNil))) (aCons (cOp dLt (cOp dMulB (cV 1) (cV 4)) (cOp dMulB (cV 3) (cV 2))) aNil))))))
@[irreducible] def p_fractions_9 : Sc := (sIf p_fractions_9_t (sRet (cK (.bool false))) sSkip)
@[irreducible] def p_fractions_10_t : Cd Bool := (tOrC (cTr (cOp dNe (cCall 1 F_sum_f (aCons (cLst aNil) aNil)) (cTup (aCons (cK (.int 0)) (aCons (cK (.int 1)) aNil))))) (tOrC (tNotC (cTru (cCall 2 (F__law_same 30) (aCons (cCall 1 F_sum_f (aCons (cLst (aCons (cV 5) (aCons (cV 6) (aCons (cV 6) aNil)))) aNil)) (aCons (cCall 2 F__law_least (aCons (cOp dAdd (cOp dMulB (cV 1) (cV 4)) (cOp dMulB (cOp dMulB (cK (.int 2)) (cV 3)) (cV 2))) (aCons (cOp dMulB (cV 2) (cV 4)) aNil))) aNil))))) (tNotC (cTru (cCall 2 (F__law_same 30) (aCons (cCall 1 F_size_f (aCons (cV 5) aNil)) (aCons (cCall 2 F__law_least (aCons (cB bAbs (aCons (cV 1) aNil)) (aCons (cV 2) aNil))) aNil)))))))
@[irreducible] def p_fractions_10 : Sc := (sIf p_fractions_10_t (sRet (cK (.bool false))) sSkip)
@[irreducible] def p_fractions_11 : Sc := (sRet (cOp dEq (cLc (iV (cLst (aCons (cV 5) (aCons (cTup (aCons (cK (.int 2)) (aCons (cK (.int 4)) aNil))) (aCons (cTup (aCons (cK (.int 1)) (aCons (cK (.int 0)) aNil))) (aCons (cTup (aCons (cK (.int 1)) (aCons (cUn dNeg (cK (.int 2))) aNil))) (aCons (cLst (aCons (cK (.int 1)) (aCons (cK (.int 2)) aNil))) (aCons (cTup (aCons (cK (.bool true)) (aCons (cK (.int 2)) aNil))) (aCons (cK .none) (aCons (cTup (aCons (cK (.int 0)) (aCons (cK (.int 2)) aNil))) aNil)))))))))) (bN 7) [7] cYes (cCall 1 F_is_fraction (aCons (cV 7) aNil))) (cOp dAdd (cLst (aCons (cK (.bool true)) aNil)) (cOp dMulB (cLst (aCons (cK (.bool false)) aNil)) (cK (.int 7))))))
def c__law_fractions : Sc := (sSeq (sSet 1 (cOp dSub (cCall 2 F__law_pick (aCons (cV 0) (aCons (cK (.int 41)) aNil))) (cK (.int 20))))
  (sSeq (sSet 2 (cOp dAdd (cK (.int 1)) (cCall 2 F__law_pick (aCons (cV 0) (aCons (cK (.int 20)) aNil)))))
  (sSeq (sSet 3 (cOp dSub (cCall 2 F__law_pick (aCons (cV 0) (aCons (cK (.int 41)) aNil))) (cK (.int 20))))
  (sSeq (sSet 4 (cOp dAdd (cK (.int 1)) (cCall 2 F__law_pick (aCons (cV 0) (aCons (cK (.int 20)) aNil)))))
  (sSeq (sSet 5 (cCall 2 F__law_least (aCons (cV 1) (aCons (cV 2) aNil))))
  (sSeq (sSet 6 (cCall 2 F__law_least (aCons (cV 3) (aCons (cV 4) aNil))))
  (sSeq (sIf (tOrC (tNotC (cTru (cCall 2 (F__law_same 30) (aCons (cCall 2 F_made (aCons (cV 1) (aCons (cOp dSub (cK (.int 0)) (cV 2)) aNil))) (aCons (cCall 2 F__law_least (aCons (cV 1) (aCons (cOp dSub (cK (.int 0)) (cV 2)) aNil))) aNil))))) (tNotC (cTru (cCall 2 (F__law_same 30) (aCons (cCall 2 F_plus_f (aCons (cV 5) (aCons (cV 6) aNil))) (aCons (cCall 2 F__law_least (aCons (cOp dAdd (cOp dMulB (cV 1) (cV 4)) (cOp dMulB (cV 3) (cV 2))) (aCons (cOp dMulB (cV 2) (cV 4)) aNil))) aNil)))))) (sRet (cK (.bool false))) sSkip)
  (sSeq (sIf (tOrC (tNotC (cTru (cCall 2 (F__law_same 30) (aCons (cCall 2 F_minus_f (aCons (cV 5) (aCons (cV 6) aNil))) (aCons (cCall 2 F__law_least (aCons (cOp dSub (cOp dMulB (cV 1) (cV 4)) (cOp dMulB (cV 3) (cV 2))) (aCons (cOp dMulB (cV 2) (cV 4)) aNil))) aNil))))) (tNotC (cTru (cCall 2 (F__law_same 30) (aCons (cCall 2 F_times_f (aCons (cV 5) (aCons (cV 6) aNil))) (aCons (cCall 2 F__law_least (aCons (cOp dMulB (cV 1) (cV 3)) (aCons (cOp dMulB (cV 2) (cV 4)) aNil))) aNil)))))) (sRet (cK (.bool false))) sSkip)
  (sSeq (sIf (tOrC (tAndC (cTr (cOp dNe (cV 3) (cK (.int 0)))) (tNotC (cTru (cCall 2 (F__law_same 30) (aCons (cCall 2 F_over_f (aCons (cV 5) (aCons (cV 6) aNil))) (aCons (cCall 2 F__law_least (aCons (cOp dMulB (cV 1) (cV 4)) (aCons (cOp dMulB (cV 2) (cV 3)) aNil))) aNil)))))) (tNotC (cTru (cCall 2 (F__law_same 30) (aCons (cCall 2 F_below_f (aCons (cV 5) (aCons (cV 6) aNil))) (aCons (cOp dLt (cOp dMulB (cV 1) (cV 4)) (cOp dMulB (cV 3) (cV 2))) aNil)))))) (sRet (cK (.bool false))) sSkip)
  (sSeq (sIf (tOrC (cTr (cOp dNe (cCall 1 F_sum_f (aCons (cLst aNil) aNil)) (cTup (aCons (cK (.int 0)) (aCons (cK (.int 1)) aNil))))) (tOrC (tNotC (cTru (cCall 2 (F__law_same 30) (aCons (cCall 1 F_sum_f (aCons (cLst (aCons (cV 5) (aCons (cV 6) (aCons (cV 6) aNil)))) aNil)) (aCons (cCall 2 F__law_least (aCons (cOp dAdd (cOp dMulB (cV 1) (cV 4)) (cOp dMulB (cOp dMulB (cK (.int 2)) (cV 3)) (cV 2))) (aCons (cOp dMulB (cV 2) (cV 4)) aNil))) aNil))))) (tNotC (cTru (cCall 2 (F__law_same 30) (aCons (cCall 1 F_size_f (aCons (cV 5) aNil)) (aCons (cCall 2 F__law_least (aCons (cB bAbs (aCons (cV 1) aNil)) (aCons (cV 2) aNil))) aNil))))))) (sRet (cK (.bool false))) sSkip)
  (sRet (cOp dEq (cLc (iV (cLst (aCons (cV 5) (aCons (cTup (aCons (cK (.int 2)) (aCons (cK (.int 4)) aNil))) (aCons (cTup (aCons (cK (.int 1)) (aCons (cK (.int 0)) aNil))) (aCons (cTup (aCons (cK (.int 1)) (aCons (cUn dNeg (cK (.int 2))) aNil))) (aCons (cLst (aCons (cK (.int 1)) (aCons (cK (.int 2)) aNil))) (aCons (cTup (aCons (cK (.bool true)) (aCons (cK (.int 2)) aNil))) (aCons (cK .none) (aCons (cTup (aCons (cK (.int 0)) (aCons (cK (.int 2)) aNil))) aNil)))))))))) (bN 7) [7] cYes (cCall 1 F_is_fraction (aCons (cV 7) aNil))) (cOp dAdd (cLst (aCons (cK (.bool true)) aNil)) (cOp dMulB (cLst (aCons (cK (.bool false)) aNil)) (cK (.int 7))))))))))))))))
def d__law_fractions : Sc := (sSeq p_fractions_1 (sSeq p_fractions_2 (sSeq p_fractions_3 (sSeq p_fractions_4 (sSeq p_fractions_5 (sSeq p_fractions_6 (sSeq p_fractions_7 (sSeq p_fractions_8 (sSeq p_fractions_9 (sSeq p_fractions_10 p_fractions_11))))))))))
theorem split__law_fractions : c__law_fractions = d__law_fractions := by kernel_rfl
def F__law_fractions : Fn := runFn fin 8 c__law_fractions
def c__law_raise : Sc := (sSeq (sIf (cTr (cOp dEq (cV 0) (cK (.int 0)))) (sRaise "InvalidFamily" (cV 1)) sSkip)
  (sSeq (sIf (cTr (cOp dEq (cV 0) (cK (.int 1)))) (sRaise "InvalidPaper" (cV 1)) sSkip)
  (sSeq (sIf (cTr (cOp dEq (cV 0) (cK (.int 2)))) (sRaise "InvalidRow" (cV 1)) sSkip)
  (sSeq (sIf (cTr (cOp dEq (cV 0) (cK (.int 3)))) (sRaise "InvalidTable" (cV 1)) sSkip)
  (sSeq (sIf (cTr (cOp dEq (cV 0) (cK (.int 4)))) (sRaise "InvalidText" (cV 1)) sSkip)
  (sSeq (sIf (cTr (cOp dEq (cV 0) (cK (.int 5)))) (sRaise "InvalidWeb" (cV 1)) sSkip)
  (sSeq (sIf (cTr (cOp dEq (cV 0) (cK (.int 6)))) (sRaise "TooLarge" (cV 1)) sSkip)
  (sIf (cTr (cOp dEq (cV 0) (cK (.int 7)))) (sRaise "EvensplitsError" (cV 1)) sSkip))))))))
def F__law_raise : Fn := runFn fin 2 c__law_raise
def c__law_forwards : Sc := (sTry (sExpr (cCall 2 F__law_raise (aCons (cV 0) (aCons (cV 1) aNil)))) (("InvalidFamily", none, fun cn pl => (sRet (cK (.str "InvalidFamily")))) :: (("InvalidPaper", none, fun cn pl => (sRet (cK (.str "InvalidPaper")))) :: (("InvalidRow", none, fun cn pl => (sRet (cK (.str "InvalidRow")))) :: (("InvalidTable", none, fun cn pl => (sRet (cK (.str "InvalidTable")))) :: (("InvalidText", none, fun cn pl => (sRet (cK (.str "InvalidText")))) :: (("InvalidWeb", none, fun cn pl => (sRet (cK (.str "InvalidWeb")))) :: (("TooLarge", none, fun cn pl => (sRet (cK (.str "TooLarge")))) :: (("EvensplitsError", none, fun cn pl => (sRet (cK (.str "EvensplitsError")))) :: [])))))))))
def F__law_forwards : Fn := runFn fin 2 c__law_forwards
def c__law_backwards : Sc := (sTry (sExpr (cCall 2 F__law_raise (aCons (cV 0) (aCons (cV 1) aNil)))) (("TooLarge", none, fun cn pl => (sRet (cK (.str "TooLarge")))) :: (("InvalidWeb", none, fun cn pl => (sRet (cK (.str "InvalidWeb")))) :: (("InvalidText", none, fun cn pl => (sRet (cK (.str "InvalidText")))) :: (("InvalidTable", none, fun cn pl => (sRet (cK (.str "InvalidTable")))) :: (("InvalidRow", none, fun cn pl => (sRet (cK (.str "InvalidRow")))) :: (("InvalidPaper", none, fun cn pl => (sRet (cK (.str "InvalidPaper")))) :: (("InvalidFamily", none, fun cn pl => (sRet (cK (.str "InvalidFamily")))) :: (("EvensplitsError", none, fun cn pl => (sRet (cK (.str "EvensplitsError")))) :: [])))))))))
def F__law_backwards : Fn := runFn fin 2 c__law_backwards
def c__law_caught : Sc := (sSeq (sTry (sExpr (cCall 2 F__law_raise (aCons (cV 0) (aCons (cV 1) aNil)))) (("EvensplitsError", some 2, fun cn pl => (sIf (cTru (cIsE 2 true)) (sRet (cTup (aCons (cXf 2 pl) (aCons (cXf 2 (.str cn)) aNil)))) sSkip)) :: []))
  (sRet (cK .none)))
def F__law_caught : Fn := runFn fin 3 c__law_caught
@[irreducible] def l_1 : Sc := (sSet 1 (cCall 1 F__law_start (aCons (cV 0) aNil)))
@[irreducible] def l_2_a : Cd Val := (cLst (aCons (cCall 2 F__law_pick (aCons (cV 1) (aCons (cK (.int 100)) aNil))) (aCons (cTup (aCons (cK (.int 1)) (aCons (cK (.int 2)) aNil))) (aCons (cK .none) (aCons (cK (.str "a")) aNil)))))
@[irreducible] def l_2 : Sc := (sSet 2 (cOp dIx l_2_a (cCall 2 F__law_pick (aCons (cV 1) (aCons (cK (.int 4)) aNil)))))
@[irreducible] def l_3 : Sc := (sSet 3 (cLst (aCons (cK (.str "InvalidFamily")) (aCons (cK (.str "InvalidPaper")) (aCons (cK (.str "InvalidRow")) (aCons (cK (.str "InvalidTable")) (aCons (cK (.str "InvalidText")) (aCons (cK (.str "InvalidWeb")) (aCons (cK (.str "TooLarge")) (aCons (cK (.str "EvensplitsError")) aNil))))))))))
@[irreducible] def l_4_b : Sc := (sSeq (sIf (tOrC (cTr (cOp dNe (cCall 2 F__law_forwards (aCons (cV 4) (aCons (cV 2) aNil))) (cOp dIx (cV 3) (cV 4)))) (cTr (cOp dNe (cCall 2 F__law_backwards (aCons (cV 4) (aCons (cV 2) aNil))) (cOp dIx (cV 3) (cV 4))))) (sRet (cK (.bool false))) sSkip)
  (sIf (tNotC (cTru (cCall 2 (F__law_same 30) (aCons (cCall 2 F__law_caught (aCons (cV 4) (aCons (cV 2) aNil))) (aCons (cTup (aCons (cV 2) (aCons (cOp dIx (cV 3) (cV 4)) aNil))) aNil))))) (sRet (cK (.bool false))) sSkip))
@[irreducible] def l_4 : Sc := (sFor (iR1 (aCons (cK (.int 8)) aNil)) (bN 4) l_4_b)
@[irreducible] def l_5 : Sc := (sSet 5 (cOp dAdd (cK (.int 2)) (cCall 2 F__law_pick (aCons (cV 1) (aCons (cK (.int 4)) aNil)))))
@[irreducible] def l_6 : Sc := (sSet 6 (cSl (cTup (aCons (cTup (aCons (cK (.int 0)) (aCons (cK (.int 1)) aNil))) (aCons (cTup (aCons (cOp dSub (cV 5) (cK (.int 1))) aNil)) (aCons (cTup (aCons (cK (.int 0)) (aCons (cK (.int 1)) aNil))) aNil)))) cNo (cPart (cCall 2 F__law_pick (aCons (cV 1) (aCons (cK (.int 4)) aNil))))))
@[irreducible] def l_7 : Sc := (sSet 7 (cCall 2 F__law_pick (aCons (cV 1) (aCons (cOp dAdd (cB bLen (aCons (cV 6) aNil)) (cK (.int 1))) aNil))))
@[irreducible] def l_8_a : Cd Val := (cLst (aCons (cTup aNil) (aCons (cTup (aCons (cK (.int 0)) (aCons (cV 5) aNil))) (aCons (cTup (aCons (cK (.int 1)) (aCons (cK (.int 0)) aNil))) (aCons (cTup (aCons (cK (.int 0)) (aCons (cK (.int 0)) aNil))) (aCons (cLst (aCons (cK (.int 0)) (aCons (cK (.int 1)) aNil))) (aCons (cK .none) (aCons (cTup (aCons (cK (.bool true)) aNil)) (aCons (cTup (aCons (cUn dNeg (cK (.int 1))) (aCons (cK (.int 0)) aNil))) aNil)))))))))
@[irreducible] def l_8 : Sc := (sSet 8 (cOp dIx l_8_a (cCall 2 F__law_pick (aCons (cV 1) (aCons (cK (.int 8)) aNil)))))
@[irreducible] def l_9_t : Cd Bool := (tOrC (cTr (cOp dIsNot (cCall 3 F__law_call (aCons (cK (.str "family")) (aCons (cV 5) (aCons (cV 6) aNil)))) (cK .none))) (tNotC (cTru (cCall 2 (F__law_same 30) (aCons (cCall 3 F__law_call (aCons (cK (.str "family")) (aCons (cV 5) (aCons (cOp dAdd (cOp dAdd (cSl (cV 6) cNo (cPart (cV 7))) (cTup (aCons (cV 8) aNil))) (cSl (cV 6) (cPart (cV 7)) cNo)) aNil)))) (aCons (cTup (aCons (cK (.str "InvalidFamily")) (aCons (cV 7) aNil))) aNil))))))
@[irreducible] def l_9 : Sc := (sIf l_9_t (sRet (cK (.bool false))) sSkip)
@[irreducible] def l_10 : Sc := (sSet 9 (cLst (aCons (cCall 3 F__law_call (aCons (cK (.str "family")) (aCons (cUn dNeg (cK (.int 1))) (aCons (cTup aNil) aNil)))) (aCons (cCall 3 F__law_call (aCons (cK (.str "family")) (aCons (cK (.bool true)) (aCons (cTup aNil) aNil)))) (aCons (cCall 3 F__law_call (aCons (cK (.str "family")) (aCons (cV 5) (aCons (cB bLst (aCons (cV 6) aNil)) aNil)))) (aCons (cCall 3 F__law_call (aCons (cK (.str "family")) (aCons (cK .none) (aCons (cV 6) aNil)))) aNil))))))
@[irreducible] def l_11_t : Cd Bool := (tNotC (cTru (cCall 2 (F__law_same 30) (aCons (cV 9) (aCons (cOp dMulB (cLst (aCons (cTup (aCons (cK (.str "InvalidFamily")) (aCons (cK .none) aNil))) aNil)) (cK (.int 4))) aNil)))))
@[irreducible] def l_11 : Sc := (sIf l_11_t (sRet (cK (.bool false))) sSkip)
@[irreducible] def l_12 : Sc := (sSet 10 (cB bTup (aCons (cLc (iR1 (aCons (cV 5) aNil)) (bN 4) [4] cYes (cOp dSub (cK (.int 1)) (cOp dMulB (cK (.int 2)) (cCall 2 F__law_pick (aCons (cV 1) (aCons (cK (.int 2)) aNil)))))) aNil)))
@[irreducible] def l_13_a : Cd Val := (cLst (aCons (cOp dAdd (cV 10) (cTup (aCons (cK (.int 1)) aNil))) (aCons (cSl (cV 10) (cPart (cK (.int 1))) cNo) (aCons (cB bLst (aCons (cV 10) aNil)) (aCons (cK .none) (aCons (cOp dAdd (cTup (aCons (cK (.int 0)) aNil)) (cSl (cV 10) (cPart (cK (.int 1))) cNo)) (aCons (cOp dAdd (cTup (aCons (cK (.bool true)) aNil)) (cSl (cV 10) (cPart (cK (.int 1))) cNo)) (aCons (cOp dAdd (cTup (aCons (cK (.int 2)) aNil)) (cSl (cV 10) (cPart (cK (.int 1))) cNo)) aNil))))))))
@[irreducible] def l_13 : Sc := (sSet 11 (cOp dIx l_13_a (cCall 2 F__law_pick (aCons (cV 1) (aCons (cK (.int 7)) aNil)))))
@[irreducible] def l_14_t : Cd Bool := (tOrC (cTr (cOp dIsNot (cCall 3 F__law_call (aCons (cK (.str "signs")) (aCons (cV 5) (aCons (cV 10) aNil)))) (cK .none))) (tNotC (cTru (cCall 2 (F__law_same 30) (aCons (cCall 3 F__law_call (aCons (cK (.str "signs")) (aCons (cV 5) (aCons (cV 11) aNil)))) (aCons (cTup (aCons (cK (.str "InvalidRow")) (aCons (cK .none) aNil))) aNil))))))
@[irreducible] def l_14 : Sc := (sIf l_14_t (sRet (cK (.bool false))) sSkip)
@[irreducible] def l_15 : Sc := (sSet 12 (cB bTup (aCons (cLc (iR1 (aCons (cCall 2 F__law_pick (aCons (cV 1) (aCons (cK (.int 3)) aNil))) aNil)) (bN 15) [15] cYes (cB bTup (aCons (cLc (iR1 (aCons (cV 5) aNil)) (bN 17) [17] cYes (cOp dSub (cCall 2 F__law_pick (aCons (cV 1) (aCons (cK (.int 5)) aNil))) (cK (.int 2)))) aNil))) aNil)))
@[irreducible] def l_16_a : Cd Val := (cLst (aCons (cOp dAdd (cV 12) (cTup (aCons (cOp dMulB (cTup (aCons (cK (.int 0)) aNil)) (cOp dAdd (cV 5) (cK (.int 1)))) (aCons (cOp dMulB (cTup (aCons (cK (.int 0)) aNil)) (cV 5)) aNil)))) (aCons (cB bLst (aCons (cV 12) aNil)) (aCons (cK .none) (aCons (cOp dAdd (cV 12) (cTup (aCons (cOp dMulB (cLst (aCons (cK (.int 0)) aNil)) (cV 5)) aNil))) (aCons (cOp dAdd (cV 12) (cTup (aCons (cOp dMulB (cTup (aCons (cK (.bool true)) aNil)) (cV 5)) aNil))) (aCons (cOp dAdd (cV 12) (cTup (aCons (cK .none) aNil))) aNil)))))))
@[irreducible] def l_16 : Sc := (sSet 11 (cOp dIx l_16_a (cCall 2 F__law_pick (aCons (cV 1) (aCons (cK (.int 6)) aNil)))))
@[irreducible] def l_17_t : Cd Bool := (tOrC (cTr (cOp dIsNot (cCall 3 F__law_call (aCons (cK (.str "table")) (aCons (cV 12) (aCons (cK .none) aNil)))) (cK .none))) (tNotC (cTru (cCall 2 (F__law_same 30) (aCons (cCall 3 F__law_call (aCons (cK (.str "table")) (aCons (cV 11) (aCons (cK .none) aNil)))) (aCons (cTup (aCons (cK (.str "InvalidTable")) (aCons (cK .none) aNil))) aNil))))))
@[irreducible] def l_17 : Sc := (sIf l_17_t (sRet (cK (.bool false))) sSkip)
@[irreducible] def l_18 : Sc := (sSet 13 (cSl (cTup (aCons (cTup (aCons (cK (.int 0)) (aCons (cK (.int 1)) aNil))) (aCons (cTup (aCons (cK (.int 0)) (aCons (cK (.int 2)) aNil))) (aCons (cTup (aCons (cK (.int 2)) (aCons (cK (.int 0)) aNil))) aNil)))) cNo (cPart (cCall 2 F__law_pick (aCons (cV 1) (aCons (cK (.int 4)) aNil))))))
@[irreducible] def l_19_a : Cd Val := (cLst (aCons (cTup (aCons (cK (.int 0)) aNil)) (aCons (cTup (aCons (cK (.int 0)) (aCons (cUn dNeg (cK (.int 1))) aNil))) (aCons (cLst (aCons (cK (.int 9)) (aCons (cK (.int 9)) aNil))) (aCons (cK .none) (aCons (cTup (aCons (cK (.bool true)) (aCons (cK (.int 9)) aNil))) (aCons (cTup (aCons (cK (.int 9)) (aCons (cK (.int 9)) (aCons (cK (.int 9)) aNil)))) (aCons (cTup (aCons (cUn dNeg (cK (.int 1))) (aCons (cK (.int 0)) aNil))) aNil))))))))
@[irreducible] def l_19 : Sc := (sSet 8 (cOp dIx l_19_a (cCall 2 F__law_pick (aCons (cV 1) (aCons (cK (.int 7)) aNil)))))
@[irreducible] def l_20_t : Cd Bool := (tOrC (cTr (cOp dIsNot (cCall 3 F__law_call (aCons (cK (.str "places")) (aCons (cV 13) (aCons (cK .none) aNil)))) (cK .none))) (tNotC (cTru (cCall 2 (F__law_same 30) (aCons (cCall 3 F__law_call (aCons (cK (.str "places")) (aCons (cOp dAdd (cV 13) (cTup (aCons (cV 8) aNil))) (aCons (cK .none) aNil)))) (aCons (cTup (aCons (cK (.str "InvalidTable")) (aCons (cB bLen (aCons (cV 13) aNil)) aNil))) aNil))))))
@[irreducible] def l_20 : Sc := (sIf l_20_t (sRet (cK (.bool false))) sSkip)
@[irreducible] def l_21_t : Cd Bool := (tAndC (cTr (cOp dNe (cV 13) (cTup aNil))) (tNotC (cTru (cCall 2 (F__law_same 30) (aCons (cCall 3 F__law_call (aCons (cK (.str "places")) (aCons (cOp dAdd (cV 13) (cSl (cV 13) (cPart (cUn dNeg (cK (.int 1)))) cNo)) (aCons (cK .none) aNil)))) (aCons (cTup (aCons (cK (.str "InvalidTable")) (aCons (cB bLen (aCons (cV 13) aNil)) aNil))) aNil))))))
@[irreducible] def l_21 : Sc := (sIf l_21_t (sRet (cK (.bool false))) sSkip)
@[irreducible] def l_22 : Sc := (sSet 14 (cSl (cTup (aCons (cTup (aCons (cK (.int 0)) (aCons (cK (.int 1)) aNil))) (aCons (cTup (aCons (cK (.int 1)) (aCons (cK (.int 0)) aNil))) (aCons (cTup (aCons (cOp dSub (cV 5) (cK (.int 1))) (aCons (cK (.int 0)) aNil))) aNil)))) cNo (cPart (cCall 2 F__law_pick (aCons (cV 1) (aCons (cK (.int 4)) aNil))))))
@[irreducible] def l_23_a : Cd Val := (cLst (aCons (cTup (aCons (cK (.int 0)) (aCons (cK (.int 0)) aNil))) (aCons (cTup (aCons (cK (.int 0)) (aCons (cV 5) aNil))) (aCons (cTup (aCons (cK (.int 0)) aNil)) (aCons (cLst (aCons (cK (.int 0)) (aCons (cK (.int 1)) aNil))) (aCons (cK .none) (aCons (cTup (aCons (cK (.bool true)) (aCons (cK (.int 0)) aNil))) (aCons (cTup (aCons (cK (.int 0)) (aCons (cUn dNeg (cK (.int 1))) aNil))) aNil))))))))
@[irreducible] def l_23 : Sc := (sSet 8 (cOp dIx l_23_a (cCall 2 F__law_pick (aCons (cV 1) (aCons (cK (.int 7)) aNil)))))
@[irreducible] def l_24_t : Cd Bool := (tOrC (cTr (cOp dIsNot (cCall 3 F__law_call (aCons (cK (.str "arrows")) (aCons (cV 5) (aCons (cV 14) aNil)))) (cK .none))) (tNotC (cTru (cCall 2 (F__law_same 30) (aCons (cCall 3 F__law_call (aCons (cK (.str "arrows")) (aCons (cV 5) (aCons (cOp dAdd (cV 14) (cTup (aCons (cV 8) aNil))) aNil)))) (aCons (cTup (aCons (cK (.str "InvalidWeb")) (aCons (cB bLen (aCons (cV 14) aNil)) aNil))) aNil))))))
@[irreducible] def l_24 : Sc := (sIf l_24_t (sRet (cK (.bool false))) sSkip)
@[irreducible] def l_25 : Sc := (sRet (cAnd (cOp dEq (cLc (iV (cLst (aCons (cK (.int 0)) (aCons (cK (.int 3)) (aCons (cUn dNeg (cK (.int 1))) (aCons (cK (.bool true)) (aCons (cK .none) (aCons (cK (.str "1")) aNil)))))))) (bN 16) [16] cYes (cCall 1 F_is_count (aCons (cV 16) aNil))) (cLst (aCons (cK (.bool true)) (aCons (cK (.bool true)) (aCons (cK (.bool false)) (aCons (cK (.bool false)) (aCons (cK (.bool false)) (aCons (cK (.bool false)) aNil)))))))) (cCall 1 F__law_fractions (aCons (cV 1) aNil))))
def c_law : Sc := (sSeq (sSet 1 (cCall 1 F__law_start (aCons (cV 0) aNil)))
  (sSeq (sSet 2 (cOp dIx (cLst (aCons (cCall 2 F__law_pick (aCons (cV 1) (aCons (cK (.int 100)) aNil))) (aCons (cTup (aCons (cK (.int 1)) (aCons (cK (.int 2)) aNil))) (aCons (cK .none) (aCons (cK (.str "a")) aNil))))) (cCall 2 F__law_pick (aCons (cV 1) (aCons (cK (.int 4)) aNil)))))
  (sSeq (sSet 3 (cLst (aCons (cK (.str "InvalidFamily")) (aCons (cK (.str "InvalidPaper")) (aCons (cK (.str "InvalidRow")) (aCons (cK (.str "InvalidTable")) (aCons (cK (.str "InvalidText")) (aCons (cK (.str "InvalidWeb")) (aCons (cK (.str "TooLarge")) (aCons (cK (.str "EvensplitsError")) aNil))))))))))
  (sSeq (sFor (iR1 (aCons (cK (.int 8)) aNil)) (bN 4) (sSeq (sIf (tOrC (cTr (cOp dNe (cCall 2 F__law_forwards (aCons (cV 4) (aCons (cV 2) aNil))) (cOp dIx (cV 3) (cV 4)))) (cTr (cOp dNe (cCall 2 F__law_backwards (aCons (cV 4) (aCons (cV 2) aNil))) (cOp dIx (cV 3) (cV 4))))) (sRet (cK (.bool false))) sSkip)
  (sIf (tNotC (cTru (cCall 2 (F__law_same 30) (aCons (cCall 2 F__law_caught (aCons (cV 4) (aCons (cV 2) aNil))) (aCons (cTup (aCons (cV 2) (aCons (cOp dIx (cV 3) (cV 4)) aNil))) aNil))))) (sRet (cK (.bool false))) sSkip)))
  (sSeq (sSet 5 (cOp dAdd (cK (.int 2)) (cCall 2 F__law_pick (aCons (cV 1) (aCons (cK (.int 4)) aNil)))))
  (sSeq (sSet 6 (cSl (cTup (aCons (cTup (aCons (cK (.int 0)) (aCons (cK (.int 1)) aNil))) (aCons (cTup (aCons (cOp dSub (cV 5) (cK (.int 1))) aNil)) (aCons (cTup (aCons (cK (.int 0)) (aCons (cK (.int 1)) aNil))) aNil)))) cNo (cPart (cCall 2 F__law_pick (aCons (cV 1) (aCons (cK (.int 4)) aNil))))))
  (sSeq (sSet 7 (cCall 2 F__law_pick (aCons (cV 1) (aCons (cOp dAdd (cB bLen (aCons (cV 6) aNil)) (cK (.int 1))) aNil))))
  (sSeq (sSet 8 (cOp dIx (cLst (aCons (cTup aNil) (aCons (cTup (aCons (cK (.int 0)) (aCons (cV 5) aNil))) (aCons (cTup (aCons (cK (.int 1)) (aCons (cK (.int 0)) aNil))) (aCons (cTup (aCons (cK (.int 0)) (aCons (cK (.int 0)) aNil))) (aCons (cLst (aCons (cK (.int 0)) (aCons (cK (.int 1)) aNil))) (aCons (cK .none) (aCons (cTup (aCons (cK (.bool true)) aNil)) (aCons (cTup (aCons (cUn dNeg (cK (.int 1))) (aCons (cK (.int 0)) aNil))) aNil))))))))) (cCall 2 F__law_pick (aCons (cV 1) (aCons (cK (.int 8)) aNil)))))
  (sSeq (sIf (tOrC (cTr (cOp dIsNot (cCall 3 F__law_call (aCons (cK (.str "family")) (aCons (cV 5) (aCons (cV 6) aNil)))) (cK .none))) (tNotC (cTru (cCall 2 (F__law_same 30) (aCons (cCall 3 F__law_call (aCons (cK (.str "family")) (aCons (cV 5) (aCons (cOp dAdd (cOp dAdd (cSl (cV 6) cNo (cPart (cV 7))) (cTup (aCons (cV 8) aNil))) (cSl (cV 6) (cPart (cV 7)) cNo)) aNil)))) (aCons (cTup (aCons (cK (.str "InvalidFamily")) (aCons (cV 7) aNil))) aNil)))))) (sRet (cK (.bool false))) sSkip)
  (sSeq (sSet 9 (cLst (aCons (cCall 3 F__law_call (aCons (cK (.str "family")) (aCons (cUn dNeg (cK (.int 1))) (aCons (cTup aNil) aNil)))) (aCons (cCall 3 F__law_call (aCons (cK (.str "family")) (aCons (cK (.bool true)) (aCons (cTup aNil) aNil)))) (aCons (cCall 3 F__law_call (aCons (cK (.str "family")) (aCons (cV 5) (aCons (cB bLst (aCons (cV 6) aNil)) aNil)))) (aCons (cCall 3 F__law_call (aCons (cK (.str "family")) (aCons (cK .none) (aCons (cV 6) aNil)))) aNil))))))
  (sSeq (sIf (tNotC (cTru (cCall 2 (F__law_same 30) (aCons (cV 9) (aCons (cOp dMulB (cLst (aCons (cTup (aCons (cK (.str "InvalidFamily")) (aCons (cK .none) aNil))) aNil)) (cK (.int 4))) aNil))))) (sRet (cK (.bool false))) sSkip)
  (sSeq (sSet 10 (cB bTup (aCons (cLc (iR1 (aCons (cV 5) aNil)) (bN 4) [4] cYes (cOp dSub (cK (.int 1)) (cOp dMulB (cK (.int 2)) (cCall 2 F__law_pick (aCons (cV 1) (aCons (cK (.int 2)) aNil)))))) aNil)))
  (sSeq (sSet 11 (cOp dIx (cLst (aCons (cOp dAdd (cV 10) (cTup (aCons (cK (.int 1)) aNil))) (aCons (cSl (cV 10) (cPart (cK (.int 1))) cNo) (aCons (cB bLst (aCons (cV 10) aNil)) (aCons (cK .none) (aCons (cOp dAdd (cTup (aCons (cK (.int 0)) aNil)) (cSl (cV 10) (cPart (cK (.int 1))) cNo)) (aCons (cOp dAdd (cTup (aCons (cK (.bool true)) aNil)) (cSl (cV 10) (cPart (cK (.int 1))) cNo)) (aCons (cOp dAdd (cTup (aCons (cK (.int 2)) aNil)) (cSl (cV 10) (cPart (cK (.int 1))) cNo)) aNil)))))))) (cCall 2 F__law_pick (aCons (cV 1) (aCons (cK (.int 7)) aNil)))))
  (sSeq (sIf (tOrC (cTr (cOp dIsNot (cCall 3 F__law_call (aCons (cK (.str "signs")) (aCons (cV 5) (aCons (cV 10) aNil)))) (cK .none))) (tNotC (cTru (cCall 2 (F__law_same 30) (aCons (cCall 3 F__law_call (aCons (cK (.str "signs")) (aCons (cV 5) (aCons (cV 11) aNil)))) (aCons (cTup (aCons (cK (.str "InvalidRow")) (aCons (cK .none) aNil))) aNil)))))) (sRet (cK (.bool false))) sSkip)
  (sSeq (sSet 12 (cB bTup (aCons (cLc (iR1 (aCons (cCall 2 F__law_pick (aCons (cV 1) (aCons (cK (.int 3)) aNil))) aNil)) (bN 15) [15] cYes (cB bTup (aCons (cLc (iR1 (aCons (cV 5) aNil)) (bN 17) [17] cYes (cOp dSub (cCall 2 F__law_pick (aCons (cV 1) (aCons (cK (.int 5)) aNil))) (cK (.int 2)))) aNil))) aNil)))
  (sSeq (sSet 11 (cOp dIx (cLst (aCons (cOp dAdd (cV 12) (cTup (aCons (cOp dMulB (cTup (aCons (cK (.int 0)) aNil)) (cOp dAdd (cV 5) (cK (.int 1)))) (aCons (cOp dMulB (cTup (aCons (cK (.int 0)) aNil)) (cV 5)) aNil)))) (aCons (cB bLst (aCons (cV 12) aNil)) (aCons (cK .none) (aCons (cOp dAdd (cV 12) (cTup (aCons (cOp dMulB (cLst (aCons (cK (.int 0)) aNil)) (cV 5)) aNil))) (aCons (cOp dAdd (cV 12) (cTup (aCons (cOp dMulB (cTup (aCons (cK (.bool true)) aNil)) (cV 5)) aNil))) (aCons (cOp dAdd (cV 12) (cTup (aCons (cK .none) aNil))) aNil))))))) (cCall 2 F__law_pick (aCons (cV 1) (aCons (cK (.int 6)) aNil)))))
  (sSeq (sIf (tOrC (cTr (cOp dIsNot (cCall 3 F__law_call (aCons (cK (.str "table")) (aCons (cV 12) (aCons (cK .none) aNil)))) (cK .none))) (tNotC (cTru (cCall 2 (F__law_same 30) (aCons (cCall 3 F__law_call (aCons (cK (.str "table")) (aCons (cV 11) (aCons (cK .none) aNil)))) (aCons (cTup (aCons (cK (.str "InvalidTable")) (aCons (cK .none) aNil))) aNil)))))) (sRet (cK (.bool false))) sSkip)
  (sSeq (sSet 13 (cSl (cTup (aCons (cTup (aCons (cK (.int 0)) (aCons (cK (.int 1)) aNil))) (aCons (cTup (aCons (cK (.int 0)) (aCons (cK (.int 2)) aNil))) (aCons (cTup (aCons (cK (.int 2)) (aCons (cK (.int 0)) aNil))) aNil)))) cNo (cPart (cCall 2 F__law_pick (aCons (cV 1) (aCons (cK (.int 4)) aNil))))))
  (sSeq (sSet 8 (cOp dIx (cLst (aCons (cTup (aCons (cK (.int 0)) aNil)) (aCons (cTup (aCons (cK (.int 0)) (aCons (cUn dNeg (cK (.int 1))) aNil))) (aCons (cLst (aCons (cK (.int 9)) (aCons (cK (.int 9)) aNil))) (aCons (cK .none) (aCons (cTup (aCons (cK (.bool true)) (aCons (cK (.int 9)) aNil))) (aCons (cTup (aCons (cK (.int 9)) (aCons (cK (.int 9)) (aCons (cK (.int 9)) aNil)))) (aCons (cTup (aCons (cUn dNeg (cK (.int 1))) (aCons (cK (.int 0)) aNil))) aNil)))))))) (cCall 2 F__law_pick (aCons (cV 1) (aCons (cK (.int 7)) aNil)))))
  (sSeq (sIf (tOrC (cTr (cOp dIsNot (cCall 3 F__law_call (aCons (cK (.str "places")) (aCons (cV 13) (aCons (cK .none) aNil)))) (cK .none))) (tNotC (cTru (cCall 2 (F__law_same 30) (aCons (cCall 3 F__law_call (aCons (cK (.str "places")) (aCons (cOp dAdd (cV 13) (cTup (aCons (cV 8) aNil))) (aCons (cK .none) aNil)))) (aCons (cTup (aCons (cK (.str "InvalidTable")) (aCons (cB bLen (aCons (cV 13) aNil)) aNil))) aNil)))))) (sRet (cK (.bool false))) sSkip)
  (sSeq (sIf (tAndC (cTr (cOp dNe (cV 13) (cTup aNil))) (tNotC (cTru (cCall 2 (F__law_same 30) (aCons (cCall 3 F__law_call (aCons (cK (.str "places")) (aCons (cOp dAdd (cV 13) (cSl (cV 13) (cPart (cUn dNeg (cK (.int 1)))) cNo)) (aCons (cK .none) aNil)))) (aCons (cTup (aCons (cK (.str "InvalidTable")) (aCons (cB bLen (aCons (cV 13) aNil)) aNil))) aNil)))))) (sRet (cK (.bool false))) sSkip)
  (sSeq (sSet 14 (cSl (cTup (aCons (cTup (aCons (cK (.int 0)) (aCons (cK (.int 1)) aNil))) (aCons (cTup (aCons (cK (.int 1)) (aCons (cK (.int 0)) aNil))) (aCons (cTup (aCons (cOp dSub (cV 5) (cK (.int 1))) (aCons (cK (.int 0)) aNil))) aNil)))) cNo (cPart (cCall 2 F__law_pick (aCons (cV 1) (aCons (cK (.int 4)) aNil))))))
  (sSeq (sSet 8 (cOp dIx (cLst (aCons (cTup (aCons (cK (.int 0)) (aCons (cK (.int 0)) aNil))) (aCons (cTup (aCons (cK (.int 0)) (aCons (cV 5) aNil))) (aCons (cTup (aCons (cK (.int 0)) aNil)) (aCons (cLst (aCons (cK (.int 0)) (aCons (cK (.int 1)) aNil))) (aCons (cK .none) (aCons (cTup (aCons (cK (.bool true)) (aCons (cK (.int 0)) aNil))) (aCons (cTup (aCons (cK (.int 0)) (aCons (cUn dNeg (cK (.int 1))) aNil))) aNil)))))))) (cCall 2 F__law_pick (aCons (cV 1) (aCons (cK (.int 7)) aNil)))))
  (sSeq (sIf (tOrC (cTr (cOp dIsNot (cCall 3 F__law_call (aCons (cK (.str "arrows")) (aCons (cV 5) (aCons (cV 14) aNil)))) (cK .none))) (tNotC (cTru (cCall 2 (F__law_same 30) (aCons (cCall 3 F__law_call (aCons (cK (.str "arrows")) (aCons (cV 5) (aCons (cOp dAdd (cV 14) (cTup (aCons (cV 8) aNil))) aNil)))) (aCons (cTup (aCons (cK (.str "InvalidWeb")) (aCons (cB bLen (aCons (cV 14) aNil)) aNil))) aNil)))))) (sRet (cK (.bool false))) sSkip)
  (sRet (cAnd (cOp dEq (cLc (iV (cLst (aCons (cK (.int 0)) (aCons (cK (.int 3)) (aCons (cUn dNeg (cK (.int 1))) (aCons (cK (.bool true)) (aCons (cK .none) (aCons (cK (.str "1")) aNil)))))))) (bN 16) [16] cYes (cCall 1 F_is_count (aCons (cV 16) aNil))) (cLst (aCons (cK (.bool true)) (aCons (cK (.bool true)) (aCons (cK (.bool false)) (aCons (cK (.bool false)) (aCons (cK (.bool false)) (aCons (cK (.bool false)) aNil)))))))) (cCall 1 F__law_fractions (aCons (cV 1) aNil))))))))))))))))))))))))))))
def d_law : Sc := (sSeq l_1 (sSeq l_2 (sSeq l_3 (sSeq l_4 (sSeq l_5 (sSeq l_6 (sSeq l_7 (sSeq l_8 (sSeq l_9 (sSeq l_10 (sSeq l_11 (sSeq l_12 (sSeq l_13 (sSeq l_14 (sSeq l_15 (sSeq l_16 (sSeq l_17 (sSeq l_18 (sSeq l_19 (sSeq l_20 (sSeq l_21 (sSeq l_22 (sSeq l_23 (sSeq l_24 l_25))))))))))))))))))))))))
theorem split_law : c_law = d_law := by kernel_rfl
def F_law : Fn := runFn fin 18 c_law
end K00


set_option Elab.async false
set_option linter.all false
set_option maxRecDepth 100000
set_option maxHeartbeats 4000000
namespace K00
open PySem PySem.Spec FW
def St (ns : List Int) (μ : Sto) : Prop := ∃ a b c : Int, 0 ≤ a ∧ μ = [.lst [.list (ns.map PyData.int), .int a, .int b, .int c]]
theorem atI_map {ns : List Int} {a : Int} (h0 : 0 ≤ a) (h1 : a < ns.length) : ∃ z, L2.atI (ns.map PyData.int) a = some (.int z) := by
  obtain ⟨n, rfl⟩ := Int.eq_ofNat_of_zero_le h0
  have hn : n < ns.length := by omega
  refine ⟨ns[n], ?_⟩
  rw [atI_nat (by simpa using hn)]
  simp [hn]
theorem at4_0 {x y z u : D} : L2.atI [x, y, z, u] 0 = some x := rfl
theorem at4_1 {x y z u : D} : L2.atI [x, y, z, u] 1 = some y := rfl
theorem at4_2 {x y z u : D} : L2.atI [x, y, z, u] 2 = some z := rfl
theorem at4_3 {x y z u : D} : L2.atI [x, y, z, u] 3 = some u := rfl
theorem ten18 : dPow (.int 10) (.int 18) = some (.int 1000000000000000000) := rfl
theorem mulA {x : Int} : dMulB (.int x) (.int 48271) = some (.int (x * 48271)) := mulW_r (by decide) (by decide)
theorem modA {x : Int} : dMod (.int x) (.int 2147483646) = some (.int (x % 2147483646)) := dMod_int (by decide)
theorem modB {x : Int} : dMod (.int x) (.int 2147483647) = some (.int (x % 2147483647)) := dMod_int (by decide)
theorem modC {x : Int} : dMod (.int x) (.int 2147483629) = some (.int (x % 2147483629)) := dMod_int (by decide)
theorem divA {x : Int} : dDivN (.int x) (.int 5) = some (.int (x / 5)) := dDiv_pos (by decide) (by decide)
theorem pick_ok {ns : List Int} {n : Int} {μ : Sto} (hn : 0 < n) (hn2 : n < 2 ^ 64) (h : St ns μ) : okP (F__law_pick [.loc 0, .d (.int n)] μ) (fun v μ' => notExn v = true ∧ ∃ r, v = .d (.int r) ∧ 0 ≤ r ∧ r < n ∧ St ns μ') := by
  obtain ⟨a, b, c, ha, rfl⟩ := h
  refine okP_run ?_
  unfold c__law_pick
  refine seq_of (P := fun ρ μ => ∃ (u : Option Val) (a b c : Int), 0 ≤ a ∧ ρ = [some (.loc 0), some (.d (.int n)), u, none] ∧ μ = [.lst [.list (ns.map PyData.int), .int a, .int b, .int c]]) ?_ ?_
  · by_cases hb : b = 0
    · subst hb
      by_cases hl : a < ns.length
      · obtain ⟨z, hz⟩ := atI_map ha hl
        simp [rd, dIx, at4_0, at4_1, at4_2, at4_3, hl, hz, L2.ixN, ten18, mulA, modA]
        have ha1 : 0 ≤ a + 1 := by omega
        exact ha1
      · simp [rd, dIx, at4_0, at4_1, at4_2, at4_3, hl]
        exact ha
    · simp [rd, dIx, at4_0, at4_1, at4_2, at4_3, hb]
      exact ha
  · rintro _ _ ⟨u, a, b, c, ha, rfl, rfl⟩
    by_cases hb : 0 < b
    · simp [rd, dIx, at4_0, at4_1, at4_2, at4_3, hb, dMod_int hn, dDiv_pos hn hn2, L2.ixN, notExn]
      exact ⟨Int.emod_nonneg _ (by omega), Int.emod_lt_of_pos _ hn, _, _, _, ha, rfl⟩
    · have r0 := Int.emod_nonneg (c * 48271) (show (2147483647 : Int) ≠ 0 by decide)
      have r1 := Int.emod_lt_of_pos (c * 48271) (show (0 : Int) < 2147483647 by decide)
      have m2 : dMulB (.int (c * 48271 % 2147483647)) (.int (c * 48271 % 2147483647)) = some (.int (c * 48271 % 2147483647 * (c * 48271 % 2147483647))) := mulW_l (by omega) (by omega)
      simp [rd, dIx, at4_0, at4_1, at4_2, at4_3, hb, dMod_int hn, L2.ixN, notExn, mulA, modB, modC, divA, m2]
      exact ⟨Int.emod_nonneg _ (by omega), Int.emod_lt_of_pos _ hn, _, _, _, ha, rfl⟩
/-- pick(state, n) in an expression -/
theorem w_pick {i : Nat} {ns : List Int} {n : Int} {ρ : FW.Env} {μ : Sto} {Q : Val → Sto → Prop} (hi : ρ[i]? = some (some (.loc 0))) (hn : 0 < n) (hn2 : n < 2 ^ 64) (hs : St ns μ) (h : ∀ (r : Nat) μ', (r : Int) < n → St ns μ' → Q (.d (.int r)) μ') : okP (cCall 2 F__law_pick (aCons (cV i) (aCons (cK (.int n)) aNil)) ρ μ) Q := by
  refine okP_call ?_
  simp [hi, notExn]
  refine okP_mono (pick_ok hn hn2 hs) ?_
  rintro _ μ' ⟨_, r, rfl, h0, h1, h2⟩
  obtain ⟨k, rfl⟩ := Int.eq_ofNat_of_zero_le h0
  exact ⟨rfl, h k μ' h1 h2⟩
end K00


set_option Elab.async false
set_option linter.all false
set_option maxRecDepth 100000
set_option maxHeartbeats 4000000
namespace K00
open PySem PySem.Spec FW
/-! ### fractions: the plain law -/
def nrm (p q : Int) : Int × Int := ((if 0 < q then p else -p) / (Int.gcd p q : Int), (if 0 < q then q else -q) / (Int.gcd p q : Int))
theorem gcd_pos {p q : Int} (h : q ≠ 0) : 0 < (Int.gcd p q : Int) := by
  have : 0 < Int.gcd p q := Int.gcd_pos_of_ne_zero_right _ h
  omega
theorem nrm_scale {k p q : Int} (hk : 0 < k) : nrm (k * p) (k * q) = nrm p q := by
  unfold nrm
  have e : (Int.gcd (k * p) (k * q) : Int) = k * (Int.gcd p q : Int) := by
    rw [Int.gcd_mul_left, Int.natCast_mul, Int.natAbs_of_nonneg (Int.le_of_lt hk)]
  have hq : 0 < k * q ↔ 0 < q := by
    constructor
    · intro h; exact Int.pos_of_mul_pos_left (by rwa [Int.mul_comm] at h) hk |> fun z => z
    · intro h; exact Int.mul_pos hk h
  rw [e]
  by_cases h : 0 < q
  · rw [if_pos h, if_pos (hq.mpr h), if_pos h, if_pos (hq.mpr h), Int.mul_ediv_mul_of_pos _ _ hk, Int.mul_ediv_mul_of_pos _ _ hk]
  · rw [if_neg h, if_neg (fun z => h (hq.mp z)), if_neg h, if_neg (fun z => h (hq.mp z)), ← Int.mul_neg, ← Int.mul_neg, Int.mul_ediv_mul_of_pos _ _ hk, Int.mul_ediv_mul_of_pos _ _ hk]
/-- what it stands for -/
theorem nrm_of {p q : Int} (h : 0 < q) : ∃ g : Int, 0 < g ∧ p = g * (nrm p q).1 ∧ q = g * (nrm p q).2 := by
  refine ⟨(Int.gcd p q : Int), gcd_pos (by omega), ?_, ?_⟩
  · show p = _ * ((if 0 < q then p else -p) / _)
    rw [if_pos h, Int.mul_ediv_cancel' (Int.gcd_dvd_left ..)]
  · show q = _ * ((if 0 < q then q else -q) / _)
    rw [if_pos h, Int.mul_ediv_cancel' (Int.gcd_dvd_right ..)]
theorem nrm_snd {p q : Int} (h : 0 < q) : 0 < (nrm p q).2 := by
  obtain ⟨g, h0, _, h2⟩ := nrm_of (p := p) h
  by_cases z : 0 < (nrm p q).2
  · exact z
  · have : g * (nrm p q).2 ≤ 0 := Int.mul_nonpos_of_nonneg_of_nonpos (Int.le_of_lt h0) (by omega)
    omega
theorem nrm_self {p q : Int} (h : 0 < q) : nrm (nrm p q).1 (nrm p q).2 = nrm p q := by
  obtain ⟨g, h0, h1, h2⟩ := nrm_of (p := p) h
  have := nrm_scale (p := (nrm p q).1) (q := (nrm p q).2) h0
  rw [← h1, ← h2] at this
  exact this.symm
theorem nrm_le {p q : Int} (h : 0 < q) : (nrm p q).1.natAbs ≤ p.natAbs ∧ (nrm p q).2 ≤ q := by
  obtain ⟨g, h0, h1, h2⟩ := nrm_of (p := p) h
  have hs := nrm_snd (p := p) h
  constructor
  · have e : p.natAbs = g.natAbs * (nrm p q).1.natAbs := by rw [← Int.natAbs_mul, ← h1]
    rw [e]
    exact Nat.le_mul_of_pos_left _ (by omega)
  · have : 1 * (nrm p q).2 ≤ g * (nrm p q).2 := Int.mul_le_mul_of_nonneg_right (by omega) (Int.le_of_lt hs)
    omega
/-! ### the loop of Euclid -/
theorem euclid {c : Cd Bool} {b : Sc} {n0 : Nat} {μ : Sto} {V : Int → Int → FW.Env} (hc : ∀ s r : Nat, c (V s r) μ = .ok (decide (0 < r)) μ) (hb : ∀ s r : Nat, 0 < r → b n0 (V s r) μ = .next (V r ((s % r : Nat) : Int)) μ) :
    ∀ (n s r k : Nat), r ≤ n → n < k → whN c b k n0 (V s r) μ = .next (V (Nat.gcd s r) 0) μ
  | n, s, r, 0, _, h => absurd h (Nat.not_lt_zero _)
  | n, s, 0, k + 1, _, _ => by
    unfold whN
    rw [hc s 0]
    simp [lift]
  | 0, s, r + 1, k + 1, h, _ => absurd h (by omega)
  | n + 1, s, r + 1, k + 1, h, h2 => by
    unfold whN
    rw [hc s (r + 1), decide_eq_true (Nat.succ_pos r)]
    simp only [lift]
    rw [hb s (r + 1) (Nat.succ_pos r)]
    have hlt : s % (r + 1) < r + 1 := Nat.mod_lt s (Nat.succ_pos r)
    have := euclid hc hb n (r + 1) (s % (r + 1)) k (by omega) (by omega)
    simp only [this]
    rw [Nat.gcd_comm s (r + 1), Nat.gcd_rec (r + 1) s, Nat.gcd_comm]
theorem abs_nat (a : Int) : (if a < 0 then -a else a) = (a.natAbs : Int) := by split <;> omega
theorem nat_fuel {p : Int} (h : p.natAbs < 2 ^ 60) : p.natAbs < fuel := Nat.lt_trans h (by decide)
theorem made_eq {p q : Int} (hq : q ≠ 0) (hp : p.natAbs < 2 ^ 60) (hq2 : q.natAbs < 2 ^ 60) (μ : Sto) : F_made [.d (.int p), .d (.int q)] μ = .ok (.d (.tuple [.int (nrm p q).1, .int (nrm p q).2])) μ := by
  refine okP_is (okP_run ?_)
  unfold c_made
  refine seq_gen fun Q k => ?_
  simp [abs_nat]
  refine k _ _ ?_
  refine seq_gen fun Q k => ?_
  have hw := euclid (n0 := μ.length) (μ := μ) (c := cTr (cOp dGt (cV 4) (cK (.int 0)))) (b := sPar 3 4 (cV 4) (cOp dMod (cB bInt (aCons (cV 3) aNil)) (cV 4))) (V := fun s r => [some (.d (.int p)), some (.d (.int q)), none, some (.d (.int s)), some (.d (.int r))]) (fun s r => by
      refine okP_is ?_
      simp) (fun s r hr => by
      have e := dMod_int (a := s) (b := r) (by omega)
      simp [sPar, lift, cV, cOp, cB, aCons, aNil, R.bind, pB, p2, e]) p.natAbs q.natAbs p.natAbs fuel (Nat.le_refl _) (nat_fuel hp)
  rw [show sWh _ _ _ _ _ = _ from hw]
  refine k _ _ ?_
  have g0 := gcd_pos (p := p) hq
  have eg : Nat.gcd q.natAbs p.natAbs = Int.gcd p q := Nat.gcd_comm _ _
  have gle : Int.gcd p q ≤ q.natAbs := Nat.le_of_dvd (by omega) (Nat.gcd_dvd_right _ _)
  have hd : ∀ x : Int, dDivN (.int x) (.int (Int.gcd p q)) = some (.int (x / Int.gcd p q)) := fun x => dDiv_pos g0 (by omega)
  have m1 : ∀ x : Int, dMulB (.int 1) (.int x) = some (.int (1 * x)) := fun x => mulW_l (by decide) (by decide)
  have m2 : ∀ x : Int, dMulB (.int (-1)) (.int x) = some (.int (-1 * x)) := fun x => mulW_l (by decide) (by decide)
  rw [eg]
  by_cases h : 0 < q
  · simp [h, m1, hd, nrm, lim]
  · simp [h, dNeg, m2, hd, nrm, lim]
theorem fdiv_neg {g x : Int} (hg : 0 < g) (hd : g ∣ x) : x.fdiv (-g) = -x / g := by
  obtain ⟨y, rfl⟩ := hd
  have e1 : g * y = (-g) * (-y) := by rw [Int.neg_mul_neg]
  rw [e1, Int.mul_fdiv_cancel_left _ (by omega), Int.neg_mul_neg, ← Int.mul_neg, Int.mul_ediv_cancel_left _ (by omega)]
theorem least_eq {p q : Int} (hq : q ≠ 0) (hp : p.natAbs < 2 ^ 60) (hq2 : q.natAbs < 2 ^ 30) (μ : Sto) : F__law_least [.d (.int p), .d (.int q)] μ = .ok (.d (.tuple [.int (nrm p q).1, .int (nrm p q).2])) μ := by
  refine okP_is (okP_run ?_)
  unfold c__law_least
  refine seq_gen fun Q k => ?_
  simp [abs_nat]
  refine k _ _ ?_
  refine seq_gen fun Q k => ?_
  have hw := euclid (n0 := μ.length) (μ := μ) (c := cTr (cOp dNe (cV 3) (cK (.int 0)))) (b := sPar 2 3 (cV 3) (cOp dMod (cB bInt (aCons (cV 2) aNil)) (cV 3))) (V := fun s r => [some (.d (.int p)), some (.d (.int q)), some (.d (.int s)), some (.d (.int r))]) (fun s r => by
      refine okP_is ?_
      rcases Nat.eq_zero_or_pos r with rfl | h
      · simp
      · have h3 : ¬ (r = 0) := by omega
        simp [h, h3]) (fun s r hr => by
      have e := dMod_int (a := s) (b := r) (by omega)
      simp [sPar, lift, cV, cOp, cB, aCons, aNil, R.bind, pB, p2, e]) p.natAbs q.natAbs p.natAbs fuel (Nat.le_refl _) (nat_fuel hp)
  rw [show sWh _ _ _ _ _ = _ from hw]
  refine k _ _ ?_
  have g0 := gcd_pos (p := p) hq
  have eg : Nat.gcd q.natAbs p.natAbs = Int.gcd p q := Nat.gcd_comm _ _
  have gle : Int.gcd p q ≤ q.natAbs := Nat.le_of_dvd (by omega) (Nat.gcd_dvd_right _ _)
  have hd : ∀ x : Int, dDivN (.int x) (.int (Int.gcd p q)) = some (.int (x / Int.gcd p q)) := fun x => dDiv_pos g0 (by omega)
  have hn : ∀ x : Int, dDivN (.int x) (.int (-(Int.gcd p q : Int))) = some (.int (x.fdiv (-(Int.gcd p q : Int)))) := fun x => dDiv_neg (by omega) (by omega)
  rw [eg]
  by_cases h : 0 < q
  · have h2 : ¬ q < 0 := by omega
    refine seq_gen fun Q k => ?_
    simp [h2]
    refine k _ _ ?_
    simp [h, hd, nrm, lim]
  · have h2 : q < 0 := by omega
    refine seq_gen fun Q k => ?_
    simp [h2]
    refine k _ _ ?_
    simp [h, hn, nrm, lim, fdiv_neg g0 (Int.gcd_dvd_left ..), fdiv_neg g0 (Int.gcd_dvd_right ..)]
end K00


set_option Elab.async false
set_option linter.all false
set_option maxRecDepth 100000
set_option maxHeartbeats 4000000
namespace K00
open PySem PySem.Spec FW
theorem same_succ (d : Nat) : F__law_same (d + 1) = runFn fin 3 (c__law_same (F__law_same d)) := rfl
theorem same_int (d : Nat) (a : Int) (μ : Sto) : F__law_same (d + 1) [.d (.int a), .d (.int a)] μ = .ok (.d (.bool true)) μ := by
  rw [same_succ]
  generalize F__law_same d = Φ
  refine okP_is (okP_run ?_)
  unfold c__law_same
  simp [dIs, FW.isNone, isiB]
theorem depth2 (x : D) : shal (.list []) x = true := by
  unfold shal
  refine decide_eq_true ?_
  have : PyData.depth (.list []) ≤ 64 := by decide +kernel
  omega
theorem same_pair (d : Nat) (a b : Int) (μ : Sto) : F__law_same (d + 2) [.d (.tuple [.int a, .int b]), .d (.tuple [.int a, .int b])] μ = .ok (.d (.bool true)) μ := by
  have h1 := fun x => same_int d x μ
  show runFn fin 3 (c__law_same (F__law_same (d + 1))) _ μ = _
  generalize F__law_same (d + 1) = Φ at h1 ⊢
  generalize hx : PyData.tuple [PyData.int a, PyData.int b] = x
  refine okP_is (okP_run ?_)
  unfold c__law_same
  have e0 : ∀ x y : Int, L2.atI [PyData.int x, .int y] 0 = some (.int x) := fun _ _ => rfl
  have e1 : ∀ x y : Int, L2.atI [PyData.int x, .int y] 1 = some (.int y) := fun _ _ => rfl
  have er : rng 0 2 = [.int 0, .int 1] := by kernel_rfl
  have ed : dEq (.list []) (.list []) = some (.bool true) := by kernel_rfl
  have eo : ∀ xs : List D, okB (xs, none) μ = true := fun _ => rfl
  subst hx
  simp [dIs, FW.isNone, isiB, bN, wipeE, er, dIx, e0, e1, h1, lim, ed]
end K00


set_option Elab.async false
set_option linter.all false
set_option maxRecDepth 100000
set_option maxHeartbeats 4000000
namespace K00
open PySem PySem.Spec FW
/-! ### small ints -/
def Sm (k : Nat) (x : Int) : Prop := x.natAbs ≤ k
theorem Sm.mul {i j : Nat} {x y : Int} (a : Sm i x) (b : Sm j y) : Sm (i * j) (x * y) := by
  unfold Sm at *
  rw [Int.natAbs_mul]
  exact Nat.mul_le_mul a b
theorem Sm.add {i j : Nat} {x y : Int} (a : Sm i x) (b : Sm j y) : Sm (i + j) (x + y) := by unfold Sm at *; omega
theorem Sm.sub {i j : Nat} {x y : Int} (a : Sm i x) (b : Sm j y) : Sm (i + j) (x - y) := by unfold Sm at *; omega
theorem Sm.le {i j : Nat} {x : Int} (a : Sm i x) (h : i ≤ j) : Sm j x := Nat.le_trans a h
theorem Sm.lt {i j : Nat} {x : Int} (a : Sm i x) (h : i < j) : x.natAbs < j := Nat.lt_of_le_of_lt a h
theorem mul_sm {i : Nat} {x y : Int} (a : Sm i x) (h : i < 2 ^ 60) : dMulB (.int x) (.int y) = some (.int (x * y)) := by
  unfold Sm at a
  exact mulW_l (by omega) (by omega)
abbrev pr (p : Int × Int) : Val := .d (.tuple [.int p.1, .int p.2])
theorem ix0 {x y : Int} : dIx (.tuple [.int x, .int y]) (.int 0) = some (.int x) := rfl
theorem ix1 {x y : Int} : dIx (.tuple [.int x, .int y]) (.int 1) = some (.int y) := rfl
section
variable {x y z w : Int} (hx : Sm 100000 x) (hy : Sm 100000 y) (hz : Sm 100000 z) (hw : Sm 100000 w) (μ : Sto)
theorem tup2 {a b : Int} {n0 : Nat} : lim [PyData.int a, .int b].length = true := rfl
include hx hy hz hw
theorem plus_eq (hn : y * w ≠ 0) : F_plus_f [pr (x, y), pr (z, w)] μ = .ok (pr (nrm (x * w + z * y) (y * w))) μ := by
  have b1 := ((hx.mul hw).add (hz.mul hy)).lt (show _ < 2 ^ 60 by decide)
  have b2 := (hy.mul hw).lt (show _ < 2 ^ 60 by decide)
  have e := fun μ => made_eq hn b1 b2 μ
  have m1 := mul_sm (y := w) hx (by decide); have m2 := mul_sm (y := y) hz (by decide); have m3 := mul_sm (y := w) hy (by decide)
  generalize h1 : PyData.tuple [PyData.int x, PyData.int y] = P
  generalize h2 : PyData.tuple [PyData.int z, PyData.int w] = R
  refine okP_is (okP_run ?_)
  subst h1 h2
  unfold c_plus_f
  simp [ix0, ix1, m1, m2, m3, e]
theorem minus_eq (hn : y * w ≠ 0) : F_minus_f [pr (x, y), pr (z, w)] μ = .ok (pr (nrm (x * w - z * y) (y * w))) μ := by
  have b1 := ((hx.mul hw).sub (hz.mul hy)).lt (show _ < 2 ^ 60 by decide)
  have b2 := (hy.mul hw).lt (show _ < 2 ^ 60 by decide)
  have e := fun μ => made_eq hn b1 b2 μ
  have m1 := mul_sm (y := w) hx (by decide); have m2 := mul_sm (y := y) hz (by decide); have m3 := mul_sm (y := w) hy (by decide)
  generalize h1 : PyData.tuple [PyData.int x, PyData.int y] = P
  generalize h2 : PyData.tuple [PyData.int z, PyData.int w] = R
  refine okP_is (okP_run ?_)
  subst h1 h2
  unfold c_minus_f
  simp [ix0, ix1, m1, m2, m3, e]
theorem times_eq (hn : y * w ≠ 0) : F_times_f [pr (x, y), pr (z, w)] μ = .ok (pr (nrm (x * z) (y * w))) μ := by
  have b1 := (hx.mul hz).lt (show _ < 2 ^ 60 by decide)
  have b2 := (hy.mul hw).lt (show _ < 2 ^ 60 by decide)
  have e := fun μ => made_eq hn b1 b2 μ
  have m1 := mul_sm (y := z) hx (by decide); have m3 := mul_sm (y := w) hy (by decide)
  generalize h1 : PyData.tuple [PyData.int x, PyData.int y] = P
  generalize h2 : PyData.tuple [PyData.int z, PyData.int w] = R
  refine okP_is (okP_run ?_)
  subst h1 h2
  unfold c_times_f
  simp [ix0, ix1, m1, m3, e]
theorem over_eq (hn : y * z ≠ 0) : F_over_f [pr (x, y), pr (z, w)] μ = .ok (pr (nrm (x * w) (y * z))) μ := by
  have b1 := (hx.mul hw).lt (show _ < 2 ^ 60 by decide)
  have b2 := (hy.mul hz).lt (show _ < 2 ^ 60 by decide)
  have e := fun μ => made_eq hn b1 b2 μ
  have m1 := mul_sm (y := w) hx (by decide); have m3 := mul_sm (y := z) hy (by decide)
  generalize h1 : PyData.tuple [PyData.int x, PyData.int y] = P
  generalize h2 : PyData.tuple [PyData.int z, PyData.int w] = R
  refine okP_is (okP_run ?_)
  subst h1 h2
  unfold c_over_f
  simp [ix0, ix1, m1, m3, e]
theorem below_eq : F_below_f [pr (x, y), pr (z, w)] μ = .ok (.d (.bool (decide (x * w < z * y)))) μ := by
  have m1 := mul_sm (y := w) hx (by decide); have m2 := mul_sm (y := y) hz (by decide)
  generalize h1 : PyData.tuple [PyData.int x, PyData.int y] = P
  generalize h2 : PyData.tuple [PyData.int z, PyData.int w] = R
  refine okP_is (okP_run ?_)
  subst h1 h2
  unfold c_below_f
  simp [ix0, ix1, m1, m2]
end
theorem size_eq {x y : Int} (μ : Sto) : F_size_f [pr (x, y)] μ = .ok (pr ((x.natAbs : Int), y)) μ := by
  generalize h1 : PyData.tuple [PyData.int x, PyData.int y] = P
  refine okP_is (okP_run ?_)
  subst h1
  unfold c_size_f
  simp [ix0, ix1, abs_nat, lim]
theorem sum_nil (μ : Sto) : F_sum_f [.d (.list [])] μ = .ok (pr (0, 1)) μ := by
  refine okP_is (okP_run ?_)
  unfold c_sum_f
  simp [lim, forRun]
theorem sum3 {x y z w : Int} (hx : Sm 30 x) (hy : Sm 30 y) (hz : Sm 30 z) (hw : Sm 30 w) (y0 : 0 < y) (w0 : 0 < w) (r1 : nrm x y = (x, y)) (μ : Sto) :
    F_sum_f [.d (.list [.tuple [.int x, .int y], .tuple [.int z, .int w], .tuple [.int z, .int w]])] μ = .ok (pr (nrm (x * w + 2 * z * y) (y * w))) μ := by
  have yw : 0 < y * w := Int.mul_pos y0 w0
  have e1 := fun μ => plus_eq (x := 0) (y := 1) (z := x) (w := y) (by unfold Sm; decide) (by unfold Sm; decide) (hx.le (by decide)) (hy.le (by decide)) μ (by omega)
  have q1 : (0 * y + x * 1, 1 * y) = (x, y) := by rw [Int.zero_mul, Int.zero_add, Int.mul_one, Int.one_mul]
  have s1 : nrm (0 * y + x * 1) (1 * y) = (x, y) := by
    injection q1 with q1 q2
    rw [q1, q2, r1]
  have e2 := fun μ => plus_eq (x := x) (y := y) (z := z) (w := w) (hx.le (by decide)) (hy.le (by decide)) (hz.le (by decide)) (hw.le (by decide)) μ (by omega)
  obtain ⟨g, g0, ga, gb⟩ := nrm_of (p := x * w + z * y) yw
  have hs := nrm_snd (p := x * w + z * y) yw
  have hle := nrm_le (p := x * w + z * y) yw
  have bs : Sm 1800 (nrm (x * w + z * y) (y * w)).1 := Nat.le_trans hle.1 (((hx.mul hw).add (hz.mul hy)).le (by decide))
  have bt : Sm 900 (nrm (x * w + z * y) (y * w)).2 := by
    have := hy.mul hw
    unfold Sm at *
    omega
  generalize hn : nrm (x * w + z * y) (y * w) = n at *
  have e3 := fun μ => plus_eq (x := n.1) (y := n.2) (z := z) (w := w) (bs.le (by decide)) (bt.le (by decide)) (hz.le (by decide)) (hw.le (by decide)) μ (by have := Int.mul_pos hs w0; omega)
  have s3 : nrm (n.1 * w + z * n.2) (n.2 * w) = nrm (x * w + 2 * z * y) (y * w) := by
    rw [← nrm_scale (k := g) g0, ← nrm_scale (k := w) (p := x * w + 2 * z * y) w0]
    have a1 : g * (n.1 * w + z * n.2) = w * (x * w + 2 * z * y) := by
      have : g * (n.1 * w + z * n.2) = (g * n.1) * w + z * (g * n.2) := by
        rw [Int.mul_add, Int.mul_assoc g, Int.mul_left_comm g z]
      rw [this, ← ga, ← gb]
      have t1 : z * (y * w) = z * y * w := (Int.mul_assoc ..).symm
      have t2 : w * (x * w + 2 * z * y) = (x * w + 2 * z * y) * w := Int.mul_comm ..
      rw [t1, t2, ← Int.add_mul]
      congr 1
      have : 2 * z * y = z * y + z * y := by rw [Int.mul_assoc, Int.two_mul]
      omega
    have a2 : g * (n.2 * w) = w * (y * w) := by rw [← Int.mul_assoc, ← gb, Int.mul_comm]
    rw [a1, a2]
  generalize h1 : PyData.tuple [PyData.int x, PyData.int y] = P
  generalize h2 : PyData.tuple [PyData.int z, PyData.int w] = R
  refine okP_is (okP_run ?_)
  unfold c_sum_f
  have f1 : ∀ μ, F_plus_f [.d (.tuple [.int 0, .int 1]), .d P] μ = .ok (.d P) μ := fun μ => by
    subst h1
    rw [e1 μ, s1]
  have f2 : ∀ μ, F_plus_f [.d P, .d R] μ = .ok (pr n) μ := fun μ => by
    subst h1 h2
    exact e2 μ
  have f3 : ∀ μ, F_plus_f [pr n, .d R] μ = .ok (pr (nrm (x * w + 2 * z * y) (y * w))) μ := fun μ => by
    subst h2
    rw [← s3]
    exact e3 μ
  refine seq_gen fun Q k => ?_
  simp [lim]
  refine k _ _ ?_
  refine seq_gen fun Q k => ?_
  simp
  refine for_cons rfl ?_
  simp [f1]
  refine for_cons rfl ?_
  simp [f2]
  refine for_cons rfl ?_
  simp [f3]
  refine for_nil ?_
  refine k _ _ ?_
  simp
theorem isfrac {x y : Int} (hx : Sm 30 x) (hy : Sm 30 y) (y0 : 0 < y) (r1 : nrm x y = (x, y)) (μ : Sto) : F_is_fraction [pr (x, y)] μ = .ok (.d (.bool true)) μ := by
  have e := fun μ => made_eq (p := x) (q := y) (by omega) (hx.lt (by decide)) (hy.lt (by decide)) μ
  rw [r1] at e
  have ee : dEq (.tuple [.int x, .int y]) (.tuple [.int x, .int y]) = some (.bool true) := by
    unfold dEq shal
    simp [PyData.depth, PyData.depthAll, PyData.eqv, PyData.eqvAll]
  generalize h1 : PyData.tuple [PyData.int x, PyData.int y] = P
  refine okP_is (okP_run ?_)
  subst h1
  unfold c_is_fraction
  simp [isiB, ix0, ix1, bN, wipeE, lim, e, ee, y0, bAll, bools?]
theorem same_bool (d : Nat) (a : Bool) (μ : Sto) : F__law_same (d + 1) [.d (.bool a), .d (.bool a)] μ = .ok (.d (.bool true)) μ := by
  rw [same_succ]
  generalize F__law_same d = Φ
  refine okP_is (okP_run ?_)
  unfold c__law_same
  have e : dEq (.bool a) (.bool a) = some (.bool true) := by cases a <;> kernel_rfl
  simp [dIs, FW.isNone, isiB, e]
theorem frac_ok {ns : List Int} {μ : Sto} (h : St ns μ) : okP (F__law_fractions [.loc 0] μ) (fun v μ' => v = .d (.bool true) ∧ St ns μ') := by
  have hl : μ.length = 1 := by obtain ⟨a, b, c, _, rfl⟩ := h; rfl
  refine okP_run ?_
  rw [hl]
  clear hl
  rw [split__law_fractions]
  unfold d__law_fractions
  refine seq_gen fun Q k => ?_
  unfold p_fractions_1
  simp only [w_set, w_op]
  refine w_pick rfl (by decide) (by decide) h fun a μ ha h => ?_
  simp
  refine k _ _ ?_
  clear k Q
  refine seq_gen fun Q k => ?_
  unfold p_fractions_2
  simp only [w_set, w_op, w_cK]
  refine w_pick rfl (by decide) (by decide) h fun b μ hb h => ?_
  simp
  refine k _ _ ?_
  clear k Q
  refine seq_gen fun Q k => ?_
  unfold p_fractions_3
  simp only [w_set, w_op]
  refine w_pick rfl (by decide) (by decide) h fun c μ hc h => ?_
  simp
  refine k _ _ ?_
  clear k Q
  refine seq_gen fun Q k => ?_
  unfold p_fractions_4
  simp only [w_set, w_op, w_cK]
  refine w_pick rfl (by decide) (by decide) h fun d μ hd h => ?_
  simp
  refine k _ _ ?_
  clear k Q
  obtain ⟨A, hA, bA⟩ : ∃ A : Int, A = (a : Int) - 20 ∧ Sm 20 A := ⟨_, rfl, by unfold Sm; omega⟩
  obtain ⟨B, hB, bB, B0⟩ : ∃ B : Int, B = 1 + (b : Int) ∧ Sm 20 B ∧ 0 < B := ⟨_, rfl, by unfold Sm; omega, by omega⟩
  obtain ⟨C, hC, bC⟩ : ∃ C : Int, C = (c : Int) - 20 ∧ Sm 20 C := ⟨_, rfl, by unfold Sm; omega⟩
  obtain ⟨E, hE, bE, E0⟩ : ∃ E : Int, E = 1 + (d : Int) ∧ Sm 20 E ∧ 0 < E := ⟨_, rfl, by unfold Sm; omega, by omega⟩
  rw [← hA, ← hB, ← hC, ← hE]
  clear hA hB hC hE ha hb hc hd a b c d
  -- the two fractions
  have oneE := fun μ => least_eq (p := A) (q := B) (by omega) (bA.lt (by decide)) (bB.lt (by decide)) μ
  have twoE := fun μ => least_eq (p := C) (q := E) (by omega) (bC.lt (by decide)) (bE.lt (by decide)) μ
  obtain ⟨g, g0, gA, gB⟩ := nrm_of (p := A) B0
  obtain ⟨j, j0, jC, jE⟩ := nrm_of (p := C) E0
  have y0 := nrm_snd (p := A) B0
  have w0 := nrm_snd (p := C) E0
  have l1 := nrm_le (p := A) B0
  have l2 := nrm_le (p := C) E0
  have r1 := nrm_self (p := A) B0
  have r2 := nrm_self (p := C) E0
  generalize nrm A B = n1 at *
  generalize nrm C E = n2 at *
  obtain ⟨x, y⟩ := n1
  obtain ⟨z, w⟩ := n2
  dsimp only at *
  have bx : Sm 20 x := Nat.le_trans l1.1 bA
  have by' : Sm 20 y := by unfold Sm at *; omega
  have bz : Sm 20 z := Nat.le_trans l2.1 bC
  have bw : Sm 20 w := by unfold Sm at *; omega
  have yw : 0 < y * w := Int.mul_pos y0 w0
  have gj : 0 < g * j := Int.mul_pos g0 j0
  have BE : B * E = (g * j) * (y * w) := by rw [gB, jE]; simp only [Int.mul_assoc, Int.mul_left_comm, Int.mul_comm]
  have AE : A * E = (g * j) * (x * w) := by rw [gA, jE]; simp only [Int.mul_assoc, Int.mul_left_comm, Int.mul_comm]
  have CB : C * B = (g * j) * (z * y) := by rw [gB, jC]; simp only [Int.mul_assoc, Int.mul_left_comm, Int.mul_comm]
  have AC : A * C = (g * j) * (x * z) := by rw [gA, jC]; simp only [Int.mul_assoc, Int.mul_left_comm, Int.mul_comm]
  have BC : B * C = (g * j) * (y * z) := by rw [gB, jC]; simp only [Int.mul_assoc, Int.mul_left_comm, Int.mul_comm]
  have same : ∀ (p : Int × Int) μ, F__law_same 30 [.d (.tuple [.int p.1, .int p.2]), .d (.tuple [.int p.1, .int p.2])] μ = .ok (.d (.bool true)) μ := fun p μ => same_pair 28 p.1 p.2 μ
  have sameB : ∀ (b : Bool) μ, F__law_same 30 [.d (.bool b), .d (.bool b)] μ = .ok (.d (.bool true)) μ := fun b μ => same_bool 29 b μ
  have mAE : dMulB (.int A) (.int E) = some (.int (A * E)) := mul_sm bA (by decide)
  have mCB : dMulB (.int C) (.int B) = some (.int (C * B)) := mul_sm bC (by decide)
  have mBE : dMulB (.int B) (.int E) = some (.int (B * E)) := mul_sm bB (by decide)
  have mAC : dMulB (.int A) (.int C) = some (.int (A * C)) := mul_sm bA (by decide)
  have mBC : dMulB (.int B) (.int C) = some (.int (B * C)) := mul_sm bB (by decide)
  have m2C : dMulB (.int 2) (.int C) = some (.int (2 * C)) := mulW_l (by decide) (by decide)
  have m2CB : dMulB (.int (2 * C)) (.int B) = some (.int (2 * C * B)) := mul_sm (i := 40) (by unfold Sm at *; omega) (by decide)
  have BE0 : B * E ≠ 0 := by have := Int.mul_pos B0 E0; omega
  have sBE : Sm 400 (B * E) := bB.mul bE
  -- one, two
  refine seq_gen fun Q k => ?_
  unfold p_fractions_5
  simp [oneE]
  refine k _ _ ?_
  clear k Q
  refine seq_gen fun Q k => ?_
  unfold p_fractions_6
  simp [twoE]
  refine k _ _ ?_
  clear k Q
  -- made, plus
  have m7 := fun μ => made_eq (p := A) (q := -B) (by omega) (bA.lt (by decide)) (by unfold Sm at *; omega) μ
  have l7 := fun μ => least_eq (p := A) (q := -B) (by omega) (bA.lt (by decide)) (by unfold Sm at *; omega) μ
  have p7 := fun μ => plus_eq (bx.le (by decide)) (by'.le (by decide)) (bz.le (by decide)) (bw.le (by decide)) μ (by omega)
  have q7 := fun μ => least_eq (p := A * E + C * B) (q := B * E) BE0 (((bA.mul bE).add (bC.mul bB)).lt (by decide)) (sBE.lt (by decide)) μ
  have e7 : nrm (A * E + C * B) (B * E) = nrm (x * w + z * y) (y * w) := by rw [AE, CB, BE, ← Int.mul_add, nrm_scale gj]
  rw [e7] at q7
  refine seq_gen fun Q k => ?_
  unfold p_fractions_7 p_fractions_7_t
  simp [m7, l7, same, p7, q7, mAE, mCB, mBE]
  refine k _ _ ?_
  clear k Q
  -- minus, times
  have p8 := fun μ => minus_eq (bx.le (by decide)) (by'.le (by decide)) (bz.le (by decide)) (bw.le (by decide)) μ (by omega)
  have q8 := fun μ => least_eq (p := A * E - C * B) (q := B * E) BE0 (((bA.mul bE).sub (bC.mul bB)).lt (by decide)) (sBE.lt (by decide)) μ
  have e8 : nrm (A * E - C * B) (B * E) = nrm (x * w - z * y) (y * w) := by rw [AE, CB, BE, ← Int.mul_sub, nrm_scale gj]
  rw [e8] at q8
  have p8' := fun μ => times_eq (bx.le (by decide)) (by'.le (by decide)) (bz.le (by decide)) (bw.le (by decide)) μ (by omega)
  have q8' := fun μ => least_eq (p := A * C) (q := B * E) BE0 ((bA.mul bC).lt (by decide)) (sBE.lt (by decide)) μ
  have e8' : nrm (A * C) (B * E) = nrm (x * z) (y * w) := by rw [AC, BE, nrm_scale gj]
  rw [e8'] at q8'
  refine seq_gen fun Q k => ?_
  unfold p_fractions_8 p_fractions_8_t
  simp [same, p8, q8, p8', q8', mAE, mCB, mBE, mAC]
  refine k _ _ ?_
  clear k Q
  -- over, below
  have p9 := fun μ => below_eq (bx.le (by decide)) (by'.le (by decide)) (bz.le (by decide)) (bw.le (by decide)) μ
  have e9 : (A * E < C * B) ↔ (x * w < z * y) := by
    rw [AE, CB]
    constructor
    · intro h; exact Int.lt_of_mul_lt_mul_left h (Int.le_of_lt gj)
    · intro h; exact Int.mul_lt_mul_of_pos_left h gj
  have e9' : decide (A * E < C * B) = decide (x * w < z * y) := decide_eq_decide.mpr e9
  have hne : dNe (.int C) (.int 0) = some (.bool (!decide (C = 0))) := dNe_int
  have t9 : ∀ μ, p_fractions_9_t [some (.loc 0), some (.d (.int A)), some (.d (.int B)), some (.d (.int C)), some (.d (.int E)), some (.d (.tuple [.int x, .int y])), some (.d (.tuple [.int z, .int w])), none] μ = .ok false μ := by
    intro μ
    unfold p_fractions_9_t
    refine okP_is ?_
    by_cases hC : C = 0
    · rw [decide_eq_true hC] at hne
      simp [-dNe_int, hne, p9, e9', sameB, mAE, mCB]
    · rw [decide_eq_false hC] at hne
      have yz0 : y * z ≠ 0 := by
        intro h0
        rcases Int.mul_eq_zero.mp h0 with h0 | h0
        · omega
        · exact hC (by rw [jC, h0, Int.mul_zero])
      have BC0 : B * C ≠ 0 := by
        intro h0
        rcases Int.mul_eq_zero.mp h0 with h0 | h0
        · omega
        · exact hC h0
      have p10 := fun μ => over_eq (bx.le (by decide)) (by'.le (by decide)) (bz.le (by decide)) (bw.le (by decide)) μ yz0
      have q10 := fun μ => least_eq (p := A * E) (q := B * C) BC0 ((bA.mul bE).lt (by decide)) ((bB.mul bC).lt (by decide)) μ
      have e10 : nrm (A * E) (B * C) = nrm (x * w) (y * z) := by rw [AE, BC, nrm_scale gj]
      rw [e10] at q10
      simp [-dNe_int, hne, p9, e9', sameB, mAE, mCB, mBC, p10, q10, same]
  refine seq_gen fun Q k => ?_
  unfold p_fractions_9
  simp [t9]
  refine k _ _ ?_
  clear k Q t9
  -- sums, sizes
  have s10 := fun μ => sum3 (bx.le (by decide)) (by'.le (by decide)) (bz.le (by decide)) (bw.le (by decide)) y0 w0 r1 μ
  have q10 := fun μ => least_eq (p := A * E + 2 * C * B) (q := B * E) BE0 ((((bA.mul bE).add ((show Sm 40 (2 * C) by unfold Sm at *; omega).mul bB))).lt (by decide)) (sBE.lt (by decide)) μ
  have e10 : nrm (A * E + 2 * C * B) (B * E) = nrm (x * w + 2 * z * y) (y * w) := by
    have : 2 * C * B = (g * j) * (2 * z * y) := by
      rw [Int.mul_assoc, CB, Int.mul_assoc 2 z y, Int.mul_left_comm]
    rw [AE, this, BE, ← Int.mul_add, nrm_scale gj]
  rw [e10] at q10
  have q11 := fun μ => least_eq (p := (A.natAbs : Int)) (q := B) (by omega) (by unfold Sm at bA; omega) (bB.lt (by decide)) μ
  have e11 : nrm (A.natAbs : Int) B = ((x.natAbs : Int), y) := by
    have a1 : (A.natAbs : Int) = g * (x.natAbs : Int) := by rw [gA, Int.natAbs_mul, Int.natCast_mul, Int.natAbs_of_nonneg (Int.le_of_lt g0)]
    have gy : (Int.gcd x y : Int) = 1 := by
      have r2' : (if 0 < y then y else -y) / (Int.gcd x y : Int) = y := congrArg Prod.snd r1
      rw [if_pos y0] at r2'
      have d := Int.mul_ediv_cancel' (Int.gcd_dvd_right (a := x) (b := y))
      rw [r2'] at d
      have : (Int.gcd x y : Int) * y = 1 * y := by rw [d, Int.one_mul]
      exact Int.eq_of_mul_eq_mul_right (by omega) this
    have gy' : (Int.gcd (x.natAbs : Int) y : Int) = 1 := by
      rw [← gy]
      unfold Int.gcd
      rw [Int.natAbs_natCast]
    rw [a1, gB, nrm_scale g0]
    unfold nrm
    rw [gy', if_pos y0, if_pos y0, Int.ediv_one, Int.ediv_one]
  rw [e11] at q11
  have sz := fun μ => size_eq (x := x) (y := y) μ
  have nz : dNe (.tuple [.int 0, .int 1]) (.tuple [.int 0, .int 1]) = some (.bool false) := by kernel_rfl
  refine seq_gen fun Q k => ?_
  unfold p_fractions_10 p_fractions_10_t
  simp [lim, sum_nil, nz, s10, q10, mAE, m2C, m2CB, mBE, same, abs_nat, q11, sz]
  refine k _ _ ?_
  clear k Q
  -- which values are fractions
  unfold p_fractions_11
  obtain ⟨a, b, c, ha, rfl⟩ := h
  have if1 := fun μ => isfrac (bx.le (by decide)) (by'.le (by decide)) y0 r1 μ
  generalize hm : [Cell.lst [PyData.list (ns.map PyData.int), .int a, .int b, .int c]] = μ
  have f2 : F_is_fraction [.d (.tuple [.int 2, .int 4])] μ = .ok (.d (.bool false)) μ := by subst hm; kernel_rfl
  have f3 : F_is_fraction [.d (.tuple [.int 1, .int 0])] μ = .ok (.d (.bool false)) μ := by subst hm; kernel_rfl
  have f4 : F_is_fraction [.d (.tuple [.int 1, .int (-2)])] μ = .ok (.d (.bool false)) μ := by subst hm; kernel_rfl
  have f5 : F_is_fraction [.d (.list [.int 1, .int 2])] μ = .ok (.d (.bool false)) μ := by subst hm; kernel_rfl
  have f6 : F_is_fraction [.d (.tuple [.bool true, .int 2])] μ = .ok (.d (.bool false)) μ := by subst hm; kernel_rfl
  have f7 : F_is_fraction [.d .none] μ = .ok (.d (.bool false)) μ := by subst hm; kernel_rfl
  have f8 : F_is_fraction [.d (.tuple [.int 0, .int 2])] μ = .ok (.d (.bool false)) μ := by subst hm; kernel_rfl
  have g1 : dMulB (.list [.bool false]) (.int 7) = some (.list (List.replicate 7 (.bool false))) := by kernel_rfl
  have g2 : dAdd (.list [.bool true]) (.list (List.replicate 7 (.bool false))) = some (.list (.bool true :: List.replicate 7 (.bool false))) := by kernel_rfl
  have g3 : dEq (.list [.bool true, .bool false, .bool false, .bool false, .bool false, .bool false, .bool false, .bool false]) (.list (.bool true :: List.replicate 7 (.bool false))) = some (.bool true) := by kernel_rfl
  have hl : List.take 1 μ = μ := by subst hm; rfl
  have hst : St ns μ := ⟨a, b, c, ha, hm.symm⟩
  simp [-List.reduceReplicate, lim, dNeg, bN, wipeE, if1, f2, f3, f4, f5, f6, f7, f8, g1, g2, g3, hl, hst]
end K00


set_option Elab.async false
set_option linter.all false
set_option maxRecDepth 100000
set_option maxHeartbeats 8000000
namespace K00
open PySem PySem.Spec FW
abbrev cel (ns : List D) (a b c : Int) : Sto := [Cell.lst [PyData.list ns, .int a, .int b, .int c]]
def placeL : List D := (List.range 100).map (fun (r : Nat) => PyData.int (r : Int)) ++ [.tuple [.int 1, .int 2], .none, .str "a"]
def nam : D := .list [.str "InvalidFamily", .str "InvalidPaper", .str "InvalidRow", .str "InvalidTable", .str "InvalidText", .str "InvalidWeb", .str "TooLarge", .str "EvensplitsError"]
theorem sec4 (x0 : Option Val) (ns : List D) (a b c : Int) : (placeL.map fun p => l_4 0 [x0, some (.loc 0), some (.d p), some (.d nam), none, none, none, none, none, none, none, none, none, none, none, none, none, none] (cel ns a b c)) =
    foldE (fun p => O.next [x0, some (.loc 0), some (.d p), some (.d nam), some (.d (.int 7)), none, none, none, none, none, none, none, none, none, none, none, none, none] (cel ns a b c)) placeL := by kernel_rfl
def fam (m s : Nat) : D := .tuple (cut [.tuple [.int 0, .int 1], .tuple [.int (2 + (m : Int) - 1)], .tuple [.int 0, .int 1]] none (some (s : Int)))
def bads (m : Nat) : List D := [.tuple [], .tuple [.int 0, .int (2 + (m : Int))], .tuple [.int 1, .int 0], .tuple [.int 0, .int 0], .list [.int 0, .int 1], .none, .tuple [.bool true], .tuple [.int (-1), .int 0]]
def T9 : List (Nat × Nat × Nat × D) := (List.range 4).flatMap fun m => (List.range 4).flatMap fun s => (List.range (s + 1)).flatMap fun t => (bads m).map fun u => (m, s, t, u)
section
variable (x0 x2 x3 x4 x5 x6 x7 x8 x9 x10 x11 x12 x13 x14 x15 x16 x17 : Option Val) (ns : List D) (a b c : Int)
theorem sec9 : (T9.map fun (p : Nat × Nat × Nat × D) => l_9_t [x0, some (.loc 0), x2, x3, x4, some (.d (.int (2 + (p.1 : Int)))), some (.d (fam p.1 p.2.1)), some (.d (.int (p.2.2.1 : Int))), some (.d p.2.2.2), x9, x10, x11, x12, x13, x14, x15, x16, x17] (cel ns a b c)) = foldE (fun _ => .ok false (cel ns a b c)) T9 := by kernel_rfl
def T10 : List (Nat × Nat) := (List.range 4).flatMap fun m => (List.range 4).map fun s => (m, s)
def told : D := .list [.tuple [.str "InvalidFamily", .none], .tuple [.str "InvalidFamily", .none], .tuple [.str "InvalidFamily", .none], .tuple [.str "InvalidFamily", .none]]
theorem sec10 : (T10.map fun (p : Nat × Nat) => l_10 0 [x0, some (.loc 0), x2, x3, x4, some (.d (.int (2 + (p.1 : Int)))), some (.d (fam p.1 p.2)), x7, x8, x9, x10, x11, x12, x13, x14, x15, x16, x17] (cel ns a b c)) = foldE (fun p => .next [x0, some (.loc 0), x2, x3, x4, some (.d (.int (2 + (p.1 : Int)))), some (.d (fam p.1 p.2)), x7, x8, some (.d told), x10, x11, x12, x13, x14, x15, x16, x17] (cel ns a b c)) T10 := by kernel_rfl
theorem sec11 : l_11_t [x0, some (.loc 0), x2, x3, x4, x5, x6, x7, x8, some (.d told), x10, x11, x12, x13, x14, x15, x16, x17] (cel ns a b c) = .ok false (cel ns a b c) := by kernel_rfl
def signsL : Nat → List (List D)
  | 0 => [[]]
  | n + 1 => (signsL n).flatMap fun l => [.int 1 :: l, .int (-1) :: l]
theorem signs_mem : ∀ ys : List D, (∀ y ∈ ys, y = .int 1 ∨ y = .int (-1)) → ys ∈ signsL ys.length
  | [], _ => by simp [signsL]
  | y :: ys, h => by
    have ih := signs_mem ys fun z hz => h z (List.mem_cons_of_mem _ hz)
    rw [List.length_cons, signsL, List.mem_flatMap]
    refine ⟨ys, ih, ?_⟩
    rcases h y List.mem_cons_self with rfl | rfl <;> simp
def odds (ys : List D) : List D := [.tuple (ys ++ [.int 1]), .tuple (ys.drop 1), .list ys, .none, .tuple (.int 0 :: ys.drop 1), .tuple (.bool true :: ys.drop 1), .tuple (.int 2 :: ys.drop 1)]
def T13 : List (List D) := (List.range 4).flatMap fun m => signsL (2 + m)
theorem sec13 : (T13.map fun ys => l_13_a [x0, some (.loc 0), x2, x3, x4, x5, x6, x7, x8, x9, some (.d (.tuple ys)), x11, x12, x13, x14, x15, x16, x17] (cel ns a b c)) = foldE (fun ys => .ok (.d (.list (odds ys))) (cel ns a b c)) T13 := by kernel_rfl
def T14 : List (Nat × List D × D) := (List.range 4).flatMap fun m => (signsL (2 + m)).flatMap fun ys => (odds ys).map fun o => (m, ys, o)
theorem sec14 : (T14.map fun (p : Nat × List D × D) => l_14_t [x0, some (.loc 0), x2, x3, x4, some (.d (.int (2 + (p.1 : Int)))), x6, x7, x8, x9, some (.d (.tuple p.2.1)), some (.d p.2.2), x12, x13, x14, x15, x16, x17] (cel ns a b c)) = foldE (fun _ => .ok false (cel ns a b c)) T14 := by kernel_rfl
def plc (s : Nat) : D := .tuple (cut [.tuple [.int 0, .int 1], .tuple [.int 0, .int 2], .tuple [.int 2, .int 0]] none (some (s : Int)))
def badp : List D := [.tuple [.int 0], .tuple [.int 0, .int (-1)], .list [.int 9, .int 9], .none, .tuple [.bool true, .int 9], .tuple [.int 9, .int 9, .int 9], .tuple [.int (-1), .int 0]]
def T20 : List (Nat × D) := (List.range 4).flatMap fun s => badp.map fun u => (s, u)
theorem sec20 : (T20.map fun (p : Nat × D) => l_20_t [x0, some (.loc 0), x2, x3, x4, x5, x6, x7, some (.d p.2), x9, x10, x11, x12, some (.d (plc p.1)), x14, x15, x16, x17] (cel ns a b c)) = foldE (fun _ => .ok false (cel ns a b c)) T20 := by kernel_rfl
theorem sec21 : ((List.range 4).map fun s => l_21_t [x0, some (.loc 0), x2, x3, x4, x5, x6, x7, x8, x9, x10, x11, x12, some (.d (plc s)), x14, x15, x16, x17] (cel ns a b c)) = foldE (fun _ => .ok false (cel ns a b c)) (List.range 4) := by kernel_rfl
def arr (m s : Nat) : D := .tuple (cut [.tuple [.int 0, .int 1], .tuple [.int 1, .int 0], .tuple [.int (2 + (m : Int) - 1), .int 0]] none (some (s : Int)))
def bada (m : Nat) : List D := [.tuple [.int 0, .int 0], .tuple [.int 0, .int (2 + (m : Int))], .tuple [.int 0], .list [.int 0, .int 1], .none, .tuple [.bool true, .int 0], .tuple [.int 0, .int (-1)]]
def T24 : List (Nat × Nat × D) := (List.range 4).flatMap fun m => (List.range 4).flatMap fun s => (bada m).map fun u => (m, s, u)
theorem sec24 : (T24.map fun (p : Nat × Nat × D) => l_24_t [x0, some (.loc 0), x2, x3, x4, some (.d (.int (2 + (p.1 : Int)))), x6, x7, some (.d p.2.2), x9, x10, x11, x12, x13, some (.d (arr p.1 p.2.1)), x15, x16, x17] (cel ns a b c)) = foldE (fun _ => .ok false (cel ns a b c)) T24 := by kernel_rfl
end
end K00


set_option Elab.async false
set_option linter.all false
set_option maxRecDepth 100000
set_option maxHeartbeats 8000000
namespace K00
open PySem PySem.Spec FW
def oddt (n : Nat) (rows : List D) : List D := [.tuple (rows ++ [.tuple (List.replicate (n + 1) (.int 0)), .tuple (List.replicate n (.int 0))]), .list rows, .none, .tuple (rows ++ [.list (List.replicate n (.int 0))]), .tuple (rows ++ [.tuple (List.replicate n (.bool true))]), .tuple (rows ++ [.none])]
section
variable (x0 x2 x3 x4 x5 x6 x7 x8 x9 x10 x11 x12 x13 x14 x15 x16 x17 : Option Val) (ns : List D) (a b c : Int)
theorem s16_2_0 : l_16_a [x0, some (.loc 0), x2, x3, x4, some (.d (.int (2 + ((0 : Nat) : Int)))), x6, x7, x8, x9, x10, x11, some (.d (.tuple [])), x13, x14, x15, x16, x17] (cel ns a b c) = .ok (.d (.list (oddt 2 []))) (cel ns a b c) := by kernel_rfl
theorem s17_2_0 : ((oddt 2 []).map fun o => l_17_t [x0, some (.loc 0), x2, x3, x4, some (.d (.int (2 + ((0 : Nat) : Int)))), x6, x7, x8, x9, x10, some (.d o), some (.d (.tuple [])), x13, x14, x15, x16, x17] (cel ns a b c)) = foldE (fun _ => .ok false (cel ns a b c)) (oddt 2 []) := by kernel_rfl
theorem s16_2_1 (v0 v1 : Int) : l_16_a [x0, some (.loc 0), x2, x3, x4, some (.d (.int (2 + ((0 : Nat) : Int)))), x6, x7, x8, x9, x10, x11, some (.d (.tuple [.tuple [.int v0, .int v1]])), x13, x14, x15, x16, x17] (cel ns a b c) = .ok (.d (.list (oddt 2 [.tuple [.int v0, .int v1]]))) (cel ns a b c) := by kernel_rfl
theorem s17_2_1 (v0 v1 : Int) : ((oddt 2 [.tuple [.int v0, .int v1]]).map fun o => l_17_t [x0, some (.loc 0), x2, x3, x4, some (.d (.int (2 + ((0 : Nat) : Int)))), x6, x7, x8, x9, x10, some (.d o), some (.d (.tuple [.tuple [.int v0, .int v1]])), x13, x14, x15, x16, x17] (cel ns a b c)) = foldE (fun _ => .ok false (cel ns a b c)) (oddt 2 [.tuple [.int v0, .int v1]]) := by kernel_rfl
theorem s16_2_2 (v0 v1 v2 v3 : Int) : l_16_a [x0, some (.loc 0), x2, x3, x4, some (.d (.int (2 + ((0 : Nat) : Int)))), x6, x7, x8, x9, x10, x11, some (.d (.tuple [.tuple [.int v0, .int v1], .tuple [.int v2, .int v3]])), x13, x14, x15, x16, x17] (cel ns a b c) = .ok (.d (.list (oddt 2 [.tuple [.int v0, .int v1], .tuple [.int v2, .int v3]]))) (cel ns a b c) := by kernel_rfl
theorem s17_2_2 (v0 v1 v2 v3 : Int) : ((oddt 2 [.tuple [.int v0, .int v1], .tuple [.int v2, .int v3]]).map fun o => l_17_t [x0, some (.loc 0), x2, x3, x4, some (.d (.int (2 + ((0 : Nat) : Int)))), x6, x7, x8, x9, x10, some (.d o), some (.d (.tuple [.tuple [.int v0, .int v1], .tuple [.int v2, .int v3]])), x13, x14, x15, x16, x17] (cel ns a b c)) = foldE (fun _ => .ok false (cel ns a b c)) (oddt 2 [.tuple [.int v0, .int v1], .tuple [.int v2, .int v3]]) := by kernel_rfl
theorem s16_3_0 : l_16_a [x0, some (.loc 0), x2, x3, x4, some (.d (.int (2 + ((1 : Nat) : Int)))), x6, x7, x8, x9, x10, x11, some (.d (.tuple [])), x13, x14, x15, x16, x17] (cel ns a b c) = .ok (.d (.list (oddt 3 []))) (cel ns a b c) := by kernel_rfl
theorem s17_3_0 : ((oddt 3 []).map fun o => l_17_t [x0, some (.loc 0), x2, x3, x4, some (.d (.int (2 + ((1 : Nat) : Int)))), x6, x7, x8, x9, x10, some (.d o), some (.d (.tuple [])), x13, x14, x15, x16, x17] (cel ns a b c)) = foldE (fun _ => .ok false (cel ns a b c)) (oddt 3 []) := by kernel_rfl
theorem s16_3_1 (v0 v1 v2 : Int) : l_16_a [x0, some (.loc 0), x2, x3, x4, some (.d (.int (2 + ((1 : Nat) : Int)))), x6, x7, x8, x9, x10, x11, some (.d (.tuple [.tuple [.int v0, .int v1, .int v2]])), x13, x14, x15, x16, x17] (cel ns a b c) = .ok (.d (.list (oddt 3 [.tuple [.int v0, .int v1, .int v2]]))) (cel ns a b c) := by kernel_rfl
theorem s17_3_1 (v0 v1 v2 : Int) : ((oddt 3 [.tuple [.int v0, .int v1, .int v2]]).map fun o => l_17_t [x0, some (.loc 0), x2, x3, x4, some (.d (.int (2 + ((1 : Nat) : Int)))), x6, x7, x8, x9, x10, some (.d o), some (.d (.tuple [.tuple [.int v0, .int v1, .int v2]])), x13, x14, x15, x16, x17] (cel ns a b c)) = foldE (fun _ => .ok false (cel ns a b c)) (oddt 3 [.tuple [.int v0, .int v1, .int v2]]) := by kernel_rfl
theorem s16_3_2 (v0 v1 v2 v3 v4 v5 : Int) : l_16_a [x0, some (.loc 0), x2, x3, x4, some (.d (.int (2 + ((1 : Nat) : Int)))), x6, x7, x8, x9, x10, x11, some (.d (.tuple [.tuple [.int v0, .int v1, .int v2], .tuple [.int v3, .int v4, .int v5]])), x13, x14, x15, x16, x17] (cel ns a b c) = .ok (.d (.list (oddt 3 [.tuple [.int v0, .int v1, .int v2], .tuple [.int v3, .int v4, .int v5]]))) (cel ns a b c) := by kernel_rfl
theorem s17_3_2 (v0 v1 v2 v3 v4 v5 : Int) : ((oddt 3 [.tuple [.int v0, .int v1, .int v2], .tuple [.int v3, .int v4, .int v5]]).map fun o => l_17_t [x0, some (.loc 0), x2, x3, x4, some (.d (.int (2 + ((1 : Nat) : Int)))), x6, x7, x8, x9, x10, some (.d o), some (.d (.tuple [.tuple [.int v0, .int v1, .int v2], .tuple [.int v3, .int v4, .int v5]])), x13, x14, x15, x16, x17] (cel ns a b c)) = foldE (fun _ => .ok false (cel ns a b c)) (oddt 3 [.tuple [.int v0, .int v1, .int v2], .tuple [.int v3, .int v4, .int v5]]) := by kernel_rfl
theorem s16_4_0 : l_16_a [x0, some (.loc 0), x2, x3, x4, some (.d (.int (2 + ((2 : Nat) : Int)))), x6, x7, x8, x9, x10, x11, some (.d (.tuple [])), x13, x14, x15, x16, x17] (cel ns a b c) = .ok (.d (.list (oddt 4 []))) (cel ns a b c) := by kernel_rfl
theorem s17_4_0 : ((oddt 4 []).map fun o => l_17_t [x0, some (.loc 0), x2, x3, x4, some (.d (.int (2 + ((2 : Nat) : Int)))), x6, x7, x8, x9, x10, some (.d o), some (.d (.tuple [])), x13, x14, x15, x16, x17] (cel ns a b c)) = foldE (fun _ => .ok false (cel ns a b c)) (oddt 4 []) := by kernel_rfl
theorem s16_4_1 (v0 v1 v2 v3 : Int) : l_16_a [x0, some (.loc 0), x2, x3, x4, some (.d (.int (2 + ((2 : Nat) : Int)))), x6, x7, x8, x9, x10, x11, some (.d (.tuple [.tuple [.int v0, .int v1, .int v2, .int v3]])), x13, x14, x15, x16, x17] (cel ns a b c) = .ok (.d (.list (oddt 4 [.tuple [.int v0, .int v1, .int v2, .int v3]]))) (cel ns a b c) := by kernel_rfl
theorem s17_4_1 (v0 v1 v2 v3 : Int) : ((oddt 4 [.tuple [.int v0, .int v1, .int v2, .int v3]]).map fun o => l_17_t [x0, some (.loc 0), x2, x3, x4, some (.d (.int (2 + ((2 : Nat) : Int)))), x6, x7, x8, x9, x10, some (.d o), some (.d (.tuple [.tuple [.int v0, .int v1, .int v2, .int v3]])), x13, x14, x15, x16, x17] (cel ns a b c)) = foldE (fun _ => .ok false (cel ns a b c)) (oddt 4 [.tuple [.int v0, .int v1, .int v2, .int v3]]) := by kernel_rfl
theorem s16_4_2 (v0 v1 v2 v3 v4 v5 v6 v7 : Int) : l_16_a [x0, some (.loc 0), x2, x3, x4, some (.d (.int (2 + ((2 : Nat) : Int)))), x6, x7, x8, x9, x10, x11, some (.d (.tuple [.tuple [.int v0, .int v1, .int v2, .int v3], .tuple [.int v4, .int v5, .int v6, .int v7]])), x13, x14, x15, x16, x17] (cel ns a b c) = .ok (.d (.list (oddt 4 [.tuple [.int v0, .int v1, .int v2, .int v3], .tuple [.int v4, .int v5, .int v6, .int v7]]))) (cel ns a b c) := by kernel_rfl
theorem s17_4_2 (v0 v1 v2 v3 v4 v5 v6 v7 : Int) : ((oddt 4 [.tuple [.int v0, .int v1, .int v2, .int v3], .tuple [.int v4, .int v5, .int v6, .int v7]]).map fun o => l_17_t [x0, some (.loc 0), x2, x3, x4, some (.d (.int (2 + ((2 : Nat) : Int)))), x6, x7, x8, x9, x10, some (.d o), some (.d (.tuple [.tuple [.int v0, .int v1, .int v2, .int v3], .tuple [.int v4, .int v5, .int v6, .int v7]])), x13, x14, x15, x16, x17] (cel ns a b c)) = foldE (fun _ => .ok false (cel ns a b c)) (oddt 4 [.tuple [.int v0, .int v1, .int v2, .int v3], .tuple [.int v4, .int v5, .int v6, .int v7]]) := by kernel_rfl
theorem s16_5_0 : l_16_a [x0, some (.loc 0), x2, x3, x4, some (.d (.int (2 + ((3 : Nat) : Int)))), x6, x7, x8, x9, x10, x11, some (.d (.tuple [])), x13, x14, x15, x16, x17] (cel ns a b c) = .ok (.d (.list (oddt 5 []))) (cel ns a b c) := by kernel_rfl
theorem s17_5_0 : ((oddt 5 []).map fun o => l_17_t [x0, some (.loc 0), x2, x3, x4, some (.d (.int (2 + ((3 : Nat) : Int)))), x6, x7, x8, x9, x10, some (.d o), some (.d (.tuple [])), x13, x14, x15, x16, x17] (cel ns a b c)) = foldE (fun _ => .ok false (cel ns a b c)) (oddt 5 []) := by kernel_rfl
theorem s16_5_1 (v0 v1 v2 v3 v4 : Int) : l_16_a [x0, some (.loc 0), x2, x3, x4, some (.d (.int (2 + ((3 : Nat) : Int)))), x6, x7, x8, x9, x10, x11, some (.d (.tuple [.tuple [.int v0, .int v1, .int v2, .int v3, .int v4]])), x13, x14, x15, x16, x17] (cel ns a b c) = .ok (.d (.list (oddt 5 [.tuple [.int v0, .int v1, .int v2, .int v3, .int v4]]))) (cel ns a b c) := by kernel_rfl
theorem s17_5_1 (v0 v1 v2 v3 v4 : Int) : ((oddt 5 [.tuple [.int v0, .int v1, .int v2, .int v3, .int v4]]).map fun o => l_17_t [x0, some (.loc 0), x2, x3, x4, some (.d (.int (2 + ((3 : Nat) : Int)))), x6, x7, x8, x9, x10, some (.d o), some (.d (.tuple [.tuple [.int v0, .int v1, .int v2, .int v3, .int v4]])), x13, x14, x15, x16, x17] (cel ns a b c)) = foldE (fun _ => .ok false (cel ns a b c)) (oddt 5 [.tuple [.int v0, .int v1, .int v2, .int v3, .int v4]]) := by kernel_rfl
theorem s16_5_2 (v0 v1 v2 v3 v4 v5 v6 v7 v8 v9 : Int) : l_16_a [x0, some (.loc 0), x2, x3, x4, some (.d (.int (2 + ((3 : Nat) : Int)))), x6, x7, x8, x9, x10, x11, some (.d (.tuple [.tuple [.int v0, .int v1, .int v2, .int v3, .int v4], .tuple [.int v5, .int v6, .int v7, .int v8, .int v9]])), x13, x14, x15, x16, x17] (cel ns a b c) = .ok (.d (.list (oddt 5 [.tuple [.int v0, .int v1, .int v2, .int v3, .int v4], .tuple [.int v5, .int v6, .int v7, .int v8, .int v9]]))) (cel ns a b c) := by kernel_rfl
theorem s17_5_2 (v0 v1 v2 v3 v4 v5 v6 v7 v8 v9 : Int) : ((oddt 5 [.tuple [.int v0, .int v1, .int v2, .int v3, .int v4], .tuple [.int v5, .int v6, .int v7, .int v8, .int v9]]).map fun o => l_17_t [x0, some (.loc 0), x2, x3, x4, some (.d (.int (2 + ((3 : Nat) : Int)))), x6, x7, x8, x9, x10, some (.d o), some (.d (.tuple [.tuple [.int v0, .int v1, .int v2, .int v3, .int v4], .tuple [.int v5, .int v6, .int v7, .int v8, .int v9]])), x13, x14, x15, x16, x17] (cel ns a b c)) = foldE (fun _ => .ok false (cel ns a b c)) (oddt 5 [.tuple [.int v0, .int v1, .int v2, .int v3, .int v4], .tuple [.int v5, .int v6, .int v7, .int v8, .int v9]]) := by kernel_rfl
def Row (m : Nat) (d : D) : Prop := ∃ ys : List Int, ys.length = 2 + m ∧ d = .tuple (ys.map PyData.int)
theorem row2 {d : D} (h : Row 0 d) : ∃ a0 a1 : Int, d = .tuple [.int a0, .int a1] := by
  obtain ⟨ys, hl, rfl⟩ := h
  match ys, hl with
  | [a0, a1], _ => exact ⟨a0, a1, rfl⟩
theorem row3 {d : D} (h : Row 1 d) : ∃ a0 a1 a2 : Int, d = .tuple [.int a0, .int a1, .int a2] := by
  obtain ⟨ys, hl, rfl⟩ := h
  match ys, hl with
  | [a0, a1, a2], _ => exact ⟨a0, a1, a2, rfl⟩
theorem row4 {d : D} (h : Row 2 d) : ∃ a0 a1 a2 a3 : Int, d = .tuple [.int a0, .int a1, .int a2, .int a3] := by
  obtain ⟨ys, hl, rfl⟩ := h
  match ys, hl with
  | [a0, a1, a2, a3], _ => exact ⟨a0, a1, a2, a3, rfl⟩
theorem row5 {d : D} (h : Row 3 d) : ∃ a0 a1 a2 a3 a4 : Int, d = .tuple [.int a0, .int a1, .int a2, .int a3, .int a4] := by
  obtain ⟨ys, hl, rfl⟩ := h
  match ys, hl with
  | [a0, a1, a2, a3, a4], _ => exact ⟨a0, a1, a2, a3, a4, rfl⟩
theorem sec16 {m : Nat} (hm : m < 4) {rows : List D} (hl : rows.length < 3) (hr : ∀ d ∈ rows, Row m d) : l_16_a [x0, some (.loc 0), x2, x3, x4, some (.d (.int (2 + (m : Int)))), x6, x7, x8, x9, x10, x11, some (.d (.tuple rows)), x13, x14, x15, x16, x17] (cel ns a b c) = .ok (.d (.list (oddt (2 + m) rows))) (cel ns a b c) := by
  match m, hm with
  | 0, _ => match rows, hl, hr with
    | [], _, _ => exact s16_2_0 x0 x2 x3 x4 x6 x7 x8 x9 x10 x11 x13 x14 x15 x16 x17 ns a b c
    | [p], _, hr =>
      obtain ⟨a0, a1, rfl⟩ := row2 (hr p (by simp))
      exact s16_2_1 x0 x2 x3 x4 x6 x7 x8 x9 x10 x11 x13 x14 x15 x16 x17 ns a b c a0 a1
    | [p, q], _, hr =>
      obtain ⟨a0, a1, rfl⟩ := row2 (hr p (by simp))
      obtain ⟨b0, b1, rfl⟩ := row2 (hr q (by simp))
      exact s16_2_2 x0 x2 x3 x4 x6 x7 x8 x9 x10 x11 x13 x14 x15 x16 x17 ns a b c a0 a1 b0 b1
    | _ :: _ :: _ :: _, hl, _ => exact absurd hl (by simp only [List.length_cons]; omega)
  | 1, _ => match rows, hl, hr with
    | [], _, _ => exact s16_3_0 x0 x2 x3 x4 x6 x7 x8 x9 x10 x11 x13 x14 x15 x16 x17 ns a b c
    | [p], _, hr =>
      obtain ⟨a0, a1, a2, rfl⟩ := row3 (hr p (by simp))
      exact s16_3_1 x0 x2 x3 x4 x6 x7 x8 x9 x10 x11 x13 x14 x15 x16 x17 ns a b c a0 a1 a2
    | [p, q], _, hr =>
      obtain ⟨a0, a1, a2, rfl⟩ := row3 (hr p (by simp))
      obtain ⟨b0, b1, b2, rfl⟩ := row3 (hr q (by simp))
      exact s16_3_2 x0 x2 x3 x4 x6 x7 x8 x9 x10 x11 x13 x14 x15 x16 x17 ns a b c a0 a1 a2 b0 b1 b2
    | _ :: _ :: _ :: _, hl, _ => exact absurd hl (by simp only [List.length_cons]; omega)
  | 2, _ => match rows, hl, hr with
    | [], _, _ => exact s16_4_0 x0 x2 x3 x4 x6 x7 x8 x9 x10 x11 x13 x14 x15 x16 x17 ns a b c
    | [p], _, hr =>
      obtain ⟨a0, a1, a2, a3, rfl⟩ := row4 (hr p (by simp))
      exact s16_4_1 x0 x2 x3 x4 x6 x7 x8 x9 x10 x11 x13 x14 x15 x16 x17 ns a b c a0 a1 a2 a3
    | [p, q], _, hr =>
      obtain ⟨a0, a1, a2, a3, rfl⟩ := row4 (hr p (by simp))
      obtain ⟨b0, b1, b2, b3, rfl⟩ := row4 (hr q (by simp))
      exact s16_4_2 x0 x2 x3 x4 x6 x7 x8 x9 x10 x11 x13 x14 x15 x16 x17 ns a b c a0 a1 a2 a3 b0 b1 b2 b3
    | _ :: _ :: _ :: _, hl, _ => exact absurd hl (by simp only [List.length_cons]; omega)
  | 3, _ => match rows, hl, hr with
    | [], _, _ => exact s16_5_0 x0 x2 x3 x4 x6 x7 x8 x9 x10 x11 x13 x14 x15 x16 x17 ns a b c
    | [p], _, hr =>
      obtain ⟨a0, a1, a2, a3, a4, rfl⟩ := row5 (hr p (by simp))
      exact s16_5_1 x0 x2 x3 x4 x6 x7 x8 x9 x10 x11 x13 x14 x15 x16 x17 ns a b c a0 a1 a2 a3 a4
    | [p, q], _, hr =>
      obtain ⟨a0, a1, a2, a3, a4, rfl⟩ := row5 (hr p (by simp))
      obtain ⟨b0, b1, b2, b3, b4, rfl⟩ := row5 (hr q (by simp))
      exact s16_5_2 x0 x2 x3 x4 x6 x7 x8 x9 x10 x11 x13 x14 x15 x16 x17 ns a b c a0 a1 a2 a3 a4 b0 b1 b2 b3 b4
    | _ :: _ :: _ :: _, hl, _ => exact absurd hl (by simp only [List.length_cons]; omega)
  | n + 4, hm => exact absurd hm (by omega)
theorem sec17 {m : Nat} (hm : m < 4) {rows : List D} (hl : rows.length < 3) (hr : ∀ d ∈ rows, Row m d) : ((oddt (2 + m) rows).map fun o => l_17_t [x0, some (.loc 0), x2, x3, x4, some (.d (.int (2 + (m : Int)))), x6, x7, x8, x9, x10, some (.d o), some (.d (.tuple rows)), x13, x14, x15, x16, x17] (cel ns a b c)) = foldE (fun _ => .ok false (cel ns a b c)) (oddt (2 + m) rows) := by
  match m, hm with
  | 0, _ => match rows, hl, hr with
    | [], _, _ => exact s17_2_0 x0 x2 x3 x4 x6 x7 x8 x9 x10 x13 x14 x15 x16 x17 ns a b c
    | [p], _, hr =>
      obtain ⟨a0, a1, rfl⟩ := row2 (hr p (by simp))
      exact s17_2_1 x0 x2 x3 x4 x6 x7 x8 x9 x10 x13 x14 x15 x16 x17 ns a b c a0 a1
    | [p, q], _, hr =>
      obtain ⟨a0, a1, rfl⟩ := row2 (hr p (by simp))
      obtain ⟨b0, b1, rfl⟩ := row2 (hr q (by simp))
      exact s17_2_2 x0 x2 x3 x4 x6 x7 x8 x9 x10 x13 x14 x15 x16 x17 ns a b c a0 a1 b0 b1
    | _ :: _ :: _ :: _, hl, _ => exact absurd hl (by simp only [List.length_cons]; omega)
  | 1, _ => match rows, hl, hr with
    | [], _, _ => exact s17_3_0 x0 x2 x3 x4 x6 x7 x8 x9 x10 x13 x14 x15 x16 x17 ns a b c
    | [p], _, hr =>
      obtain ⟨a0, a1, a2, rfl⟩ := row3 (hr p (by simp))
      exact s17_3_1 x0 x2 x3 x4 x6 x7 x8 x9 x10 x13 x14 x15 x16 x17 ns a b c a0 a1 a2
    | [p, q], _, hr =>
      obtain ⟨a0, a1, a2, rfl⟩ := row3 (hr p (by simp))
      obtain ⟨b0, b1, b2, rfl⟩ := row3 (hr q (by simp))
      exact s17_3_2 x0 x2 x3 x4 x6 x7 x8 x9 x10 x13 x14 x15 x16 x17 ns a b c a0 a1 a2 b0 b1 b2
    | _ :: _ :: _ :: _, hl, _ => exact absurd hl (by simp only [List.length_cons]; omega)
  | 2, _ => match rows, hl, hr with
    | [], _, _ => exact s17_4_0 x0 x2 x3 x4 x6 x7 x8 x9 x10 x13 x14 x15 x16 x17 ns a b c
    | [p], _, hr =>
      obtain ⟨a0, a1, a2, a3, rfl⟩ := row4 (hr p (by simp))
      exact s17_4_1 x0 x2 x3 x4 x6 x7 x8 x9 x10 x13 x14 x15 x16 x17 ns a b c a0 a1 a2 a3
    | [p, q], _, hr =>
      obtain ⟨a0, a1, a2, a3, rfl⟩ := row4 (hr p (by simp))
      obtain ⟨b0, b1, b2, b3, rfl⟩ := row4 (hr q (by simp))
      exact s17_4_2 x0 x2 x3 x4 x6 x7 x8 x9 x10 x13 x14 x15 x16 x17 ns a b c a0 a1 a2 a3 b0 b1 b2 b3
    | _ :: _ :: _ :: _, hl, _ => exact absurd hl (by simp only [List.length_cons]; omega)
  | 3, _ => match rows, hl, hr with
    | [], _, _ => exact s17_5_0 x0 x2 x3 x4 x6 x7 x8 x9 x10 x13 x14 x15 x16 x17 ns a b c
    | [p], _, hr =>
      obtain ⟨a0, a1, a2, a3, a4, rfl⟩ := row5 (hr p (by simp))
      exact s17_5_1 x0 x2 x3 x4 x6 x7 x8 x9 x10 x13 x14 x15 x16 x17 ns a b c a0 a1 a2 a3 a4
    | [p, q], _, hr =>
      obtain ⟨a0, a1, a2, a3, a4, rfl⟩ := row5 (hr p (by simp))
      obtain ⟨b0, b1, b2, b3, b4, rfl⟩ := row5 (hr q (by simp))
      exact s17_5_2 x0 x2 x3 x4 x6 x7 x8 x9 x10 x13 x14 x15 x16 x17 ns a b c a0 a1 a2 a3 a4 b0 b1 b2 b3 b4
    | _ :: _ :: _ :: _, hl, _ => exact absurd hl (by simp only [List.length_cons]; omega)
  | n + 4, hm => exact absurd hm (by omega)
end
end K00


set_option Elab.async false
set_option linter.all false
set_option maxRecDepth 100000
set_option maxHeartbeats 8000000
namespace K00
open PySem PySem.Spec FW
theorem famL (m s : Nat) (h : s < 4) : bLen [fam m s] = some (.int (s : Int)) := by
  match s, h with
  | 0, _ => kernel_rfl
  | 1, _ => kernel_rfl
  | 2, _ => kernel_rfl
  | 3, _ => kernel_rfl
theorem part4 {ns : List Int} {μ : Sto} {m : Nat} (hm : m < 4) (x0 x2 x3 x4 x6 x7 x8 x9 x10 x11 x12 x13 x14 x15 x16 x17 : Option Val) (h : St ns μ) :
    okO ((sSeq l_22 (sSeq l_23 (sSeq l_24 l_25))) 0 [x0, some (.loc 0), x2, x3, x4, some (.d (.int (2 + (m : Int)))), x6, x7, x8, x9, x10, x11, x12, x13, x14, x15, x16, x17] μ) (fun _ _ => False) (fun v _ => v = .d (.bool true)) := by
  -- arrows
  refine seq_gen fun Q k => ?_
  unfold l_22
  simp only [w_set, w_sl, w_part]
  simp [-w_call, lim]
  refine w_pick rfl (by decide) (by decide) h fun s3 μ hs3 h => ?_
  have hs34 : s3 < 4 := by omega
  simp
  have hf : arr m s3 = .tuple (cut [.tuple [.int 0, .int 1], .tuple [.int 1, .int 0], .tuple [.int (2 + (m : Int) - 1), .int 0]] none (some (s3 : Int))) := rfl
  rw [← hf]
  clear hf
  refine k _ _ ?_
  clear k Q
  refine seq_gen fun Q k => ?_
  unfold l_23
  simp only [w_set, w_op]
  refine okP_of (show l_23_a _ _ = .ok (.d (.list (bada m))) μ from by kernel_rfl) ?_
  refine w_pick rfl (by decide) (by decide) h fun u μ hu h => ?_
  have hu8 : u < (bada m).length := by show u < 7; omega
  simp [dIx_list hu8]
  obtain ⟨d3, hd3, hmd3⟩ : ∃ o, (bada m)[u] = o ∧ o ∈ bada m := ⟨_, rfl, List.getElem_mem _⟩
  rw [hd3]
  clear hd3
  refine k _ _ ?_
  clear k Q hu8 hu u
  refine seq_gen fun Q k => ?_
  obtain ⟨a, b, c, ha, rfl⟩ := h
  have mem24 : (m, s3, d3) ∈ T24 := by
    unfold T24
    simp only [List.mem_flatMap, List.mem_map, List.mem_range]
    exact ⟨m, hm, s3, hs34, d3, hmd3, rfl⟩
  have e := at_of (sec24 x0 x2 x3 x4 x6 x7 x9 x10 x11 x12 x13 x15 x16 x17 (ns.map PyData.int) a b c) (m, s3, d3) mem24
  dsimp only at e
  unfold l_24
  refine if_of e ?_
  clear e
  refine k _ _ ?_
  clear k Q
  -- the end
  unfold l_25
  rw [w_sret, w_cand]
  have h : St ns (cel (ns.map PyData.int) a b c) := ⟨a, b, c, ha, rfl⟩
  refine okP_of (a := .d (.bool true)) (μ := cel (ns.map PyData.int) a b c) (by kernel_rfl) ?_
  simp only [bo_b]
  refine okP_call ?_
  simp
  refine okP_mono (frac_ok h) ?_
  rintro v μ ⟨rfl, _⟩
  exact ⟨rfl, rfl⟩
theorem part3c {ns : List Int} {μ : Sto} {m : Nat} (hm : m < 4) (x0 x2 x3 x4 x6 x7 x8 x9 x10 x11 x12 x13 x14 x15 x16 x17 : Option Val) (h : St ns μ) :
    okO ((sSeq l_18 (sSeq l_19 (sSeq l_20 (sSeq l_21 (sSeq l_22 (sSeq l_23 (sSeq l_24 l_25))))))) 0 [x0, some (.loc 0), x2, x3, x4, some (.d (.int (2 + (m : Int)))), x6, x7, x8, x9, x10, x11, x12, x13, x14, x15, x16, x17] μ) (fun _ _ => False) (fun v _ => v = .d (.bool true)) := by
  -- places
  refine seq_gen fun Q k => ?_
  unfold l_18
  simp only [w_set, w_sl, w_part]
  simp [-w_call, lim]
  refine w_pick rfl (by decide) (by decide) h fun s2 μ hs2 h => ?_
  have hs24 : s2 < 4 := by omega
  simp
  have hf : plc s2 = .tuple (cut [.tuple [.int 0, .int 1], .tuple [.int 0, .int 2], .tuple [.int 2, .int 0]] none (some (s2 : Int))) := rfl
  rw [← hf]
  clear hf
  refine k _ _ ?_
  clear k Q
  refine seq_gen fun Q k => ?_
  unfold l_19
  simp only [w_set, w_op]
  refine okP_of (show l_19_a _ _ = .ok (.d (.list badp)) μ from by kernel_rfl) ?_
  refine w_pick rfl (by decide) (by decide) h fun u μ hu h => ?_
  have hu8 : u < badp.length := by show u < 7; omega
  simp [dIx_list hu8]
  obtain ⟨d2, hd2, hmd2⟩ : ∃ o, badp[u] = o ∧ o ∈ badp := ⟨_, rfl, List.getElem_mem _⟩
  rw [hd2]
  clear hd2
  refine k _ _ ?_
  clear k Q hu8 hu u
  refine seq_gen fun Q k => ?_
  obtain ⟨a, b, c, ha, rfl⟩ := h
  have mem20 : (s2, d2) ∈ T20 := by
    unfold T20
    simp only [List.mem_flatMap, List.mem_map, List.mem_range]
    exact ⟨s2, hs24, d2, hmd2, rfl⟩
  have e := at_of (sec20 x0 x2 x3 x4 (some (.d (.int (2 + (m : Int))))) x6 x7 x9 x10 x11 x12 x14 x15 x16 x17 (ns.map PyData.int) a b c) (s2, d2) mem20
  dsimp only at e
  unfold l_20
  refine if_of e ?_
  clear e
  refine k _ _ ?_
  clear k Q
  refine seq_gen fun Q k => ?_
  have e := at_of (sec21 x0 x2 x3 x4 (some (.d (.int (2 + (m : Int))))) x6 x7 (some (.d d2)) x9 x10 x11 x12 x14 x15 x16 x17 (ns.map PyData.int) a b c) s2 (List.mem_range.mpr hs24)
  unfold l_21
  refine if_of e ?_
  clear e
  refine k _ _ ?_
  clear k Q
  have h : St ns (cel (ns.map PyData.int) a b c) := ⟨a, b, c, ha, rfl⟩
  exact part4 hm _ _ _ _ _ _ _ _ _ _ _ _ _ _ _ _ h
theorem part3b {ns : List Int} {μ : Sto} {m : Nat} {rows : List D} (hm : m < 4) (hrow : rows.length < 3) (hR : ∀ d ∈ rows, Row m d) (x0 x2 x3 x4 x6 x7 x8 x9 x10 x11 x13 x14 x15 x16 x17 : Option Val) (h : St ns μ) :
    okO ((sSeq l_16 (sSeq l_17 (sSeq l_18 (sSeq l_19 (sSeq l_20 (sSeq l_21 (sSeq l_22 (sSeq l_23 (sSeq l_24 l_25))))))))) 0 [x0, some (.loc 0), x2, x3, x4, some (.d (.int (2 + (m : Int)))), x6, x7, x8, x9, x10, x11, some (.d (.tuple rows)), x13, x14, x15, x16, x17] μ) (fun _ _ => False) (fun v _ => v = .d (.bool true)) := by
  refine seq_gen fun Q k => ?_
  unfold l_16
  simp only [w_set, w_op]
  obtain ⟨a, b, c, ha, rfl⟩ := h
  refine okP_of (sec16 _ _ _ _ _ _ _ _ _ _ _ _ _ _ _ _ _ _ _ hm hrow hR) ?_
  have h : St ns (cel (ns.map PyData.int) a b c) := ⟨a, b, c, ha, rfl⟩
  refine w_pick rfl (by decide) (by decide) h fun u μ hu h => ?_
  have hu8 : u < (oddt (2 + m) rows).length := by show u < 6; omega
  simp [dIx_list hu8]
  obtain ⟨o2, ho2, hmo2⟩ : ∃ o, (oddt (2 + m) rows)[u] = o ∧ o ∈ oddt (2 + m) rows := ⟨_, rfl, List.getElem_mem _⟩
  rw [ho2]
  clear ho2
  refine k _ _ ?_
  clear k Q hu8 hu u
  refine seq_gen fun Q k => ?_
  obtain ⟨a, b, c, ha, rfl⟩ := h
  have e := at_of (sec17 x0 x2 x3 x4 x6 x7 x8 x9 x10 x13 x14 x15 x16 x17 (ns.map PyData.int) a b c hm hrow hR) o2 hmo2
  unfold l_17
  refine if_of e ?_
  clear e
  refine k _ _ ?_
  clear k Q
  have h : St ns (cel (ns.map PyData.int) a b c) := ⟨a, b, c, ha, rfl⟩
  exact part3c hm _ _ _ _ _ _ _ _ _ _ _ _ _ _ _ _ h
theorem part3 {ns : List Int} {μ : Sto} {m : Nat} (hm : m < 4) (x0 x2 x3 x4 x6 x7 x8 x9 x10 x11 x12 x13 x14 x15 x16 x17 : Option Val) (h : St ns μ) :
    okO ((sSeq l_15 (sSeq l_16 (sSeq l_17 (sSeq l_18 (sSeq l_19 (sSeq l_20 (sSeq l_21 (sSeq l_22 (sSeq l_23 (sSeq l_24 l_25)))))))))) 0 [x0, some (.loc 0), x2, x3, x4, some (.d (.int (2 + (m : Int)))), x6, x7, x8, x9, x10, x11, x12, x13, x14, x15, x16, x17] μ) (fun _ _ => False) (fun v _ => v = .d (.bool true)) := by
  have lenr : ∀ k : Nat, (rng 0 k).length = k := fun k => by simp [rng]
  -- table
  refine seq_gen fun Q k => ?_
  unfold l_15
  simp only [w_set, w_cb, w_cons]
  obtain ⟨w, μ1, e15, r, hr3, rfl, h⟩ := okP_ex (Q := fun w μ1 => ∃ r : Nat, r < 3 ∧ w = (rng 0 r, none) ∧ St ns μ1) (r := iR1 (aCons (cCall 2 F__law_pick (aCons (cV 1) (aCons (cK (.int 3)) aNil))) aNil) [x0, some (.loc 0), x2, x3, x4, some (.d (.int (2 + (m : Int)))), x6, x7, x8, x9, x10, x11, x12, x13, x14, x15, x16, x17] μ) (by
    refine iR1_wp ?_
    simp only [w_cons]
    refine w_pick rfl (by decide) (by decide) h fun r μ hr h => ?_
    simp only [w_nil]
    exact ⟨(r : Int), rfl, Int.natCast_nonneg r, by omega, (r : Int).toNat, by omega, rfl, h⟩)
  with_reducible refine okP_mono (lc_draw (xs := rng 0 r) (μ1 := μ1) (P := Row m) (Inv := St ns) e15 ?hl h ?_) ?_
  case hl => rw [lenr]; omega
  · intro x μ _ h
    simp only [w_cb, w_cons]
    with_reducible refine okP_mono (lc_draw (xs := rng 0 (2 + m)) (μ1 := μ) (P := fun y => ∃ z : Int, y = .int z) (Inv := St ns) ?hf ?hl h ?_) ?_
    case hf => exact iR1_ok (n := 2 + (m : Int)) rfl (by omega) (by omega) (by omega)
    case hl => rw [lenr]; omega
    · intro x μ _ h
      simp only [w_op]
      refine w_pick rfl (by decide) (by decide) h fun r μ hr h => ?_
      simp [h]
    rintro v μ ⟨zs, rfl, hl', hP', h⟩
    rw [lenr] at hl'
    have bt : bTup [.list zs] = some (.tuple zs) := rfl
    simp [bt]
    refine ⟨?_, h⟩
    obtain ⟨is, hi⟩ : ∃ is : List Int, zs = is.map PyData.int := by
      clear hl' bt
      induction zs with
      | nil => exact ⟨[], rfl⟩
      | cons z zs ih =>
        obtain ⟨i, rfl⟩ := hP' z List.mem_cons_self
        obtain ⟨is, rfl⟩ := ih fun y hy => hP' y (List.mem_cons_of_mem _ hy)
        exact ⟨i :: is, rfl⟩
    exact ⟨is, by rw [← hl', hi, List.length_map], by rw [hi]⟩
  rintro v μ ⟨rows, rfl, hlr, hR, h⟩
  rw [lenr] at hlr
  have bt : bTup [.list rows] = some (.tuple rows) := rfl
  simp [bt]
  refine k _ _ ?_
  clear k Q bt e15
  exact part3b hm (by omega) hR _ _ _ _ _ _ _ _ _ _ _ _ _ _ _ h
theorem part2 {ns : List Int} {μ : Sto} {m s t : Nat} {d : D} (hm : m < 4) (hs4 : s < 4) (ht : t < s + 1) (hm8 : d ∈ bads m) (x0 x2 x3 x4 x9 x10 x11 x12 x13 x14 x15 x16 x17 : Option Val) (h : St ns μ) :
    okO ((sSeq l_9 (sSeq l_10 (sSeq l_11 (sSeq l_12 (sSeq l_13 (sSeq l_14 (sSeq l_15 (sSeq l_16 (sSeq l_17 (sSeq l_18 (sSeq l_19 (sSeq l_20 (sSeq l_21 (sSeq l_22 (sSeq l_23 (sSeq l_24 l_25)))))))))))))))) 0 [x0, some (.loc 0), x2, x3, x4, some (.d (.int (2 + (m : Int)))), some (.d (fam m s)), some (.d (.int (t : Int))), some (.d d), x9, x10, x11, x12, x13, x14, x15, x16, x17] μ) (fun _ _ => False) (fun v _ => v = .d (.bool true)) := by
  -- the family's check
  refine seq_gen fun Q k => ?_
  obtain ⟨a, b, c, ha, rfl⟩ := h
  have mem9 : (m, s, t, d) ∈ T9 := by
    unfold T9
    simp only [List.mem_flatMap, List.mem_map, List.mem_range]
    exact ⟨m, hm, s, hs4, t, ht, d, hm8, rfl⟩
  have e := at_of (sec9 x0 x2 x3 x4 x9 x10 x11 x12 x13 x14 x15 x16 x17 (ns.map PyData.int) a b c) (m, s, t, d) mem9
  dsimp only at e
  unfold l_9
  refine if_of e ?_
  clear e
  refine k _ _ ?_
  clear k Q
  -- told
  have mem10 : (m, s) ∈ T10 := by
    unfold T10
    simp only [List.mem_flatMap, List.mem_map, List.mem_range]
    exact ⟨m, hm, s, hs4, rfl⟩
  refine seq_gen fun Q k => ?_
  have e := at_of (sec10 x0 x2 x3 x4 (some (.d (.int (t : Int)))) (some (.d d)) x9 x10 x11 x12 x13 x14 x15 x16 x17 (ns.map PyData.int) a b c) (m, s) mem10
  dsimp only at e
  refine next_of e ?_
  clear e
  refine k _ _ ?_
  clear k Q
  refine seq_gen fun Q k => ?_
  unfold l_11
  refine if_of (sec11 _ _ _ _ _ _ _ _ _ _ _ _ _ _ _ _ _ _ _ _) ?_
  refine k _ _ ?_
  clear k Q
  have h : St ns (cel (ns.map PyData.int) a b c) := ⟨a, b, c, ha, rfl⟩
  generalize cel (ns.map PyData.int) a b c = μ at h ⊢
  clear ha a b c
  -- signs
  refine seq_gen fun Q k => ?_
  unfold l_12
  simp only [w_set, w_cb, w_cons]
  have lenr : ∀ k : Nat, (rng 0 k).length = k := fun k => by simp [rng]
  with_reducible refine okP_mono (lc_draw (xs := rng 0 (2 + m)) (μ1 := μ) (P := fun y => y = .int 1 ∨ y = .int (-1)) (Inv := St ns) ?hf ?hl h ?_) ?_
  case hf => exact iR1_ok (n := 2 + (m : Int)) rfl (by omega) (by omega) (by omega)
  case hl => rw [lenr]; omega
  · intro x μ _ h
    simp only [w_op, w_cK]
    refine w_pick rfl (by decide) (by decide) h fun r μ hr h => ?_
    have m2 : dMulB (.int 2) (.int (r : Int)) = some (.int (2 * (r : Int))) := mulW_l (by decide) (by decide)
    simp [m2, h]
    omega
  rintro v μ ⟨ys, rfl, hl, hP, h⟩
  rw [lenr] at hl
  have bt : bTup [.list ys] = some (.tuple ys) := rfl
  simp [bt]
  refine k _ _ ?_
  clear k Q bt
  have memS := signs_mem ys hP
  rw [hl] at memS
  -- odd
  have mem13 : ys ∈ T13 := by
    unfold T13
    simp only [List.mem_flatMap, List.mem_range]
    exact ⟨m, hm, memS⟩
  refine seq_gen fun Q k => ?_
  unfold l_13
  simp only [w_set, w_op]
  obtain ⟨a, b, c, ha, rfl⟩ := h
  refine okP_of (at_of (sec13 x0 x2 x3 x4 (some (.d (.int (2 + (m : Int))))) (some (.d (fam m s))) (some (.d (.int (t : Int)))) (some (.d d)) (some (.d told)) x11 x12 x13 x14 x15 x16 x17 (ns.map PyData.int) a b c) ys mem13) ?_
  have h : St ns (cel (ns.map PyData.int) a b c) := ⟨a, b, c, ha, rfl⟩
  refine w_pick rfl (by decide) (by decide) h fun u μ hu h => ?_
  have hu8 : u < (odds ys).length := by show u < 7; omega
  simp [dIx_list hu8]
  obtain ⟨o, ho, hmo⟩ : ∃ o, (odds ys)[u] = o ∧ o ∈ odds ys := ⟨_, rfl, List.getElem_mem _⟩
  rw [ho]
  clear ho
  refine k _ _ ?_
  clear k Q hu8 hu u
  refine seq_gen fun Q k => ?_
  obtain ⟨a, b, c, ha, rfl⟩ := h
  have mem14 : (m, ys, o) ∈ T14 := by
    unfold T14
    simp only [List.mem_flatMap, List.mem_map, List.mem_range]
    exact ⟨m, hm, ys, memS, o, hmo, rfl⟩
  have e := at_of (sec14 x0 x2 x3 x4 (some (.d (fam m s))) (some (.d (.int (t : Int)))) (some (.d d)) (some (.d told)) x12 x13 x14 x15 x16 x17 (ns.map PyData.int) a b c) (m, ys, o) mem14
  dsimp only at e
  unfold l_14
  refine if_of e ?_
  clear e
  refine k _ _ ?_
  clear k Q
  have h : St ns (cel (ns.map PyData.int) a b c) := ⟨a, b, c, ha, rfl⟩
  exact part3 hm _ _ _ _ _ _ _ _ _ _ _ _ _ _ _ _ h
theorem law_true (ns : List Int) (hlen : ns.length ≤ 63) : F_law [.d (.list (ns.map PyData.int))] [] = .ok (.d (.bool true)) [] := by
  generalize hs : some (Val.d (PyData.list (ns.map PyData.int))) = x0
  refine law_of ?_
  show okO (c_law 0 (some _ :: [none, none, none, none, none, none, none, none, none, none, none, none, none, none, none, none, none]) []) _ _
  rw [split_law]
  unfold d_law
  -- state
  refine seq_gen fun Q k => ?_
  refine okO_of (show l_1 0 _ [] = .next [some (.d (.list (ns.map PyData.int))), some (.loc 0), none, none, none, none, none, none, none, none, none, none, none, none, none, none, none, none] (cel (ns.map PyData.int) 0 0 7) from by kernel_rfl) ?_
  refine k _ _ ?_
  clear k Q
  rw [hs]
  have h : St ns (cel (ns.map PyData.int) 0 0 7) := ⟨0, 0, 7, Int.le_refl _, rfl⟩
  generalize cel (ns.map PyData.int) 0 0 7 = μ at h ⊢
  -- place
  refine seq_gen fun Q k => ?_
  unfold l_2 l_2_a
  simp only [w_set, w_op, w_lst, w_cons]
  refine w_pick rfl (by decide) (by decide) h fun r μ hr h => ?_
  simp [-w_call, lim]
  refine w_pick rfl (by decide) (by decide) h fun j μ hj h => ?_
  obtain ⟨p, hp, hx⟩ : ∃ p ∈ placeL, dIx (.list [PyData.int (r : Int), .tuple [.int 1, .int 2], .none, .str "a"]) (.int (j : Int)) = some p := by
    have hr' : r < 100 := by omega
    rcases (by omega : j = 0 ∨ j = 1 ∨ j = 2 ∨ j = 3) with rfl | rfl | rfl | rfl
    · exact ⟨.int (r : Int), by unfold placeL; exact List.mem_append_left _ (List.mem_map.mpr ⟨r, List.mem_range.mpr hr', rfl⟩), rfl⟩
    · exact ⟨.tuple [.int 1, .int 2], by unfold placeL; exact List.mem_append_right _ (by simp), rfl⟩
    · exact ⟨.none, by unfold placeL; exact List.mem_append_right _ (by simp), rfl⟩
    · exact ⟨.str "a", by unfold placeL; exact List.mem_append_right _ (by simp), rfl⟩
  simp [hx]
  refine k _ _ ?_
  clear k Q hx hr hj r j
  -- names
  refine seq_gen fun Q k => ?_
  refine okO_of (show l_3 0 _ μ = .next [x0, some (.loc 0), some (.d p), some (.d nam), none, none, none, none, none, none, none, none, none, none, none, none, none, none] μ from by kernel_rfl) ?_
  refine k _ _ ?_
  clear k Q
  -- the loop over the classes
  refine seq_gen fun Q k => ?_
  obtain ⟨a, b, c, ha, rfl⟩ := h
  have e := at_of (sec4 x0 (ns.map PyData.int) a b c) p hp
  rw [e, w_next]
  clear e
  refine k _ _ ?_
  clear k Q
  have h : St ns (cel (ns.map PyData.int) a b c) := ⟨a, b, c, ha, rfl⟩
  generalize cel (ns.map PyData.int) a b c = μ at h ⊢
  clear ha a b c
  -- many
  refine seq_gen fun Q k => ?_
  unfold l_5
  simp only [w_set, w_op, w_cK]
  refine w_pick rfl (by decide) (by decide) h fun m μ hm h => ?_
  have hm : m < 4 := by omega
  simp
  refine k _ _ ?_
  clear k Q
  -- family
  refine seq_gen fun Q k => ?_
  unfold l_6
  simp only [w_set, w_sl, w_part]
  simp [-w_call, lim]
  refine w_pick rfl (by decide) (by decide) h fun s μ hs' h => ?_
  have hs4 : s < 4 := by omega
  simp
  refine k _ _ ?_
  clear k Q
  have hf : fam m s = .tuple (cut [.tuple [.int 0, .int 1], .tuple [.int (2 + (m : Int) - 1)], .tuple [.int 0, .int 1]] none (some (s : Int))) := rfl
  rw [← hf]
  clear hf hs'
  -- where
  refine seq_gen fun Q k => ?_
  unfold l_7
  rw [w_set]
  refine okP_call ?_
  simp [famL m s hs4]
  refine okP_mono (pick_ok (by omega) (by omega) h) ?_
  rintro v μ ⟨_, r, rfl, h0, h1, h⟩
  obtain ⟨t, rfl⟩ := Int.eq_ofNat_of_zero_le h0
  have ht : t < s + 1 := by omega
  refine ⟨rfl, ?_⟩
  refine k _ _ ?_
  clear k Q h0 h1
  -- bad
  refine seq_gen fun Q k => ?_
  unfold l_8
  simp only [w_set, w_op]
  refine okP_of (show l_8_a _ _ = .ok (.d (.list (bads m))) μ from by kernel_rfl) ?_
  refine w_pick rfl (by decide) (by decide) h fun u μ hu h => ?_
  have hu8 : u < (bads m).length := by show u < 8; omega
  simp [dIx_list hu8]
  obtain ⟨d, hd, hm8⟩ : ∃ d, (bads m)[u] = d ∧ d ∈ bads m := ⟨_, rfl, List.getElem_mem _⟩
  rw [hd]
  clear hd
  refine k _ _ ?_
  clear k Q hu8 hu u
  exact part2 hm hs4 ht hm8 _ _ _ _ _ _ _ _ _ _ _ _ _ h
end K00


set_option Elab.async false
set_option linter.all false
set_option maxRecDepth 100000
set_option maxHeartbeats 8000000

namespace K00
open PySem PySem.Spec PyProof.Rows L2 FW
def top (i : Nat) : Stmt := PySem.Challenge.pw_evensplits_k00_errors.main.body.getD i (.Pass ⟨0, 0, 0, 0⟩)
theorem bt_ValueError : bootBuiltins "ValueError" = some (.type "ValueError") := by decide +kernel
theorem bt_abs : bootBuiltins "abs" = some (.builtin "abs") := by decide +kernel
theorem bt_all : bootBuiltins "all" = some (.builtin "all") := by decide +kernel
theorem bt_bool : bootBuiltins "bool" = some (.type "bool") := by decide +kernel
theorem bt_int : bootBuiltins "int" = some (.type "int") := by decide +kernel
theorem bt_isinstance : bootBuiltins "isinstance" = some (.builtin "isinstance") := by decide +kernel
theorem bt_len : bootBuiltins "len" = some (.builtin "len") := by decide +kernel
theorem bt_list : bootBuiltins "list" = some (.type "list") := by decide +kernel
theorem bt_range : bootBuiltins "range" = some (.type "range") := by decide +kernel
theorem bt_str : bootBuiltins "str" = some (.type "str") := by decide +kernel
theorem bt_tuple : bootBuiltins "tuple" = some (.type "tuple") := by decide +kernel
abbrev s__law_start : Stmt := top 34
abbrev s__law_pick : Stmt := top 35
abbrev s_is_count : Stmt := top 10
abbrev s_is_part : Stmt := top 12
abbrev s_check_family : Stmt := top 13
abbrev s_is_whole : Stmt := top 11
abbrev s_is_signs : Stmt := top 14
abbrev s_check_signs : Stmt := top 15
abbrev s_is_whole_table : Stmt := top 17
abbrev s_check_whole_table : Stmt := top 18
abbrev s_check_places : Stmt := top 32
abbrev s_arrow_table : Stmt := top 20
abbrev s__law_call : Stmt := top 41
abbrev s__law_same : Stmt := top 36
abbrev s__law_least : Stmt := top 42
abbrev s_made : Stmt := top 22
abbrev s_plus_f : Stmt := top 23
abbrev s_sum_f : Stmt := top 27
abbrev s_is_fraction : Stmt := top 30
abbrev s_minus_f : Stmt := top 24
abbrev s_times_f : Stmt := top 25
abbrev s_below_f : Stmt := top 28
abbrev s_size_f : Stmt := top 29
abbrev s_over_f : Stmt := top 26
abbrev s__law_fractions : Stmt := top 43
abbrev s__law_raise : Stmt := top 37
abbrev s__law_forwards : Stmt := top 38
abbrev s__law_backwards : Stmt := top 39
abbrev s__law_caught : Stmt := top 40
abbrev s_law : Stmt := top 44
structure All (C : FW.Ctx) (P : Program) (K : PySem.W.Frag) (mg : Str → Option Value) : Prop where
  t : Txt C P K mg
  b_ValueError : mg "ValueError" = none
  b_abs : mg "abs" = none
  b_all : mg "all" = none
  b_bool : mg "bool" = none
  b_int : mg "int" = none
  b_isinstance : mg "isinstance" = none
  b_len : mg "len" = none
  b_list : mg "list" = none
  b_range : mg "range" = none
  b_str : mg "str" = none
  b_tuple : mg "tuple" = none
  e_EvensplitsError : ErrF C P K mg "EvensplitsError"
  e_InvalidFamily : ErrF C P K mg "InvalidFamily"
  e_InvalidPaper : ErrF C P K mg "InvalidPaper"
  e_InvalidRow : ErrF C P K mg "InvalidRow"
  e_InvalidTable : ErrF C P K mg "InvalidTable"
  e_InvalidText : ErrF C P K mg "InvalidText"
  e_InvalidWeb : ErrF C P K mg "InvalidWeb"
  e_TooLarge : ErrF C P K mg "TooLarge"
  c_EvensplitsError : CatF C K mg "EvensplitsError"
  c_InvalidFamily : CatF C K mg "InvalidFamily"
  c_InvalidPaper : CatF C K mg "InvalidPaper"
  c_InvalidRow : CatF C K mg "InvalidRow"
  c_InvalidTable : CatF C K mg "InvalidTable"
  c_InvalidText : CatF C K mg "InvalidText"
  c_InvalidWeb : CatF C K mg "InvalidWeb"
  c_TooLarge : CatF C K mg "TooLarge"
  isE : ∀ cn A, C.ca cn = some A → L2.ExcC K A ∧ PySem.W.kitOne K (.ref A) (.type "ValueError") = some true
  f__law_start : FnW K mg "_law_start" s__law_start
  f__law_pick : FnW K mg "_law_pick" s__law_pick
  f_is_count : FnW K mg "is_count" s_is_count
  f_is_part : FnW K mg "is_part" s_is_part
  f_check_family : FnW K mg "check_family" s_check_family
  f_is_whole : FnW K mg "is_whole" s_is_whole
  f_is_signs : FnW K mg "is_signs" s_is_signs
  f_check_signs : FnW K mg "check_signs" s_check_signs
  f_is_whole_table : FnW K mg "is_whole_table" s_is_whole_table
  f_check_whole_table : FnW K mg "check_whole_table" s_check_whole_table
  f_check_places : FnW K mg "check_places" s_check_places
  f_arrow_table : FnW K mg "arrow_table" s_arrow_table
  f__law_call : FnW K mg "_law_call" s__law_call
  f__law_same : FnW K mg "_law_same" s__law_same
  f__law_least : FnW K mg "_law_least" s__law_least
  f_made : FnW K mg "made" s_made
  f_plus_f : FnW K mg "plus_f" s_plus_f
  f_sum_f : FnW K mg "sum_f" s_sum_f
  f_is_fraction : FnW K mg "is_fraction" s_is_fraction
  f_minus_f : FnW K mg "minus_f" s_minus_f
  f_times_f : FnW K mg "times_f" s_times_f
  f_below_f : FnW K mg "below_f" s_below_f
  f_size_f : FnW K mg "size_f" s_size_f
  f_over_f : FnW K mg "over_f" s_over_f
  f__law_fractions : FnW K mg "_law_fractions" s__law_fractions
  f__law_raise : FnW K mg "_law_raise" s__law_raise
  f__law_forwards : FnW K mg "_law_forwards" s__law_forwards
  f__law_backwards : FnW K mg "_law_backwards" s__law_backwards
  f__law_caught : FnW K mg "_law_caught" s__law_caught
  f_law : FnW K mg "law" s_law
variable {C : FW.Ctx} {P : Program} {w : World} {K : PySem.W.Frag} {mg : Str → Option Value} {base : Heap}
theorem sc__law_start : FnScope ["script"] ["script"] (defScope s__law_start) := ⟨rfl, rfl, rfl, by decide +kernel, rfl, by decide +kernel, by decide +kernel⟩
theorem bw__law_start : BindW "_law_start" s__law_start ["script"] := fun _ _ _ _ _ _ us hl => match us, hl with | [_], _ => rfl
theorem bd__law_start (T : All C P K mg) (f : Addr) (cdv : Value) (A : Around) (outer : List PySem.Env) (s : Shared) (H : Hp) (E : XK) (hr : Room 0 (A.deeper (envOfC "_law_start" (defScope s__law_start) s.heap.objs.size f cdv))) : SSs C (cxOf (L2.CX P w) P w K mg base ["script"] "_law_start" (defScope s__law_start) f cdv A outer s H E) (fun cls d _ H => E cls d H) c__law_start (defBody s__law_start) :=
  (sss_one (ss_ret (se_lstC (sa_cons (se_var 0) (sa_cons se_int (sa_cons se_int (sa_cons se_int sa_nil)))))))
theorem ok__law_start (T : All C P K mg) : Cal C P w K mg base 1 "_law_start" 1 F__law_start := cal_mk T.t T.f__law_start sc__law_start bw__law_start finK_ok rfl rfl (bd__law_start T)
theorem sc__law_pick : FnScope ["state", "limit", "cell", "drawn"] ["state", "limit"] (defScope s__law_pick) := ⟨rfl, rfl, rfl, by decide +kernel, rfl, by decide +kernel, by decide +kernel⟩
theorem bw__law_pick : BindW "_law_pick" s__law_pick ["state", "limit"] := fun _ _ _ _ _ _ us hl => match us, hl with | [_, _], _ => rfl
theorem bd__law_pick (T : All C P K mg) (f : Addr) (cdv : Value) (A : Around) (outer : List PySem.Env) (s : Shared) (H : Hp) (E : XK) (hr : Room 0 (A.deeper (envOfC "_law_pick" (defScope s__law_pick) s.heap.objs.size f cdv))) : SSs C (cxOf (L2.CX P w) P w K mg base ["state", "limit", "cell", "drawn"] "_law_pick" (defScope s__law_pick) f cdv A outer s H E) (fun cls d _ H => E cls d H) c__law_pick (defBody s__law_pick) :=
  (sss_cons (ss_if (st_w (sw_and (st_cmp (op_eq2 (u64 hr)) ser_eq (se_ix (se_var 0) se_int) se_int (nomark _)) (sw_and1 (st_cmp op_lt ser_lt (se_ix (se_var 0) se_int) (se_b call_len_seq ser_len (by rfl) T.b_len bt_len (sa_cons (se_ix (se_var 0) se_int) sa_nil)) (nomark _))))) (sss_cons (ss_set (i := 2) sc__law_pick.nd rfl (by first | exact Or.inl rfl | exact Or.inr rfl) (se_b call_abs ser_abs (by rfl) T.b_abs bt_abs (sa_cons (se_ix (se_ix (se_var 0) se_int) (se_ix (se_var 0) se_int)) sa_nil)))
  (sss_cons (ss_put (se_op op_addA ser_add (se_ix (se_var 0) se_int) se_int) (se_var 0) se_int)
  (sss_one (ss_if (st_cmp (op_geA (u0 hr)) ser_geA (se_var 2) (se_op op_pow ser_pow se_int se_int) (nomark _)) (sss_one (ss_put (se_var 2) (se_var 0) se_int)) (sss_one (ss_put (se_op op_addA ser_add (se_op op_mod ser_mod (se_ty call_int1 ser_int (by rfl) T.b_int bt_int (sa_cons (se_op op_addA ser_add (se_op op_mulB ser_mulB (se_ix (se_var 0) se_int) se_int) (se_var 2)) sa_nil)) se_int) se_int) (se_var 0) se_int)))))) sss_nil)
  (sss_cons (ss_if (st_cmp op_gt ser_gt (se_ix (se_var 0) se_int) se_int (nomark _)) (sss_cons (ss_set (i := 3) sc__law_pick.nd rfl (by first | exact Or.inl rfl | exact Or.inr rfl) (se_op op_mod ser_mod (se_ty call_int1 ser_int (by rfl) T.b_int bt_int (sa_cons (se_ix (se_var 0) se_int) sa_nil)) (se_var 1)))
  (sss_cons (ss_put (se_op op_divN ser_divN (se_ix (se_var 0) se_int) (se_var 1)) (se_var 0) se_int)
  (sss_one (ss_ret (se_var 3))))) sss_nil)
  (sss_cons (ss_put (se_op op_mod ser_mod (se_ty call_int1 ser_int (by rfl) T.b_int bt_int (sa_cons (se_op op_mulB ser_mulB (se_ix (se_var 0) se_int) se_int) sa_nil)) se_int) (se_var 0) se_int)
  (sss_one (ss_ret (se_op op_mod ser_mod (se_ty call_int1 ser_int (by rfl) T.b_int bt_int (sa_cons (se_op op_addA ser_add (se_op op_divN ser_divN (se_ix (se_var 0) se_int) se_int) (se_op op_mod ser_mod (se_ty call_int1 ser_int (by rfl) T.b_int bt_int (sa_cons (se_op op_mulB ser_mulB (se_ix (se_var 0) se_int) (se_ix (se_var 0) se_int)) sa_nil)) se_int)) sa_nil)) (se_var 1)))))))
theorem ok__law_pick (T : All C P K mg) : Cal C P w K mg base 1 "_law_pick" 2 F__law_pick := cal_mk T.t T.f__law_pick sc__law_pick bw__law_pick fin_ok rfl rfl (bd__law_pick T)
theorem sc_is_count : FnScope ["value"] ["value"] (defScope s_is_count) := ⟨rfl, rfl, rfl, by decide +kernel, rfl, by decide +kernel, by decide +kernel⟩
theorem bw_is_count : BindW "is_count" s_is_count ["value"] := fun _ _ _ _ _ _ us hl => match us, hl with | [_], _ => rfl
theorem bd_is_count (T : All C P K mg) (f : Addr) (cdv : Value) (A : Around) (outer : List PySem.Env) (s : Shared) (H : Hp) (E : XK) (hr : Room 0 (A.deeper (envOfC "is_count" (defScope s_is_count) s.heap.objs.size f cdv))) : SSs C (cxOf (L2.CX P w) P w K mg base ["value"] "is_count" (defScope s_is_count) f cdv A outer s H E) (fun cls d _ H => E cls d H) c_is_count (defBody s_is_count) :=
  (sss_one (ss_ret (se_and (se_isi (se_var 0) .int (by rfl) T.b_isinstance rfl (by rfl) T.b_int bt_int) (se_and (se_not (se_isi (se_var 0) .bool (by rfl) T.b_isinstance rfl (by rfl) T.b_bool bt_bool)) (se_one (se_cmp (op_geA (u0 hr)) ser_geA (se_var 0) se_int (nomark _)))))))
theorem ok_is_count (T : All C P K mg) : Cal C P w K mg base 1 "is_count" 1 F_is_count := cal_mk T.t T.f_is_count sc_is_count bw_is_count fin_ok rfl rfl (bd_is_count T)
theorem sc_is_part : FnScope ["value", "many", "k", "one"] ["value", "many"] (defScope s_is_part) := ⟨rfl, rfl, rfl, by decide +kernel, rfl, by decide +kernel, by decide +kernel⟩
theorem bw_is_part : BindW "is_part" s_is_part ["value", "many"] := fun _ _ _ _ _ _ us hl => match us, hl with | [_, _], _ => rfl
theorem bd_is_part (T : All C P K mg) (f : Addr) (cdv : Value) (A : Around) (outer : List PySem.Env) (s : Shared) (H : Hp) (E : XK) (hr : Room 1 (A.deeper (envOfC "is_part" (defScope s_is_part) s.heap.objs.size f cdv))) : SSs C (cxOf (L2.CX P w) P w K mg base ["value", "many", "k", "one"] "is_part" (defScope s_is_part) f cdv A outer s H E) (fun cls d _ H => E cls d H) c_is_part (defBody s_is_part) :=
  (sss_cons (ss_if (st_w (sw_or (st_not (st_tru (se_isi (se_var 0) .tuple (by rfl) T.b_isinstance rfl (by rfl) T.b_tuple bt_tuple))) (sw_or (st_cmp (op_eq2 (u64 hr)) ser_eq (se_var 0) (se_tup sa_nil) (nomark _)) (sw_or1 (st_not (st_tru (se_b (cr_all rfl) ser_all (by rfl) T.b_all bt_all (sa_cons (se_lc (own := [("one", 3)]) rfl sc_is_part.nd (si_v (se_var 0)) (blk_of (by kernel_rfl)) (fun _ _ _ _ _ => (pg_name (i := 3) sc_is_part.nd rfl (by first | exact Or.inl rfl | exact Or.inr rfl))) (bd_n (by decide)) (fun _ _ _ _ _ => sts_nil) (fun _ _ _ _ _ => (se_and (se_cal (ok_is_count T) hr (sa_cons (se_var 3) sa_nil) takesF) (se_one (se_cmp op_lt ser_lt (se_var 3) (se_var 1) (nomark _)))))) sa_nil)))))))) (sss_one (ss_ret se_bl)) sss_nil)
  (sss_one (ss_ret (se_b (cr_all rfl) ser_all (by rfl) T.b_all bt_all (sa_cons (se_lc (own := [("k", 2)]) rfl sc_is_part.nd (si_r1 (by rfl) T.b_range (sa_cons (se_op op_sub ser_sub (se_b call_len_seq ser_len (by rfl) T.b_len bt_len (sa_cons (se_var 0) sa_nil)) se_int) sa_nil)) (blk_of (by kernel_rfl)) (fun _ _ _ _ _ => (pg_name (i := 2) sc_is_part.nd rfl (by first | exact Or.inl rfl | exact Or.inr rfl))) (bd_n (by decide)) (fun _ _ _ _ _ => sts_nil) (fun _ _ _ _ _ => (se_cmp op_lt ser_lt (se_ix (se_var 0) (se_var 2)) (se_ix (se_var 0) (se_op op_addA ser_add (se_var 2) se_int)) (nomark _)))) sa_nil)))))
theorem ok_is_part (T : All C P K mg) : Cal C P w K mg base 2 "is_part" 2 F_is_part := cal_mk T.t T.f_is_part sc_is_part bw_is_part fin_ok rfl rfl (bd_is_part T)
theorem sc_check_family : FnScope ["many", "family", "k"] ["many", "family"] (defScope s_check_family) := ⟨rfl, rfl, rfl, by decide +kernel, rfl, by decide +kernel, by decide +kernel⟩
theorem bw_check_family : BindW "check_family" s_check_family ["many", "family"] := fun _ _ _ _ _ _ us hl => match us, hl with | [_, _], _ => rfl
theorem bd_check_family (T : All C P K mg) (f : Addr) (cdv : Value) (A : Around) (outer : List PySem.Env) (s : Shared) (H : Hp) (E : XK) (hr : Room 2 (A.deeper (envOfC "check_family" (defScope s_check_family) s.heap.objs.size f cdv))) : SSs C (cxOf (L2.CX P w) P w K mg base ["many", "family", "k"] "check_family" (defScope s_check_family) f cdv A outer s H E) (fun cls d _ H => E cls d H) c_check_family (defBody s_check_family) :=
  (sss_cons (ss_if (st_w (sw_or (st_not (st_tru (se_cal (ok_is_count T) hr (sa_cons (se_var 0) sa_nil) takes1))) (sw_or1 (st_not (st_tru (se_isi (se_var 1) .tuple (by rfl) T.b_isinstance rfl (by rfl) T.b_tuple bt_tuple)))))) (sss_one (ss_rs T.e_InvalidFamily hr rfl takes1 se_non)) sss_nil)
  (sss_one (ss_for (vs := [2]) owns0 rfl (si_r1 (by rfl) T.b_range (sa_cons (se_b call_len_seq ser_len (by rfl) T.b_len bt_len (sa_cons (se_var 1) sa_nil)) sa_nil)) (pg_name (i := 2) sc_check_family.nd rfl (by first | exact Or.inl rfl | exact Or.inr rfl)) (bd_n (by decide)) (sss_one (ss_if (st_not (st_tru (se_cal (ok_is_part T) hr (sa_cons (se_ix (se_var 1) (se_var 2)) (sa_cons (se_var 0) sa_nil)) takes1))) (sss_one (ss_rs T.e_InvalidFamily hr rfl takes1 (se_var 2))) sss_nil)))))
theorem ok_check_family (T : All C P K mg) : Cal C P w K mg base 3 "check_family" 2 F_check_family := cal_mk T.t T.f_check_family sc_check_family bw_check_family fin_ok rfl rfl (bd_check_family T)
theorem sc_is_whole : FnScope ["value"] ["value"] (defScope s_is_whole) := ⟨rfl, rfl, rfl, by decide +kernel, rfl, by decide +kernel, by decide +kernel⟩
theorem bw_is_whole : BindW "is_whole" s_is_whole ["value"] := fun _ _ _ _ _ _ us hl => match us, hl with | [_], _ => rfl
theorem bd_is_whole (T : All C P K mg) (f : Addr) (cdv : Value) (A : Around) (outer : List PySem.Env) (s : Shared) (H : Hp) (E : XK) (hr : Room 0 (A.deeper (envOfC "is_whole" (defScope s_is_whole) s.heap.objs.size f cdv))) : SSs C (cxOf (L2.CX P w) P w K mg base ["value"] "is_whole" (defScope s_is_whole) f cdv A outer s H E) (fun cls d _ H => E cls d H) c_is_whole (defBody s_is_whole) :=
  (sss_one (ss_ret (se_and (se_isi (se_var 0) .int (by rfl) T.b_isinstance rfl (by rfl) T.b_int bt_int) (se_one (se_not (se_isi (se_var 0) .bool (by rfl) T.b_isinstance rfl (by rfl) T.b_bool bt_bool))))))
theorem ok_is_whole (T : All C P K mg) : Cal C P w K mg base 1 "is_whole" 1 F_is_whole := cal_mk T.t T.f_is_whole sc_is_whole bw_is_whole fin_ok rfl rfl (bd_is_whole T)
theorem sc_is_signs : FnScope ["value", "many", "one"] ["value", "many"] (defScope s_is_signs) := ⟨rfl, rfl, rfl, by decide +kernel, rfl, by decide +kernel, by decide +kernel⟩
theorem bw_is_signs : BindW "is_signs" s_is_signs ["value", "many"] := fun _ _ _ _ _ _ us hl => match us, hl with | [_, _], _ => rfl
theorem bd_is_signs (T : All C P K mg) (f : Addr) (cdv : Value) (A : Around) (outer : List PySem.Env) (s : Shared) (H : Hp) (E : XK) (hr : Room 1 (A.deeper (envOfC "is_signs" (defScope s_is_signs) s.heap.objs.size f cdv))) : SSs C (cxOf (L2.CX P w) P w K mg base ["value", "many", "one"] "is_signs" (defScope s_is_signs) f cdv A outer s H E) (fun cls d _ H => E cls d H) c_is_signs (defBody s_is_signs) :=
  (sss_one (ss_ret (se_and (se_isi (se_var 0) .tuple (by rfl) T.b_isinstance rfl (by rfl) T.b_tuple bt_tuple) (se_and (se_cmp (op_eq2 (u64 hr)) ser_eq (se_b call_len_seq ser_len (by rfl) T.b_len bt_len (sa_cons (se_var 0) sa_nil)) (se_var 1) (nomark _)) (se_one (se_b (cr_all rfl) ser_all (by rfl) T.b_all bt_all (sa_cons (se_lc (own := [("one", 2)]) rfl sc_is_signs.nd (si_v (se_var 0)) (blk_of (by kernel_rfl)) (fun _ _ _ _ _ => (pg_name (i := 2) sc_is_signs.nd rfl (by first | exact Or.inl rfl | exact Or.inr rfl))) (bd_n (by decide)) (fun _ _ _ _ _ => sts_nil) (fun _ _ _ _ _ => (se_and (se_cal (ok_is_whole T) hr (sa_cons (se_var 2) sa_nil) takesF) (se_one (se_cmp (op_in2 (u65 hr)) ser_in (se_var 2) (se_tup (sa_cons se_int (sa_cons (se_neg se_int) sa_nil))) (by with_unfolding_all rfl)))))) sa_nil)))))))
theorem ok_is_signs (T : All C P K mg) : Cal C P w K mg base 2 "is_signs" 2 F_is_signs := cal_mk T.t T.f_is_signs sc_is_signs bw_is_signs fin_ok rfl rfl (bd_is_signs T)
theorem sc_check_signs : FnScope ["many", "signs"] ["many", "signs"] (defScope s_check_signs) := ⟨rfl, rfl, rfl, by decide +kernel, rfl, by decide +kernel, by decide +kernel⟩
theorem bw_check_signs : BindW "check_signs" s_check_signs ["many", "signs"] := fun _ _ _ _ _ _ us hl => match us, hl with | [_, _], _ => rfl
theorem bd_check_signs (T : All C P K mg) (f : Addr) (cdv : Value) (A : Around) (outer : List PySem.Env) (s : Shared) (H : Hp) (E : XK) (hr : Room 2 (A.deeper (envOfC "check_signs" (defScope s_check_signs) s.heap.objs.size f cdv))) : SSs C (cxOf (L2.CX P w) P w K mg base ["many", "signs"] "check_signs" (defScope s_check_signs) f cdv A outer s H E) (fun cls d _ H => E cls d H) c_check_signs (defBody s_check_signs) :=
  (sss_one (ss_if (st_not (st_tru (se_cal (ok_is_signs T) hr (sa_cons (se_var 1) (sa_cons (se_var 0) sa_nil)) takes1))) (sss_one (ss_rs T.e_InvalidRow hr rfl takes1 se_non)) sss_nil))
theorem ok_check_signs (T : All C P K mg) : Cal C P w K mg base 3 "check_signs" 2 F_check_signs := cal_mk T.t T.f_check_signs sc_check_signs bw_check_signs fin_ok rfl rfl (bd_check_signs T)
theorem sc_is_whole_table : FnScope ["value", "row", "one"] ["value"] (defScope s_is_whole_table) := ⟨rfl, rfl, rfl, by decide +kernel, rfl, by decide +kernel, by decide +kernel⟩
theorem bw_is_whole_table : BindW "is_whole_table" s_is_whole_table ["value"] := fun _ _ _ _ _ _ us hl => match us, hl with | [_], _ => rfl
theorem bd_is_whole_table (T : All C P K mg) (f : Addr) (cdv : Value) (A : Around) (outer : List PySem.Env) (s : Shared) (H : Hp) (E : XK) (hr : Room 1 (A.deeper (envOfC "is_whole_table" (defScope s_is_whole_table) s.heap.objs.size f cdv))) : SSs C (cxOf (L2.CX P w) P w K mg base ["value", "row", "one"] "is_whole_table" (defScope s_is_whole_table) f cdv A outer s H E) (fun cls d _ H => E cls d H) c_is_whole_table (defBody s_is_whole_table) :=
  (sss_cons (ss_if (st_w (sw_or (st_not (st_tru (se_isi (se_var 0) .tuple (by rfl) T.b_isinstance rfl (by rfl) T.b_tuple bt_tuple))) (sw_or1 (st_not (st_tru (se_b (cr_all rfl) ser_all (by rfl) T.b_all bt_all (sa_cons (se_lc (own := [("row", 1)]) rfl sc_is_whole_table.nd (si_v (se_var 0)) (blk_of (by kernel_rfl)) (fun _ _ _ _ _ => (pg_name (i := 1) sc_is_whole_table.nd rfl (by first | exact Or.inl rfl | exact Or.inr rfl))) (bd_n (by decide)) (fun _ _ _ _ _ => sts_nil) (fun _ _ _ _ _ => (se_isi (se_var 1) .tuple (by rfl) T.b_isinstance rfl (by rfl) T.b_tuple bt_tuple))) sa_nil))))))) (sss_one (ss_ret se_bl)) sss_nil)
  (sss_cons (ss_if (st_not (st_tru (se_b (cr_all rfl) ser_all (by rfl) T.b_all bt_all (sa_cons (se_lc (own := [("row", 1)]) rfl sc_is_whole_table.nd (si_v (se_var 0)) (blk_of (by kernel_rfl)) (fun _ _ _ _ _ => (pg_name (i := 1) sc_is_whole_table.nd rfl (by first | exact Or.inl rfl | exact Or.inr rfl))) (bd_n (by decide)) (fun _ _ _ _ _ => sts_nil) (fun _ _ _ _ _ => (se_cmp (op_eq2 (u64 hr)) ser_eq (se_b call_len_seq ser_len (by rfl) T.b_len bt_len (sa_cons (se_var 1) sa_nil)) (se_b call_len_seq ser_len (by rfl) T.b_len bt_len (sa_cons (se_ix (se_var 0) se_int) sa_nil)) (nomark _)))) sa_nil)))) (sss_one (ss_ret se_bl)) sss_nil)
  (sss_one (ss_ret (se_b (cr_all rfl) ser_all (by rfl) T.b_all bt_all (sa_cons (se_lc2 (own := [("row", 1), ("one", 2)]) (vs1 := [2]) rfl sc_is_whole_table.nd (si_v (se_var 0)) (blk_of (by kernel_rfl)) (by decide) (fun _ _ _ _ _ => (pg_name (i := 1) sc_is_whole_table.nd rfl (by first | exact Or.inl rfl | exact Or.inr rfl))) (bd_n (by decide)) (fun _ _ _ _ _ => sts_nil) (fun _ _ _ _ _ => (si_v (se_var 1))) (fun _ _ _ _ _ => (pg_name (i := 2) sc_is_whole_table.nd rfl (by first | exact Or.inl rfl | exact Or.inr rfl))) (bd_n (by decide)) (fun _ _ _ _ _ => sts_nil) (fun _ _ _ _ _ => (se_cal (ok_is_whole T) hr (sa_cons (se_var 2) sa_nil) takesF))) sa_nil))))))
theorem ok_is_whole_table (T : All C P K mg) : Cal C P w K mg base 2 "is_whole_table" 1 F_is_whole_table := cal_mk T.t T.f_is_whole_table sc_is_whole_table bw_is_whole_table fin_ok rfl rfl (bd_is_whole_table T)
theorem sc_check_whole_table : FnScope ["value"] ["value"] (defScope s_check_whole_table) := ⟨rfl, rfl, rfl, by decide +kernel, rfl, by decide +kernel, by decide +kernel⟩
theorem bw_check_whole_table : BindW "check_whole_table" s_check_whole_table ["value"] := fun _ _ _ _ _ _ us hl => match us, hl with | [_], _ => rfl
theorem bd_check_whole_table (T : All C P K mg) (f : Addr) (cdv : Value) (A : Around) (outer : List PySem.Env) (s : Shared) (H : Hp) (E : XK) (hr : Room 2 (A.deeper (envOfC "check_whole_table" (defScope s_check_whole_table) s.heap.objs.size f cdv))) : SSs C (cxOf (L2.CX P w) P w K mg base ["value"] "check_whole_table" (defScope s_check_whole_table) f cdv A outer s H E) (fun cls d _ H => E cls d H) c_check_whole_table (defBody s_check_whole_table) :=
  (sss_one (ss_if (st_not (st_tru (se_cal (ok_is_whole_table T) hr (sa_cons (se_var 0) sa_nil) takes1))) (sss_one (ss_rs T.e_InvalidTable hr rfl takes1 se_non)) sss_nil))
theorem ok_check_whole_table (T : All C P K mg) : Cal C P w K mg base 3 "check_whole_table" 1 F_check_whole_table := cal_mk T.t T.f_check_whole_table sc_check_whole_table bw_check_whole_table fin_ok rfl rfl (bd_check_whole_table T)
theorem sc_check_places : FnScope ["places", "k", "one"] ["places"] (defScope s_check_places) := ⟨rfl, rfl, rfl, by decide +kernel, rfl, by decide +kernel, by decide +kernel⟩
theorem bw_check_places : BindW "check_places" s_check_places ["places"] := fun _ _ _ _ _ _ us hl => match us, hl with | [_], _ => rfl
theorem bd_check_places (T : All C P K mg) (f : Addr) (cdv : Value) (A : Around) (outer : List PySem.Env) (s : Shared) (H : Hp) (E : XK) (hr : Room 1 (A.deeper (envOfC "check_places" (defScope s_check_places) s.heap.objs.size f cdv))) : SSs C (cxOf (L2.CX P w) P w K mg base ["places", "k", "one"] "check_places" (defScope s_check_places) f cdv A outer s H E) (fun cls d _ H => E cls d H) c_check_places (defBody s_check_places) :=
  (sss_one (ss_for (vs := [1]) owns0 rfl (si_r1 (by rfl) T.b_range (sa_cons (se_b call_len_seq ser_len (by rfl) T.b_len bt_len (sa_cons (se_var 0) sa_nil)) sa_nil)) (pg_name (i := 1) sc_check_places.nd rfl (by first | exact Or.inl rfl | exact Or.inr rfl)) (bd_n (by decide)) (sss_cons (ss_set (i := 2) sc_check_places.nd rfl (by first | exact Or.inl rfl | exact Or.inr rfl) (se_ix (se_var 0) (se_var 1)))
  (sss_cons (ss_if (st_w (sw_or (st_not (st_tru (se_isi (se_var 2) .tuple (by rfl) T.b_isinstance rfl (by rfl) T.b_tuple bt_tuple))) (sw_or (st_cmp (op_ne2 (u64 hr)) ser_ne (se_b call_len_seq ser_len (by rfl) T.b_len bt_len (sa_cons (se_var 2) sa_nil)) se_int (nomark _)) (sw_or (st_not (st_tru (se_cal (ok_is_count T) hr (sa_cons (se_ix (se_var 2) se_int) sa_nil) takes1))) (sw_or1 (st_not (st_tru (se_cal (ok_is_count T) hr (sa_cons (se_ix (se_var 2) se_int) sa_nil) takes1)))))))) (sss_one (ss_rs T.e_InvalidTable hr rfl takes1 (se_var 1))) sss_nil)
  (sss_one (ss_if (st_w (sw_and (st_cmp op_gt ser_gt (se_var 1) se_int (nomark _)) (sw_and1 (st_cmp (op_geA (u0 hr)) ser_geA (se_ix (se_var 0) (se_op op_sub ser_sub (se_var 1) se_int)) (se_var 2) (nomark _))))) (sss_one (ss_rs T.e_InvalidTable hr rfl takes1 (se_var 1))) sss_nil))))))
theorem ok_check_places (T : All C P K mg) : Cal C P w K mg base 2 "check_places" 1 F_check_places := cal_mk T.t T.f_check_places sc_check_places bw_check_places fin_ok rfl rfl (bd_check_places T)
theorem sc_arrow_table : FnScope ["many", "arrows", "k", "one", "start", "end", "j"] ["many", "arrows"] (defScope s_arrow_table) := ⟨rfl, rfl, rfl, by decide +kernel, rfl, by decide +kernel, by decide +kernel⟩
theorem bw_arrow_table : BindW "arrow_table" s_arrow_table ["many", "arrows"] := fun _ _ _ _ _ _ us hl => match us, hl with | [_, _], _ => rfl
theorem bd_arrow_table (T : All C P K mg) (f : Addr) (cdv : Value) (A : Around) (outer : List PySem.Env) (s : Shared) (H : Hp) (E : XK) (hr : Room 1 (A.deeper (envOfC "arrow_table" (defScope s_arrow_table) s.heap.objs.size f cdv))) : SSs C (cxOf (L2.CX P w) P w K mg base ["many", "arrows", "k", "one", "start", "end", "j"] "arrow_table" (defScope s_arrow_table) f cdv A outer s H E) (fun cls d _ H => E cls d H) c_arrow_table (defBody s_arrow_table) :=
  (sss_cons (ss_for (vs := [2]) owns0 rfl (si_r1 (by rfl) T.b_range (sa_cons (se_b call_len_seq ser_len (by rfl) T.b_len bt_len (sa_cons (se_var 1) sa_nil)) sa_nil)) (pg_name (i := 2) sc_arrow_table.nd rfl (by first | exact Or.inl rfl | exact Or.inr rfl)) (bd_n (by decide)) (sss_cons (ss_set (i := 3) sc_arrow_table.nd rfl (by first | exact Or.inl rfl | exact Or.inr rfl) (se_ix (se_var 1) (se_var 2)))
  (sss_cons (ss_if (st_w (sw_or (st_not (st_tru (se_isi (se_var 3) .tuple (by rfl) T.b_isinstance rfl (by rfl) T.b_tuple bt_tuple))) (sw_or (st_cmp (op_ne2 (u64 hr)) ser_ne (se_b call_len_seq ser_len (by rfl) T.b_len bt_len (sa_cons (se_var 3) sa_nil)) se_int (nomark _)) (sw_or1 (st_not (st_tru (se_b (cr_all rfl) ser_all (by rfl) T.b_all bt_all (sa_cons (se_lc (own := [("end", 5)]) rfl sc_arrow_table.nd (si_v (se_var 3)) (blk_of (by kernel_rfl)) (fun _ _ _ _ _ => (pg_name (i := 5) sc_arrow_table.nd rfl (by first | exact Or.inl rfl | exact Or.inr rfl))) (bd_n (by decide)) (fun _ _ _ _ _ => sts_nil) (fun _ _ _ _ _ => (se_and (se_cal (ok_is_count T) hr (sa_cons (se_var 5) sa_nil) takesF) (se_one (se_cmp op_lt ser_lt (se_var 5) (se_var 0) (nomark _)))))) sa_nil)))))))) (sss_one (ss_rs T.e_InvalidWeb hr rfl takes1 (se_var 2))) sss_nil)
  (sss_one (ss_if (st_cmp (op_eq2 (u64 hr)) ser_eq (se_ix (se_var 3) se_int) (se_ix (se_var 3) se_int) (nomark _)) (sss_one (ss_rs T.e_InvalidWeb hr rfl takes1 (se_var 2))) sss_nil)))))
  (sss_one (ss_ret (se_ty call_tuple_of ser_tup (by rfl) T.b_tuple bt_tuple (sa_cons (se_lc (own := [("start", 4), ("end", 5)]) rfl sc_arrow_table.nd (si_v (se_var 1)) (blk_of (by kernel_rfl)) (fun _ _ _ _ _ => (pg_tup rfl (pgs_cons (pg_name (i := 4) sc_arrow_table.nd rfl (by first | exact Or.inl rfl | exact Or.inr rfl)) (pgs_cons (pg_name (i := 5) sc_arrow_table.nd rfl (by first | exact Or.inl rfl | exact Or.inr rfl)) pgs_nil)))) (bd_p (by decide) (by decide)) (fun _ _ _ _ _ => sts_nil) (fun _ _ _ _ _ => (se_ty call_tuple_of ser_tup (by rfl) T.b_tuple bt_tuple (sa_cons (se_lc (own := [("j", 6)]) rfl sc_arrow_table.nd (si_r1 (by rfl) T.b_range (sa_cons (se_var 0) sa_nil)) (blk_of (by kernel_rfl)) (fun _ _ _ _ _ => (pg_name (i := 6) sc_arrow_table.nd rfl (by first | exact Or.inl rfl | exact Or.inr rfl))) (bd_n (by decide)) (fun _ _ _ _ _ => sts_nil) (fun _ _ _ _ _ => (se_op op_sub ser_sub (se_ty call_int1 ser_int (by rfl) T.b_int bt_int (sa_cons (se_cmp (op_eq2 (u64 hr)) ser_eq (se_var 6) (se_var 4) (nomark _)) sa_nil)) (se_ty call_int1 ser_int (by rfl) T.b_int bt_int (sa_cons (se_cmp (op_eq2 (u64 hr)) ser_eq (se_var 6) (se_var 5) (nomark _)) sa_nil))))) sa_nil)))) sa_nil)))))
theorem ok_arrow_table (T : All C P K mg) : Cal C P w K mg base 2 "arrow_table" 2 F_arrow_table := cal_mk T.t T.f_arrow_table sc_arrow_table bw_arrow_table fin_ok rfl rfl (bd_arrow_table T)
theorem sc__law_call : FnScope ["kind", "first", "second", "e"] ["kind", "first", "second"] (defScope s__law_call) := ⟨rfl, rfl, rfl, by decide +kernel, rfl, by decide +kernel, by decide +kernel⟩
theorem bw__law_call : BindW "_law_call" s__law_call ["kind", "first", "second"] := fun _ _ _ _ _ _ us hl => match us, hl with | [_, _, _], _ => rfl
theorem bd__law_call (T : All C P K mg) (f : Addr) (cdv : Value) (A : Around) (outer : List PySem.Env) (s : Shared) (H : Hp) (E : XK) (hr : Room 3 (A.deeper (envOfC "_law_call" (defScope s__law_call) s.heap.objs.size f cdv))) : SSs C (cxOf (L2.CX P w) P w K mg base ["kind", "first", "second", "e"] "_law_call" (defScope s__law_call) f cdv A outer s H E) (fun cls d _ H => E cls d H) c__law_call (defBody s__law_call) :=
  (sss_cons (ss_try rfl rfl sc__law_call.nd takes1 (fun W' pn xe tk' ho => (sss_one (ss_if (st_cmp (op_eq2 (u64 hr)) ser_eq (se_var 0) se_str (nomark _)) (sss_one (ss_expr (se_cal (ok_check_family T) hr (sa_cons (se_var 1) (sa_cons (se_var 2) sa_nil)) tk'))) (sss_one (ss_if (st_cmp (op_eq2 (u64 hr)) ser_eq (se_var 0) se_str (nomark _)) (sss_one (ss_expr (se_cal (ok_check_signs T) hr (sa_cons (se_var 1) (sa_cons (se_var 2) sa_nil)) tk'))) (sss_one (ss_if (st_cmp (op_eq2 (u64 hr)) ser_eq (se_var 0) se_str (nomark _)) (sss_one (ss_expr (se_cal (ok_check_whole_table T) hr (sa_cons (se_var 1) sa_nil) tk'))) (sss_one (ss_if (st_cmp (op_eq2 (u64 hr)) ser_eq (se_var 0) se_str (nomark _)) (sss_one (ss_expr (se_cal (ok_check_places T) hr (sa_cons (se_var 1) sa_nil) tk'))) (sss_one (ss_expr (se_cal (ok_arrow_table T) hr (sa_cons (se_var 1) (sa_cons (se_var 2) sa_nil)) tk')))))))))))) (sh_as T.c_EvensplitsError (fun a oe A dd cn pl pn hca z hf => (sss_one (ss_ret (se_tup (sa_cons (se_name (T.t.xf _ _ hca) z hf) (sa_cons (se_place (T.t.xf _ _ hca) z hf) sa_nil)))))) .nil))
  (sss_one (ss_ret se_non)))
theorem ok__law_call (T : All C P K mg) : Cal C P w K mg base 4 "_law_call" 3 F__law_call := cal_mk T.t T.f__law_call sc__law_call bw__law_call fin_ok rfl rfl (bd__law_call T)
theorem sc__law_same : FnScope ["told", "due", "k"] ["told", "due"] (defScope s__law_same) := ⟨rfl, rfl, rfl, by decide +kernel, rfl, by decide +kernel, by decide +kernel⟩
theorem bw__law_same : BindW "_law_same" s__law_same ["told", "due"] := fun _ _ _ _ _ _ us hl => match us, hl with | [_, _], _ => rfl
theorem bd__law_same (T : All C P K mg) {Φ : Fn} {k : Nat} (hk0 : 1 ≤ k) (ih : Cal C P w K mg base k "_law_same" 2 Φ) (f : Addr) (cdv : Value) (A : Around) (outer : List PySem.Env) (s : Shared) (H : Hp) (E : XK) (hr : Room k (A.deeper (envOfC "_law_same" (defScope s__law_same) s.heap.objs.size f cdv))) : SSs C (cxOf (L2.CX P w) P w K mg base ["told", "due", "k"] "_law_same" (defScope s__law_same) f cdv A outer s H E) (fun cls d _ H => E cls d H) (c__law_same Φ) (defBody s__law_same) :=
  (sss_cons (ss_if (st_cmp op_is2 ser_is (se_var 1) se_non (nomark _)) (sss_one (ss_ret (se_cmp op_is2 ser_is (se_var 0) se_non (nomark _)))) sss_nil)
  (sss_cons (ss_if (st_tru (se_isi (se_var 1) .bool (by rfl) T.b_isinstance rfl (by rfl) T.b_bool bt_bool)) (sss_one (ss_ret (se_and (se_isi (se_var 0) .bool (by rfl) T.b_isinstance rfl (by rfl) T.b_bool bt_bool) (se_one (se_cmp (op_eq2 (u64 hr)) ser_eq (se_var 0) (se_var 1) (nomark _)))))) sss_nil)
  (sss_cons (ss_if (st_tru (se_isi (se_var 1) .int (by rfl) T.b_isinstance rfl (by rfl) T.b_int bt_int)) (sss_one (ss_ret (se_and (se_isi (se_var 0) .int (by rfl) T.b_isinstance rfl (by rfl) T.b_int bt_int) (se_and (se_not (se_isi (se_var 0) .bool (by rfl) T.b_isinstance rfl (by rfl) T.b_bool bt_bool)) (se_one (se_cmp (op_eq2 (u64 hr)) ser_eq (se_var 0) (se_var 1) (nomark _))))))) sss_nil)
  (sss_cons (ss_if (st_tru (se_isi (se_var 1) .str (by rfl) T.b_isinstance rfl (by rfl) T.b_str bt_str)) (sss_one (ss_ret (se_and (se_isi (se_var 0) .str (by rfl) T.b_isinstance rfl (by rfl) T.b_str bt_str) (se_one (se_cmp (op_eq2 (u64 hr)) ser_eq (se_var 0) (se_var 1) (nomark _)))))) sss_nil)
  (sss_cons (ss_if (st_w (sw_or (st_w (sw_and (st_tru (se_isi (se_var 1) .list (by rfl) T.b_isinstance rfl (by rfl) T.b_list bt_list)) (sw_and1 (st_not (st_tru (se_isi (se_var 0) .list (by rfl) T.b_isinstance rfl (by rfl) T.b_list bt_list)))))) (sw_or1 (st_w (sw_and (st_tru (se_isi (se_var 1) .tuple (by rfl) T.b_isinstance rfl (by rfl) T.b_tuple bt_tuple)) (sw_and1 (st_not (st_tru (se_isi (se_var 0) .tuple (by rfl) T.b_isinstance rfl (by rfl) T.b_tuple bt_tuple))))))))) (sss_one (ss_ret se_bl)) sss_nil)
  (sss_one (ss_ret (se_and (se_cmp (op_eq2 (u64 hr)) ser_eq (se_b call_len_seq ser_len (by rfl) T.b_len bt_len (sa_cons (se_var 0) sa_nil)) (se_b call_len_seq ser_len (by rfl) T.b_len bt_len (sa_cons (se_var 1) sa_nil)) (nomark _)) (se_one (se_cmp (op_eq2 (u64 hr)) ser_eq (se_lc (own := [("k", 2)]) rfl sc__law_same.nd (si_r1 (by rfl) T.b_range (sa_cons (se_b call_len_seq ser_len (by rfl) T.b_len bt_len (sa_cons (se_var 1) sa_nil)) sa_nil)) (blk_of (by kernel_rfl)) (fun _ _ _ _ _ => (pg_name (i := 2) sc__law_same.nd rfl (by first | exact Or.inl rfl | exact Or.inr rfl))) (bd_n (by decide)) (fun _ _ _ _ _ => (sts_one (st_not (st_tru (se_cal ih hr (sa_cons (se_ix (se_var 0) (se_var 2)) (sa_cons (se_ix (se_var 1) (se_var 2)) sa_nil)) takesF (hk := Nat.le_refl _)))))) (fun _ _ _ _ _ => se_int)) (se_lst sa_nil) (nomark _)))))))))))
theorem ok__law_same (T : All C P K mg) : ∀ d : Nat, Cal C P w K mg base (1 + d) "_law_same" 2 (F__law_same d)
  | 0 => cal_none T.f__law_same bw__law_same rfl
  | d + 1 => cal_mk T.t T.f__law_same sc__law_same bw__law_same fin_ok rfl rfl (bd__law_same T (Nat.le_add_right _ _) (ok__law_same T d))
theorem sc__law_least : FnScope ["over", "under", "size", "rest"] ["over", "under"] (defScope s__law_least) := ⟨rfl, rfl, rfl, by decide +kernel, rfl, by decide +kernel, by decide +kernel⟩
theorem bw__law_least : BindW "_law_least" s__law_least ["over", "under"] := fun _ _ _ _ _ _ us hl => match us, hl with | [_, _], _ => rfl
theorem bd__law_least (T : All C P K mg) (f : Addr) (cdv : Value) (A : Around) (outer : List PySem.Env) (s : Shared) (H : Hp) (E : XK) (hr : Room 0 (A.deeper (envOfC "_law_least" (defScope s__law_least) s.heap.objs.size f cdv))) : SSs C (cxOf (L2.CX P w) P w K mg base ["over", "under", "size", "rest"] "_law_least" (defScope s__law_least) f cdv A outer s H E) (fun cls d _ H => E cls d H) c__law_least (defBody s__law_least) :=
  (sss_cons (ss_par (i := 2) (j := 3) rfl sc__law_least.nd rfl rfl (by decide) rfl rfl (se_b call_abs ser_abs (by rfl) T.b_abs bt_abs (sa_cons (se_var 1) sa_nil)) (se_b call_abs ser_abs (by rfl) T.b_abs bt_abs (sa_cons (se_var 0) sa_nil)) (by rfl))
  (sss_cons (ss_wh owns0 (st_cmp (op_ne2 (u64 hr)) ser_ne (se_var 3) se_int (nomark _)) (sss_one (ss_par (i := 2) (j := 3) rfl sc__law_least.nd rfl rfl (by decide) rfl rfl (se_var 3) (se_op op_mod ser_mod (se_ty call_int1 ser_int (by rfl) T.b_int bt_int (sa_cons (se_var 2) sa_nil)) (se_var 3)) (by rfl))))
  (sss_cons (ss_if (st_cmp op_lt ser_lt (se_var 1) se_int (nomark _)) (sss_one (ss_set (i := 2) sc__law_least.nd rfl (by first | exact Or.inl rfl | exact Or.inr rfl) (se_op op_sub ser_sub se_int (se_var 2)))) sss_nil)
  (sss_one (ss_ret (se_tup (sa_cons (se_op op_divN ser_divN (se_var 0) (se_var 2)) (sa_cons (se_op op_divN ser_divN (se_var 1) (se_var 2)) sa_nil))))))))
theorem ok__law_least (T : All C P K mg) : Cal C P w K mg base 1 "_law_least" 2 F__law_least := cal_mk T.t T.f__law_least sc__law_least bw__law_least fin_ok rfl rfl (bd__law_least T)
theorem sc_made : FnScope ["over", "under", "sign", "size", "rest"] ["over", "under"] (defScope s_made) := ⟨rfl, rfl, rfl, by decide +kernel, rfl, by decide +kernel, by decide +kernel⟩
theorem bw_made : BindW "made" s_made ["over", "under"] := fun _ _ _ _ _ _ us hl => match us, hl with | [_, _], _ => rfl
theorem bd_made (T : All C P K mg) (f : Addr) (cdv : Value) (A : Around) (outer : List PySem.Env) (s : Shared) (H : Hp) (E : XK) (hr : Room 0 (A.deeper (envOfC "made" (defScope s_made) s.heap.objs.size f cdv))) : SSs C (cxOf (L2.CX P w) P w K mg base ["over", "under", "sign", "size", "rest"] "made" (defScope s_made) f cdv A outer s H E) (fun cls d _ H => E cls d H) c_made (defBody s_made) :=
  (sss_cons (ss_par (i := 3) (j := 4) rfl sc_made.nd rfl rfl (by decide) rfl rfl (se_b call_abs ser_abs (by rfl) T.b_abs bt_abs (sa_cons (se_var 1) sa_nil)) (se_b call_abs ser_abs (by rfl) T.b_abs bt_abs (sa_cons (se_var 0) sa_nil)) (by rfl))
  (sss_cons (ss_wh owns0 (st_cmp op_gt ser_gt (se_var 4) se_int (nomark _)) (sss_one (ss_par (i := 3) (j := 4) rfl sc_made.nd rfl rfl (by decide) rfl rfl (se_var 4) (se_op op_mod ser_mod (se_ty call_int1 ser_int (by rfl) T.b_int bt_int (sa_cons (se_var 3) sa_nil)) (se_var 4)) (by rfl))))
  (sss_cons (ss_set (i := 2) sc_made.nd rfl (by first | exact Or.inl rfl | exact Or.inr rfl) (se_if (st_cmp op_gt ser_gt (se_var 1) se_int (nomark _)) se_int (se_neg se_int)))
  (sss_one (ss_ret (se_tup (sa_cons (se_op op_divN ser_divN (se_op op_mulB ser_mulB (se_var 2) (se_var 0)) (se_var 3)) (sa_cons (se_op op_divN ser_divN (se_op op_mulB ser_mulB (se_var 2) (se_var 1)) (se_var 3)) sa_nil))))))))
theorem ok_made (T : All C P K mg) : Cal C P w K mg base 1 "made" 2 F_made := cal_mk T.t T.f_made sc_made bw_made fin_ok rfl rfl (bd_made T)
theorem sc_plus_f : FnScope ["first", "second"] ["first", "second"] (defScope s_plus_f) := ⟨rfl, rfl, rfl, by decide +kernel, rfl, by decide +kernel, by decide +kernel⟩
theorem bw_plus_f : BindW "plus_f" s_plus_f ["first", "second"] := fun _ _ _ _ _ _ us hl => match us, hl with | [_, _], _ => rfl
theorem bd_plus_f (T : All C P K mg) (f : Addr) (cdv : Value) (A : Around) (outer : List PySem.Env) (s : Shared) (H : Hp) (E : XK) (hr : Room 1 (A.deeper (envOfC "plus_f" (defScope s_plus_f) s.heap.objs.size f cdv))) : SSs C (cxOf (L2.CX P w) P w K mg base ["first", "second"] "plus_f" (defScope s_plus_f) f cdv A outer s H E) (fun cls d _ H => E cls d H) c_plus_f (defBody s_plus_f) :=
  (sss_one (ss_ret (se_cal (ok_made T) hr (sa_cons (se_op op_addA ser_add (se_op op_mulB ser_mulB (se_ix (se_var 0) se_int) (se_ix (se_var 1) se_int)) (se_op op_mulB ser_mulB (se_ix (se_var 1) se_int) (se_ix (se_var 0) se_int))) (sa_cons (se_op op_mulB ser_mulB (se_ix (se_var 0) se_int) (se_ix (se_var 1) se_int)) sa_nil)) takes1)))
theorem ok_plus_f (T : All C P K mg) : Cal C P w K mg base 2 "plus_f" 2 F_plus_f := cal_mk T.t T.f_plus_f sc_plus_f bw_plus_f fin_ok rfl rfl (bd_plus_f T)
theorem sc_sum_f : FnScope ["some", "found", "one"] ["some"] (defScope s_sum_f) := ⟨rfl, rfl, rfl, by decide +kernel, rfl, by decide +kernel, by decide +kernel⟩
theorem bw_sum_f : BindW "sum_f" s_sum_f ["some"] := fun _ _ _ _ _ _ us hl => match us, hl with | [_], _ => rfl
theorem bd_sum_f (T : All C P K mg) (f : Addr) (cdv : Value) (A : Around) (outer : List PySem.Env) (s : Shared) (H : Hp) (E : XK) (hr : Room 2 (A.deeper (envOfC "sum_f" (defScope s_sum_f) s.heap.objs.size f cdv))) : SSs C (cxOf (L2.CX P w) P w K mg base ["some", "found", "one"] "sum_f" (defScope s_sum_f) f cdv A outer s H E) (fun cls d _ H => E cls d H) c_sum_f (defBody s_sum_f) :=
  (sss_cons (ss_set (i := 1) sc_sum_f.nd rfl (by first | exact Or.inl rfl | exact Or.inr rfl) (se_tup (sa_cons se_int (sa_cons se_int sa_nil))))
  (sss_cons (ss_for (vs := [2]) owns0 rfl (si_v (se_var 0)) (pg_name (i := 2) sc_sum_f.nd rfl (by first | exact Or.inl rfl | exact Or.inr rfl)) (bd_n (by decide)) (sss_one (ss_set (i := 1) sc_sum_f.nd rfl (by first | exact Or.inl rfl | exact Or.inr rfl) (se_cal (ok_plus_f T) hr (sa_cons (se_var 1) (sa_cons (se_var 2) sa_nil)) takes1))))
  (sss_one (ss_ret (se_var 1)))))
theorem ok_sum_f (T : All C P K mg) : Cal C P w K mg base 3 "sum_f" 1 F_sum_f := cal_mk T.t T.f_sum_f sc_sum_f bw_sum_f fin_ok rfl rfl (bd_sum_f T)
theorem sc_is_fraction : FnScope ["value", "one"] ["value"] (defScope s_is_fraction) := ⟨rfl, rfl, rfl, by decide +kernel, rfl, by decide +kernel, by decide +kernel⟩
theorem bw_is_fraction : BindW "is_fraction" s_is_fraction ["value"] := fun _ _ _ _ _ _ us hl => match us, hl with | [_], _ => rfl
theorem bd_is_fraction (T : All C P K mg) (f : Addr) (cdv : Value) (A : Around) (outer : List PySem.Env) (s : Shared) (H : Hp) (E : XK) (hr : Room 1 (A.deeper (envOfC "is_fraction" (defScope s_is_fraction) s.heap.objs.size f cdv))) : SSs C (cxOf (L2.CX P w) P w K mg base ["value", "one"] "is_fraction" (defScope s_is_fraction) f cdv A outer s H E) (fun cls d _ H => E cls d H) c_is_fraction (defBody s_is_fraction) :=
  (sss_cons (ss_if (st_w (sw_or (st_not (st_tru (se_isi (se_var 0) .tuple (by rfl) T.b_isinstance rfl (by rfl) T.b_tuple bt_tuple))) (sw_or1 (st_cmp (op_ne2 (u64 hr)) ser_ne (se_b call_len_seq ser_len (by rfl) T.b_len bt_len (sa_cons (se_var 0) sa_nil)) se_int (nomark _))))) (sss_one (ss_ret se_bl)) sss_nil)
  (sss_cons (ss_if (st_not (st_tru (se_b (cr_all rfl) ser_all (by rfl) T.b_all bt_all (sa_cons (se_lc (own := [("one", 1)]) rfl sc_is_fraction.nd (si_v (se_var 0)) (blk_of (by kernel_rfl)) (fun _ _ _ _ _ => (pg_name (i := 1) sc_is_fraction.nd rfl (by first | exact Or.inl rfl | exact Or.inr rfl))) (bd_n (by decide)) (fun _ _ _ _ _ => sts_nil) (fun _ _ _ _ _ => (se_and (se_isi (se_var 1) .int (by rfl) T.b_isinstance rfl (by rfl) T.b_int bt_int) (se_one (se_not (se_isi (se_var 1) .bool (by rfl) T.b_isinstance rfl (by rfl) T.b_bool bt_bool)))))) sa_nil)))) (sss_one (ss_ret se_bl)) sss_nil)
  (sss_one (ss_ret (se_and (se_cmp op_gt ser_gt (se_ix (se_var 0) se_int) se_int (nomark _)) (se_one (se_cmp (op_eq2 (u64 hr)) ser_eq (se_cal (ok_made T) hr (sa_cons (se_ix (se_var 0) se_int) (sa_cons (se_ix (se_var 0) se_int) sa_nil)) takes1) (se_var 0) (nomark _))))))))
theorem ok_is_fraction (T : All C P K mg) : Cal C P w K mg base 2 "is_fraction" 1 F_is_fraction := cal_mk T.t T.f_is_fraction sc_is_fraction bw_is_fraction fin_ok rfl rfl (bd_is_fraction T)
theorem sc_minus_f : FnScope ["first", "second"] ["first", "second"] (defScope s_minus_f) := ⟨rfl, rfl, rfl, by decide +kernel, rfl, by decide +kernel, by decide +kernel⟩
theorem bw_minus_f : BindW "minus_f" s_minus_f ["first", "second"] := fun _ _ _ _ _ _ us hl => match us, hl with | [_, _], _ => rfl
theorem bd_minus_f (T : All C P K mg) (f : Addr) (cdv : Value) (A : Around) (outer : List PySem.Env) (s : Shared) (H : Hp) (E : XK) (hr : Room 1 (A.deeper (envOfC "minus_f" (defScope s_minus_f) s.heap.objs.size f cdv))) : SSs C (cxOf (L2.CX P w) P w K mg base ["first", "second"] "minus_f" (defScope s_minus_f) f cdv A outer s H E) (fun cls d _ H => E cls d H) c_minus_f (defBody s_minus_f) :=
  (sss_one (ss_ret (se_cal (ok_made T) hr (sa_cons (se_op op_sub ser_sub (se_op op_mulB ser_mulB (se_ix (se_var 0) se_int) (se_ix (se_var 1) se_int)) (se_op op_mulB ser_mulB (se_ix (se_var 1) se_int) (se_ix (se_var 0) se_int))) (sa_cons (se_op op_mulB ser_mulB (se_ix (se_var 0) se_int) (se_ix (se_var 1) se_int)) sa_nil)) takes1)))
theorem ok_minus_f (T : All C P K mg) : Cal C P w K mg base 2 "minus_f" 2 F_minus_f := cal_mk T.t T.f_minus_f sc_minus_f bw_minus_f fin_ok rfl rfl (bd_minus_f T)
theorem sc_times_f : FnScope ["first", "second"] ["first", "second"] (defScope s_times_f) := ⟨rfl, rfl, rfl, by decide +kernel, rfl, by decide +kernel, by decide +kernel⟩
theorem bw_times_f : BindW "times_f" s_times_f ["first", "second"] := fun _ _ _ _ _ _ us hl => match us, hl with | [_, _], _ => rfl
theorem bd_times_f (T : All C P K mg) (f : Addr) (cdv : Value) (A : Around) (outer : List PySem.Env) (s : Shared) (H : Hp) (E : XK) (hr : Room 1 (A.deeper (envOfC "times_f" (defScope s_times_f) s.heap.objs.size f cdv))) : SSs C (cxOf (L2.CX P w) P w K mg base ["first", "second"] "times_f" (defScope s_times_f) f cdv A outer s H E) (fun cls d _ H => E cls d H) c_times_f (defBody s_times_f) :=
  (sss_one (ss_ret (se_cal (ok_made T) hr (sa_cons (se_op op_mulB ser_mulB (se_ix (se_var 0) se_int) (se_ix (se_var 1) se_int)) (sa_cons (se_op op_mulB ser_mulB (se_ix (se_var 0) se_int) (se_ix (se_var 1) se_int)) sa_nil)) takes1)))
theorem ok_times_f (T : All C P K mg) : Cal C P w K mg base 2 "times_f" 2 F_times_f := cal_mk T.t T.f_times_f sc_times_f bw_times_f fin_ok rfl rfl (bd_times_f T)
theorem sc_below_f : FnScope ["first", "second"] ["first", "second"] (defScope s_below_f) := ⟨rfl, rfl, rfl, by decide +kernel, rfl, by decide +kernel, by decide +kernel⟩
theorem bw_below_f : BindW "below_f" s_below_f ["first", "second"] := fun _ _ _ _ _ _ us hl => match us, hl with | [_, _], _ => rfl
theorem bd_below_f (T : All C P K mg) (f : Addr) (cdv : Value) (A : Around) (outer : List PySem.Env) (s : Shared) (H : Hp) (E : XK) (hr : Room 0 (A.deeper (envOfC "below_f" (defScope s_below_f) s.heap.objs.size f cdv))) : SSs C (cxOf (L2.CX P w) P w K mg base ["first", "second"] "below_f" (defScope s_below_f) f cdv A outer s H E) (fun cls d _ H => E cls d H) c_below_f (defBody s_below_f) :=
  (sss_one (ss_ret (se_cmp op_lt ser_lt (se_op op_mulB ser_mulB (se_ix (se_var 0) se_int) (se_ix (se_var 1) se_int)) (se_op op_mulB ser_mulB (se_ix (se_var 1) se_int) (se_ix (se_var 0) se_int)) (nomark _))))
theorem ok_below_f (T : All C P K mg) : Cal C P w K mg base 1 "below_f" 2 F_below_f := cal_mk T.t T.f_below_f sc_below_f bw_below_f fin_ok rfl rfl (bd_below_f T)
theorem sc_size_f : FnScope ["value"] ["value"] (defScope s_size_f) := ⟨rfl, rfl, rfl, by decide +kernel, rfl, by decide +kernel, by decide +kernel⟩
theorem bw_size_f : BindW "size_f" s_size_f ["value"] := fun _ _ _ _ _ _ us hl => match us, hl with | [_], _ => rfl
theorem bd_size_f (T : All C P K mg) (f : Addr) (cdv : Value) (A : Around) (outer : List PySem.Env) (s : Shared) (H : Hp) (E : XK) (hr : Room 0 (A.deeper (envOfC "size_f" (defScope s_size_f) s.heap.objs.size f cdv))) : SSs C (cxOf (L2.CX P w) P w K mg base ["value"] "size_f" (defScope s_size_f) f cdv A outer s H E) (fun cls d _ H => E cls d H) c_size_f (defBody s_size_f) :=
  (sss_one (ss_ret (se_tup (sa_cons (se_b call_abs ser_abs (by rfl) T.b_abs bt_abs (sa_cons (se_ix (se_var 0) se_int) sa_nil)) (sa_cons (se_ix (se_var 0) se_int) sa_nil)))))
theorem ok_size_f (T : All C P K mg) : Cal C P w K mg base 1 "size_f" 1 F_size_f := cal_mk T.t T.f_size_f sc_size_f bw_size_f fin_ok rfl rfl (bd_size_f T)
theorem sc_over_f : FnScope ["first", "second"] ["first", "second"] (defScope s_over_f) := ⟨rfl, rfl, rfl, by decide +kernel, rfl, by decide +kernel, by decide +kernel⟩
theorem bw_over_f : BindW "over_f" s_over_f ["first", "second"] := fun _ _ _ _ _ _ us hl => match us, hl with | [_, _], _ => rfl
theorem bd_over_f (T : All C P K mg) (f : Addr) (cdv : Value) (A : Around) (outer : List PySem.Env) (s : Shared) (H : Hp) (E : XK) (hr : Room 1 (A.deeper (envOfC "over_f" (defScope s_over_f) s.heap.objs.size f cdv))) : SSs C (cxOf (L2.CX P w) P w K mg base ["first", "second"] "over_f" (defScope s_over_f) f cdv A outer s H E) (fun cls d _ H => E cls d H) c_over_f (defBody s_over_f) :=
  (sss_one (ss_ret (se_cal (ok_made T) hr (sa_cons (se_op op_mulB ser_mulB (se_ix (se_var 0) se_int) (se_ix (se_var 1) se_int)) (sa_cons (se_op op_mulB ser_mulB (se_ix (se_var 0) se_int) (se_ix (se_var 1) se_int)) sa_nil)) takes1)))
theorem ok_over_f (T : All C P K mg) : Cal C P w K mg base 2 "over_f" 2 F_over_f := cal_mk T.t T.f_over_f sc_over_f bw_over_f fin_ok rfl rfl (bd_over_f T)
theorem sc__law_fractions : FnScope ["state", "a", "b", "c", "d", "one", "two", "value"] ["state"] (defScope s__law_fractions) := ⟨rfl, rfl, rfl, by decide +kernel, rfl, by decide +kernel, by decide +kernel⟩
theorem bw__law_fractions : BindW "_law_fractions" s__law_fractions ["state"] := fun _ _ _ _ _ _ us hl => match us, hl with | [_], _ => rfl
theorem bd__law_fractions (T : All C P K mg) (f : Addr) (cdv : Value) (A : Around) (outer : List PySem.Env) (s : Shared) (H : Hp) (E : XK) (hr : Room 31 (A.deeper (envOfC "_law_fractions" (defScope s__law_fractions) s.heap.objs.size f cdv))) : SSs C (cxOf (L2.CX P w) P w K mg base ["state", "a", "b", "c", "d", "one", "two", "value"] "_law_fractions" (defScope s__law_fractions) f cdv A outer s H E) (fun cls d _ H => E cls d H) c__law_fractions (defBody s__law_fractions) :=
  (sss_cons (ss_set (i := 1) sc__law_fractions.nd rfl (by first | exact Or.inl rfl | exact Or.inr rfl) (se_op op_sub ser_sub (se_cal (ok__law_pick T) hr (sa_cons (se_var 0) (sa_cons se_int sa_nil)) takes1) se_int))
  (sss_cons (ss_set (i := 2) sc__law_fractions.nd rfl (by first | exact Or.inl rfl | exact Or.inr rfl) (se_op op_addA ser_add se_int (se_cal (ok__law_pick T) hr (sa_cons (se_var 0) (sa_cons se_int sa_nil)) takes1)))
  (sss_cons (ss_set (i := 3) sc__law_fractions.nd rfl (by first | exact Or.inl rfl | exact Or.inr rfl) (se_op op_sub ser_sub (se_cal (ok__law_pick T) hr (sa_cons (se_var 0) (sa_cons se_int sa_nil)) takes1) se_int))
  (sss_cons (ss_set (i := 4) sc__law_fractions.nd rfl (by first | exact Or.inl rfl | exact Or.inr rfl) (se_op op_addA ser_add se_int (se_cal (ok__law_pick T) hr (sa_cons (se_var 0) (sa_cons se_int sa_nil)) takes1)))
  (sss_cons (ss_set (i := 5) sc__law_fractions.nd rfl (by first | exact Or.inl rfl | exact Or.inr rfl) (se_cal (ok__law_least T) hr (sa_cons (se_var 1) (sa_cons (se_var 2) sa_nil)) takes1))
  (sss_cons (ss_set (i := 6) sc__law_fractions.nd rfl (by first | exact Or.inl rfl | exact Or.inr rfl) (se_cal (ok__law_least T) hr (sa_cons (se_var 3) (sa_cons (se_var 4) sa_nil)) takes1))
  (sss_cons (ss_if (st_w (sw_or (st_not (st_tru (se_cal (ok__law_same T 30) hr (sa_cons (se_cal (ok_made T) hr (sa_cons (se_var 1) (sa_cons (se_op op_sub ser_sub se_int (se_var 2)) sa_nil)) takes1) (sa_cons (se_cal (ok__law_least T) hr (sa_cons (se_var 1) (sa_cons (se_op op_sub ser_sub se_int (se_var 2)) sa_nil)) takes1) sa_nil)) takes1))) (sw_or1 (st_not (st_tru (se_cal (ok__law_same T 30) hr (sa_cons (se_cal (ok_plus_f T) hr (sa_cons (se_var 5) (sa_cons (se_var 6) sa_nil)) takes1) (sa_cons (se_cal (ok__law_least T) hr (sa_cons (se_op op_addA ser_add (se_op op_mulB ser_mulB (se_var 1) (se_var 4)) (se_op op_mulB ser_mulB (se_var 3) (se_var 2))) (sa_cons (se_op op_mulB ser_mulB (se_var 2) (se_var 4)) sa_nil)) takes1) sa_nil)) takes1)))))) (sss_one (ss_ret se_bl)) sss_nil)
  (sss_cons (ss_if (st_w (sw_or (st_not (st_tru (se_cal (ok__law_same T 30) hr (sa_cons (se_cal (ok_minus_f T) hr (sa_cons (se_var 5) (sa_cons (se_var 6) sa_nil)) takes1) (sa_cons (se_cal (ok__law_least T) hr (sa_cons (se_op op_sub ser_sub (se_op op_mulB ser_mulB (se_var 1) (se_var 4)) (se_op op_mulB ser_mulB (se_var 3) (se_var 2))) (sa_cons (se_op op_mulB ser_mulB (se_var 2) (se_var 4)) sa_nil)) takes1) sa_nil)) takes1))) (sw_or1 (st_not (st_tru (se_cal (ok__law_same T 30) hr (sa_cons (se_cal (ok_times_f T) hr (sa_cons (se_var 5) (sa_cons (se_var 6) sa_nil)) takes1) (sa_cons (se_cal (ok__law_least T) hr (sa_cons (se_op op_mulB ser_mulB (se_var 1) (se_var 3)) (sa_cons (se_op op_mulB ser_mulB (se_var 2) (se_var 4)) sa_nil)) takes1) sa_nil)) takes1)))))) (sss_one (ss_ret se_bl)) sss_nil)
  (sss_cons (ss_if (st_w (sw_or (st_w (sw_and (st_cmp (op_ne2 (u64 hr)) ser_ne (se_var 3) se_int (nomark _)) (sw_and1 (st_not (st_tru (se_cal (ok__law_same T 30) hr (sa_cons (se_cal (ok_over_f T) hr (sa_cons (se_var 5) (sa_cons (se_var 6) sa_nil)) takes1) (sa_cons (se_cal (ok__law_least T) hr (sa_cons (se_op op_mulB ser_mulB (se_var 1) (se_var 4)) (sa_cons (se_op op_mulB ser_mulB (se_var 2) (se_var 3)) sa_nil)) takes1) sa_nil)) takes1)))))) (sw_or1 (st_not (st_tru (se_cal (ok__law_same T 30) hr (sa_cons (se_cal (ok_below_f T) hr (sa_cons (se_var 5) (sa_cons (se_var 6) sa_nil)) takes1) (sa_cons (se_cmp op_lt ser_lt (se_op op_mulB ser_mulB (se_var 1) (se_var 4)) (se_op op_mulB ser_mulB (se_var 3) (se_var 2)) (nomark _)) sa_nil)) takes1)))))) (sss_one (ss_ret se_bl)) sss_nil)
  (sss_cons (ss_if (st_w (sw_or (st_cmp (op_ne2 (u64 hr)) ser_ne (se_cal (ok_sum_f T) hr (sa_cons (se_lst sa_nil) sa_nil) takes1) (se_tup (sa_cons se_int (sa_cons se_int sa_nil))) (nomark _)) (sw_or (st_not (st_tru (se_cal (ok__law_same T 30) hr (sa_cons (se_cal (ok_sum_f T) hr (sa_cons (se_lst (sa_cons (se_var 5) (sa_cons (se_var 6) (sa_cons (se_var 6) sa_nil)))) sa_nil) takes1) (sa_cons (se_cal (ok__law_least T) hr (sa_cons (se_op op_addA ser_add (se_op op_mulB ser_mulB (se_var 1) (se_var 4)) (se_op op_mulB ser_mulB (se_op op_mulB ser_mulB se_int (se_var 3)) (se_var 2))) (sa_cons (se_op op_mulB ser_mulB (se_var 2) (se_var 4)) sa_nil)) takes1) sa_nil)) takes1))) (sw_or1 (st_not (st_tru (se_cal (ok__law_same T 30) hr (sa_cons (se_cal (ok_size_f T) hr (sa_cons (se_var 5) sa_nil) takes1) (sa_cons (se_cal (ok__law_least T) hr (sa_cons (se_b call_abs ser_abs (by rfl) T.b_abs bt_abs (sa_cons (se_var 1) sa_nil)) (sa_cons (se_var 2) sa_nil)) takes1) sa_nil)) takes1))))))) (sss_one (ss_ret se_bl)) sss_nil)
  (sss_one (ss_ret (se_cmp (op_eq2 (u64 hr)) ser_eq (se_lc (own := [("value", 7)]) rfl sc__law_fractions.nd (si_v (se_lst (sa_cons (se_var 5) (sa_cons (se_tup (sa_cons se_int (sa_cons se_int sa_nil))) (sa_cons (se_tup (sa_cons se_int (sa_cons se_int sa_nil))) (sa_cons (se_tup (sa_cons se_int (sa_cons (se_neg se_int) sa_nil))) (sa_cons (se_lst (sa_cons se_int (sa_cons se_int sa_nil))) (sa_cons (se_tup (sa_cons se_bl (sa_cons se_int sa_nil))) (sa_cons se_non (sa_cons (se_tup (sa_cons se_int (sa_cons se_int sa_nil))) sa_nil)))))))))) (blk_of (by kernel_rfl)) (fun _ _ _ _ _ => (pg_name (i := 7) sc__law_fractions.nd rfl (by first | exact Or.inl rfl | exact Or.inr rfl))) (bd_n (by decide)) (fun _ _ _ _ _ => sts_nil) (fun _ _ _ _ _ => (se_cal (ok_is_fraction T) hr (sa_cons (se_var 7) sa_nil) takesF))) (se_op op_addA ser_add (se_lst (sa_cons se_bl sa_nil)) (se_op op_mulB ser_mulB (se_lst (sa_cons se_bl sa_nil)) se_int)) (nomark _))))))))))))))
theorem ok__law_fractions (T : All C P K mg) : Cal C P w K mg base 32 "_law_fractions" 1 F__law_fractions := cal_mk T.t T.f__law_fractions sc__law_fractions bw__law_fractions fin_ok rfl rfl (bd__law_fractions T)
theorem sc__law_raise : FnScope ["k", "place"] ["k", "place"] (defScope s__law_raise) := ⟨rfl, rfl, rfl, by decide +kernel, rfl, by decide +kernel, by decide +kernel⟩
theorem bw__law_raise : BindW "_law_raise" s__law_raise ["k", "place"] := fun _ _ _ _ _ _ us hl => match us, hl with | [_, _], _ => rfl
theorem bd__law_raise (T : All C P K mg) (f : Addr) (cdv : Value) (A : Around) (outer : List PySem.Env) (s : Shared) (H : Hp) (E : XK) (hr : Room 0 (A.deeper (envOfC "_law_raise" (defScope s__law_raise) s.heap.objs.size f cdv))) : SSs C (cxOf (L2.CX P w) P w K mg base ["k", "place"] "_law_raise" (defScope s__law_raise) f cdv A outer s H E) (fun cls d _ H => E cls d H) c__law_raise (defBody s__law_raise) :=
  (sss_cons (ss_if (st_cmp (op_eq2 (u64 hr)) ser_eq (se_var 0) se_int (nomark _)) (sss_one (ss_rs T.e_InvalidFamily hr rfl takes1 (se_var 1))) sss_nil)
  (sss_cons (ss_if (st_cmp (op_eq2 (u64 hr)) ser_eq (se_var 0) se_int (nomark _)) (sss_one (ss_rs T.e_InvalidPaper hr rfl takes1 (se_var 1))) sss_nil)
  (sss_cons (ss_if (st_cmp (op_eq2 (u64 hr)) ser_eq (se_var 0) se_int (nomark _)) (sss_one (ss_rs T.e_InvalidRow hr rfl takes1 (se_var 1))) sss_nil)
  (sss_cons (ss_if (st_cmp (op_eq2 (u64 hr)) ser_eq (se_var 0) se_int (nomark _)) (sss_one (ss_rs T.e_InvalidTable hr rfl takes1 (se_var 1))) sss_nil)
  (sss_cons (ss_if (st_cmp (op_eq2 (u64 hr)) ser_eq (se_var 0) se_int (nomark _)) (sss_one (ss_rs T.e_InvalidText hr rfl takes1 (se_var 1))) sss_nil)
  (sss_cons (ss_if (st_cmp (op_eq2 (u64 hr)) ser_eq (se_var 0) se_int (nomark _)) (sss_one (ss_rs T.e_InvalidWeb hr rfl takes1 (se_var 1))) sss_nil)
  (sss_cons (ss_if (st_cmp (op_eq2 (u64 hr)) ser_eq (se_var 0) se_int (nomark _)) (sss_one (ss_rs T.e_TooLarge hr rfl takes1 (se_var 1))) sss_nil)
  (sss_one (ss_if (st_cmp (op_eq2 (u64 hr)) ser_eq (se_var 0) se_int (nomark _)) (sss_one (ss_rs T.e_EvensplitsError hr rfl takes1 (se_var 1))) sss_nil)))))))))
theorem ok__law_raise (T : All C P K mg) : Cal C P w K mg base 1 "_law_raise" 2 F__law_raise := cal_mk T.t T.f__law_raise sc__law_raise bw__law_raise fin_ok rfl rfl (bd__law_raise T)
theorem sc__law_forwards : FnScope ["k", "place"] ["k", "place"] (defScope s__law_forwards) := ⟨rfl, rfl, rfl, by decide +kernel, rfl, by decide +kernel, by decide +kernel⟩
theorem bw__law_forwards : BindW "_law_forwards" s__law_forwards ["k", "place"] := fun _ _ _ _ _ _ us hl => match us, hl with | [_, _], _ => rfl
theorem bd__law_forwards (T : All C P K mg) (f : Addr) (cdv : Value) (A : Around) (outer : List PySem.Env) (s : Shared) (H : Hp) (E : XK) (hr : Room 1 (A.deeper (envOfC "_law_forwards" (defScope s__law_forwards) s.heap.objs.size f cdv))) : SSs C (cxOf (L2.CX P w) P w K mg base ["k", "place"] "_law_forwards" (defScope s__law_forwards) f cdv A outer s H E) (fun cls d _ H => E cls d H) c__law_forwards (defBody s__law_forwards) :=
  (sss_one (ss_try rfl rfl sc__law_forwards.nd takes1 (fun W' pn xe tk' ho => (sss_one (ss_expr (se_cal (ok__law_raise T) hr (sa_cons (se_var 0) (sa_cons (se_var 1) sa_nil)) tk')))) (sh_cons T.c_InvalidFamily (fun a oe A dd cn pl pn hca z hf => (sss_one (ss_ret se_str))) (sh_cons T.c_InvalidPaper (fun a oe A dd cn pl pn hca z hf => (sss_one (ss_ret se_str))) (sh_cons T.c_InvalidRow (fun a oe A dd cn pl pn hca z hf => (sss_one (ss_ret se_str))) (sh_cons T.c_InvalidTable (fun a oe A dd cn pl pn hca z hf => (sss_one (ss_ret se_str))) (sh_cons T.c_InvalidText (fun a oe A dd cn pl pn hca z hf => (sss_one (ss_ret se_str))) (sh_cons T.c_InvalidWeb (fun a oe A dd cn pl pn hca z hf => (sss_one (ss_ret se_str))) (sh_cons T.c_TooLarge (fun a oe A dd cn pl pn hca z hf => (sss_one (ss_ret se_str))) (sh_cons T.c_EvensplitsError (fun a oe A dd cn pl pn hca z hf => (sss_one (ss_ret se_str))) .nil))))))))))
theorem ok__law_forwards (T : All C P K mg) : Cal C P w K mg base 2 "_law_forwards" 2 F__law_forwards := cal_mk T.t T.f__law_forwards sc__law_forwards bw__law_forwards fin_ok rfl rfl (bd__law_forwards T)
theorem sc__law_backwards : FnScope ["k", "place"] ["k", "place"] (defScope s__law_backwards) := ⟨rfl, rfl, rfl, by decide +kernel, rfl, by decide +kernel, by decide +kernel⟩
theorem bw__law_backwards : BindW "_law_backwards" s__law_backwards ["k", "place"] := fun _ _ _ _ _ _ us hl => match us, hl with | [_, _], _ => rfl
theorem bd__law_backwards (T : All C P K mg) (f : Addr) (cdv : Value) (A : Around) (outer : List PySem.Env) (s : Shared) (H : Hp) (E : XK) (hr : Room 1 (A.deeper (envOfC "_law_backwards" (defScope s__law_backwards) s.heap.objs.size f cdv))) : SSs C (cxOf (L2.CX P w) P w K mg base ["k", "place"] "_law_backwards" (defScope s__law_backwards) f cdv A outer s H E) (fun cls d _ H => E cls d H) c__law_backwards (defBody s__law_backwards) :=
  (sss_one (ss_try rfl rfl sc__law_backwards.nd takes1 (fun W' pn xe tk' ho => (sss_one (ss_expr (se_cal (ok__law_raise T) hr (sa_cons (se_var 0) (sa_cons (se_var 1) sa_nil)) tk')))) (sh_cons T.c_TooLarge (fun a oe A dd cn pl pn hca z hf => (sss_one (ss_ret se_str))) (sh_cons T.c_InvalidWeb (fun a oe A dd cn pl pn hca z hf => (sss_one (ss_ret se_str))) (sh_cons T.c_InvalidText (fun a oe A dd cn pl pn hca z hf => (sss_one (ss_ret se_str))) (sh_cons T.c_InvalidTable (fun a oe A dd cn pl pn hca z hf => (sss_one (ss_ret se_str))) (sh_cons T.c_InvalidRow (fun a oe A dd cn pl pn hca z hf => (sss_one (ss_ret se_str))) (sh_cons T.c_InvalidPaper (fun a oe A dd cn pl pn hca z hf => (sss_one (ss_ret se_str))) (sh_cons T.c_InvalidFamily (fun a oe A dd cn pl pn hca z hf => (sss_one (ss_ret se_str))) (sh_cons T.c_EvensplitsError (fun a oe A dd cn pl pn hca z hf => (sss_one (ss_ret se_str))) .nil))))))))))
theorem ok__law_backwards (T : All C P K mg) : Cal C P w K mg base 2 "_law_backwards" 2 F__law_backwards := cal_mk T.t T.f__law_backwards sc__law_backwards bw__law_backwards fin_ok rfl rfl (bd__law_backwards T)
theorem sc__law_caught : FnScope ["k", "place", "e"] ["k", "place"] (defScope s__law_caught) := ⟨rfl, rfl, rfl, by decide +kernel, rfl, by decide +kernel, by decide +kernel⟩
theorem bw__law_caught : BindW "_law_caught" s__law_caught ["k", "place"] := fun _ _ _ _ _ _ us hl => match us, hl with | [_, _], _ => rfl
theorem bd__law_caught (T : All C P K mg) (f : Addr) (cdv : Value) (A : Around) (outer : List PySem.Env) (s : Shared) (H : Hp) (E : XK) (hr : Room 1 (A.deeper (envOfC "_law_caught" (defScope s__law_caught) s.heap.objs.size f cdv))) : SSs C (cxOf (L2.CX P w) P w K mg base ["k", "place", "e"] "_law_caught" (defScope s__law_caught) f cdv A outer s H E) (fun cls d _ H => E cls d H) c__law_caught (defBody s__law_caught) :=
  (sss_cons (ss_try rfl rfl sc__law_caught.nd takes1 (fun W' pn xe tk' ho => (sss_one (ss_expr (se_cal (ok__law_raise T) hr (sa_cons (se_var 0) (sa_cons (se_var 1) sa_nil)) tk')))) (sh_as T.c_EvensplitsError (fun a oe A dd cn pl pn hca z hf => (sss_one (ss_if (st_tru (se_isE (by rfl) (Or.inl rfl) (T.isE _ _ hca).1 z hf (by rfl) T.b_isinstance rfl (by rfl) T.b_ValueError bt_ValueError (T.isE _ _ hca).2)) (sss_one (ss_ret (se_tup (sa_cons (se_place (T.t.xf _ _ hca) z hf) (sa_cons (se_name (T.t.xf _ _ hca) z hf) sa_nil))))) sss_nil))) .nil))
  (sss_one (ss_ret se_non)))
theorem ok__law_caught (T : All C P K mg) : Cal C P w K mg base 2 "_law_caught" 2 F__law_caught := cal_mk T.t T.f__law_caught sc__law_caught bw__law_caught fin_ok rfl rfl (bd__law_caught T)
theorem sc_law : FnScope ["script", "state", "place", "names", "k", "many", "family", "at", "bad", "told", "signs", "odd", "table", "places", "arrows", "i", "value", "j"] ["script"] (defScope s_law) := ⟨rfl, rfl, rfl, by decide +kernel, rfl, by decide +kernel, by decide +kernel⟩
theorem bw_law : BindW "law" s_law ["script"] := fun _ _ _ _ _ _ us hl => match us, hl with | [_], _ => rfl
theorem bd_law (T : All C P K mg) (f : Addr) (cdv : Value) (A : Around) (outer : List PySem.Env) (s : Shared) (H : Hp) (E : XK) (hr : Room 32 (A.deeper (envOfC "law" (defScope s_law) s.heap.objs.size f cdv))) : SSs C (cxOf (L2.CX P w) P w K mg base ["script", "state", "place", "names", "k", "many", "family", "at", "bad", "told", "signs", "odd", "table", "places", "arrows", "i", "value", "j"] "law" (defScope s_law) f cdv A outer s H E) (fun cls d _ H => E cls d H) c_law (defBody s_law) :=
  (sss_cons (ss_set (i := 1) sc_law.nd rfl (by first | exact Or.inl rfl | exact Or.inr rfl) (se_cal (ok__law_start T) hr (sa_cons (se_var 0) sa_nil) takes1))
  (sss_cons (ss_set (i := 2) sc_law.nd rfl (by first | exact Or.inl rfl | exact Or.inr rfl) (se_ix (se_lst (sa_cons (se_cal (ok__law_pick T) hr (sa_cons (se_var 1) (sa_cons se_int sa_nil)) takes1) (sa_cons (se_tup (sa_cons se_int (sa_cons se_int sa_nil))) (sa_cons se_non (sa_cons se_str sa_nil))))) (se_cal (ok__law_pick T) hr (sa_cons (se_var 1) (sa_cons se_int sa_nil)) takes1)))
  (sss_cons (ss_set (i := 3) sc_law.nd rfl (by first | exact Or.inl rfl | exact Or.inr rfl) (se_lst (sa_cons se_str (sa_cons se_str (sa_cons se_str (sa_cons se_str (sa_cons se_str (sa_cons se_str (sa_cons se_str (sa_cons se_str sa_nil))))))))))
  (sss_cons (ss_for (vs := [4]) owns0 rfl (si_r1 (by rfl) T.b_range (sa_cons se_int sa_nil)) (pg_name (i := 4) sc_law.nd rfl (by first | exact Or.inl rfl | exact Or.inr rfl)) (bd_n (by decide)) (sss_cons (ss_if (st_w (sw_or (st_cmp (op_ne2 (u64 hr)) ser_ne (se_cal (ok__law_forwards T) hr (sa_cons (se_var 4) (sa_cons (se_var 2) sa_nil)) takes1) (se_ix (se_var 3) (se_var 4)) (nomark _)) (sw_or1 (st_cmp (op_ne2 (u64 hr)) ser_ne (se_cal (ok__law_backwards T) hr (sa_cons (se_var 4) (sa_cons (se_var 2) sa_nil)) takes1) (se_ix (se_var 3) (se_var 4)) (nomark _))))) (sss_one (ss_ret se_bl)) sss_nil)
  (sss_one (ss_if (st_not (st_tru (se_cal (ok__law_same T 30) hr (sa_cons (se_cal (ok__law_caught T) hr (sa_cons (se_var 4) (sa_cons (se_var 2) sa_nil)) takes1) (sa_cons (se_tup (sa_cons (se_var 2) (sa_cons (se_ix (se_var 3) (se_var 4)) sa_nil))) sa_nil)) takes1))) (sss_one (ss_ret se_bl)) sss_nil))))
  (sss_cons (ss_set (i := 5) sc_law.nd rfl (by first | exact Or.inl rfl | exact Or.inr rfl) (se_op op_addA ser_add se_int (se_cal (ok__law_pick T) hr (sa_cons (se_var 1) (sa_cons se_int sa_nil)) takes1)))
  (sss_cons (ss_set (i := 6) sc_law.nd rfl (by first | exact Or.inl rfl | exact Or.inr rfl) (se_sl (se_tup (sa_cons (se_tup (sa_cons se_int (sa_cons se_int sa_nil))) (sa_cons (se_tup (sa_cons (se_op op_sub ser_sub (se_var 5) se_int) sa_nil)) (sa_cons (se_tup (sa_cons se_int (sa_cons se_int sa_nil))) sa_nil)))) so_no (so_some (se_cal (ok__law_pick T) hr (sa_cons (se_var 1) (sa_cons se_int sa_nil)) takes1))))
  (sss_cons (ss_set (i := 7) sc_law.nd rfl (by first | exact Or.inl rfl | exact Or.inr rfl) (se_cal (ok__law_pick T) hr (sa_cons (se_var 1) (sa_cons (se_op op_addA ser_add (se_b call_len_seq ser_len (by rfl) T.b_len bt_len (sa_cons (se_var 6) sa_nil)) se_int) sa_nil)) takes1))
  (sss_cons (ss_set (i := 8) sc_law.nd rfl (by first | exact Or.inl rfl | exact Or.inr rfl) (se_ix (se_lst (sa_cons (se_tup sa_nil) (sa_cons (se_tup (sa_cons se_int (sa_cons (se_var 5) sa_nil))) (sa_cons (se_tup (sa_cons se_int (sa_cons se_int sa_nil))) (sa_cons (se_tup (sa_cons se_int (sa_cons se_int sa_nil))) (sa_cons (se_lst (sa_cons se_int (sa_cons se_int sa_nil))) (sa_cons se_non (sa_cons (se_tup (sa_cons se_bl sa_nil)) (sa_cons (se_tup (sa_cons (se_neg se_int) (sa_cons se_int sa_nil))) sa_nil))))))))) (se_cal (ok__law_pick T) hr (sa_cons (se_var 1) (sa_cons se_int sa_nil)) takes1)))
  (sss_cons (ss_if (st_w (sw_or (st_cmp op_isnot2 ser_isnot (se_cal (ok__law_call T) hr (sa_cons se_str (sa_cons (se_var 5) (sa_cons (se_var 6) sa_nil))) takes1) se_non (nomark _)) (sw_or1 (st_not (st_tru (se_cal (ok__law_same T 30) hr (sa_cons (se_cal (ok__law_call T) hr (sa_cons se_str (sa_cons (se_var 5) (sa_cons (se_op op_addA ser_add (se_op op_addA ser_add (se_sl (se_var 6) so_no (so_some (se_var 7))) (se_tup (sa_cons (se_var 8) sa_nil))) (se_sl (se_var 6) (so_some (se_var 7)) so_no)) sa_nil))) takes1) (sa_cons (se_tup (sa_cons se_str (sa_cons (se_var 7) sa_nil))) sa_nil)) takes1)))))) (sss_one (ss_ret se_bl)) sss_nil)
  (sss_cons (ss_set (i := 9) sc_law.nd rfl (by first | exact Or.inl rfl | exact Or.inr rfl) (se_lst (sa_cons (se_cal (ok__law_call T) hr (sa_cons se_str (sa_cons (se_neg se_int) (sa_cons (se_tup sa_nil) sa_nil))) takes1) (sa_cons (se_cal (ok__law_call T) hr (sa_cons se_str (sa_cons se_bl (sa_cons (se_tup sa_nil) sa_nil))) takes1) (sa_cons (se_cal (ok__law_call T) hr (sa_cons se_str (sa_cons (se_var 5) (sa_cons (se_ty call_list_of ser_lst (by rfl) T.b_list bt_list (sa_cons (se_var 6) sa_nil)) sa_nil))) takes1) (sa_cons (se_cal (ok__law_call T) hr (sa_cons se_str (sa_cons se_non (sa_cons (se_var 6) sa_nil))) takes1) sa_nil))))))
  (sss_cons (ss_if (st_not (st_tru (se_cal (ok__law_same T 30) hr (sa_cons (se_var 9) (sa_cons (se_op op_mulB ser_mulB (se_lst (sa_cons (se_tup (sa_cons se_str (sa_cons se_non sa_nil))) sa_nil)) se_int) sa_nil)) takes1))) (sss_one (ss_ret se_bl)) sss_nil)
  (sss_cons (ss_set (i := 10) sc_law.nd rfl (by first | exact Or.inl rfl | exact Or.inr rfl) (se_ty call_tuple_of ser_tup (by rfl) T.b_tuple bt_tuple (sa_cons (se_lc (own := [("k", 4)]) rfl sc_law.nd (si_r1 (by rfl) T.b_range (sa_cons (se_var 5) sa_nil)) (blk_of (by kernel_rfl)) (fun _ _ _ _ _ => (pg_name (i := 4) sc_law.nd rfl (by first | exact Or.inl rfl | exact Or.inr rfl))) (bd_n (by decide)) (fun _ _ _ _ _ => sts_nil) (fun _ _ _ _ _ => (se_op op_sub ser_sub se_int (se_op op_mulB ser_mulB se_int (se_cal (ok__law_pick T) hr (sa_cons (se_var 1) (sa_cons se_int sa_nil)) takesF))))) sa_nil)))
  (sss_cons (ss_set (i := 11) sc_law.nd rfl (by first | exact Or.inl rfl | exact Or.inr rfl) (se_ix (se_lst (sa_cons (se_op op_addA ser_add (se_var 10) (se_tup (sa_cons se_int sa_nil))) (sa_cons (se_sl (se_var 10) (so_some se_int) so_no) (sa_cons (se_ty call_list_of ser_lst (by rfl) T.b_list bt_list (sa_cons (se_var 10) sa_nil)) (sa_cons se_non (sa_cons (se_op op_addA ser_add (se_tup (sa_cons se_int sa_nil)) (se_sl (se_var 10) (so_some se_int) so_no)) (sa_cons (se_op op_addA ser_add (se_tup (sa_cons se_bl sa_nil)) (se_sl (se_var 10) (so_some se_int) so_no)) (sa_cons (se_op op_addA ser_add (se_tup (sa_cons se_int sa_nil)) (se_sl (se_var 10) (so_some se_int) so_no)) sa_nil)))))))) (se_cal (ok__law_pick T) hr (sa_cons (se_var 1) (sa_cons se_int sa_nil)) takes1)))
  (sss_cons (ss_if (st_w (sw_or (st_cmp op_isnot2 ser_isnot (se_cal (ok__law_call T) hr (sa_cons se_str (sa_cons (se_var 5) (sa_cons (se_var 10) sa_nil))) takes1) se_non (nomark _)) (sw_or1 (st_not (st_tru (se_cal (ok__law_same T 30) hr (sa_cons (se_cal (ok__law_call T) hr (sa_cons se_str (sa_cons (se_var 5) (sa_cons (se_var 11) sa_nil))) takes1) (sa_cons (se_tup (sa_cons se_str (sa_cons se_non sa_nil))) sa_nil)) takes1)))))) (sss_one (ss_ret se_bl)) sss_nil)
  (sss_cons (ss_set (i := 12) sc_law.nd rfl (by first | exact Or.inl rfl | exact Or.inr rfl) (se_ty call_tuple_of ser_tup (by rfl) T.b_tuple bt_tuple (sa_cons (se_lc (own := [("i", 15)]) rfl sc_law.nd (si_r1 (by rfl) T.b_range (sa_cons (se_cal (ok__law_pick T) hr (sa_cons (se_var 1) (sa_cons se_int sa_nil)) takes1) sa_nil)) (blk_of (by kernel_rfl)) (fun _ _ _ _ _ => (pg_name (i := 15) sc_law.nd rfl (by first | exact Or.inl rfl | exact Or.inr rfl))) (bd_n (by decide)) (fun _ _ _ _ _ => sts_nil) (fun _ _ _ _ _ => (se_ty call_tuple_of ser_tup (by rfl) T.b_tuple bt_tuple (sa_cons (se_lc (own := [("j", 17)]) rfl sc_law.nd (si_r1 (by rfl) T.b_range (sa_cons (se_var 5) sa_nil)) (blk_of (by kernel_rfl)) (fun _ _ _ _ _ => (pg_name (i := 17) sc_law.nd rfl (by first | exact Or.inl rfl | exact Or.inr rfl))) (bd_n (by decide)) (fun _ _ _ _ _ => sts_nil) (fun _ _ _ _ _ => (se_op op_sub ser_sub (se_cal (ok__law_pick T) hr (sa_cons (se_var 1) (sa_cons se_int sa_nil)) takesF) se_int))) sa_nil)))) sa_nil)))
  (sss_cons (ss_set (i := 11) sc_law.nd rfl (by first | exact Or.inl rfl | exact Or.inr rfl) (se_ix (se_lst (sa_cons (se_op op_addA ser_add (se_var 12) (se_tup (sa_cons (se_op op_mulB ser_mulB (se_tup (sa_cons se_int sa_nil)) (se_op op_addA ser_add (se_var 5) se_int)) (sa_cons (se_op op_mulB ser_mulB (se_tup (sa_cons se_int sa_nil)) (se_var 5)) sa_nil)))) (sa_cons (se_ty call_list_of ser_lst (by rfl) T.b_list bt_list (sa_cons (se_var 12) sa_nil)) (sa_cons se_non (sa_cons (se_op op_addA ser_add (se_var 12) (se_tup (sa_cons (se_op op_mulB ser_mulB (se_lst (sa_cons se_int sa_nil)) (se_var 5)) sa_nil))) (sa_cons (se_op op_addA ser_add (se_var 12) (se_tup (sa_cons (se_op op_mulB ser_mulB (se_tup (sa_cons se_bl sa_nil)) (se_var 5)) sa_nil))) (sa_cons (se_op op_addA ser_add (se_var 12) (se_tup (sa_cons se_non sa_nil))) sa_nil))))))) (se_cal (ok__law_pick T) hr (sa_cons (se_var 1) (sa_cons se_int sa_nil)) takes1)))
  (sss_cons (ss_if (st_w (sw_or (st_cmp op_isnot2 ser_isnot (se_cal (ok__law_call T) hr (sa_cons se_str (sa_cons (se_var 12) (sa_cons se_non sa_nil))) takes1) se_non (nomark _)) (sw_or1 (st_not (st_tru (se_cal (ok__law_same T 30) hr (sa_cons (se_cal (ok__law_call T) hr (sa_cons se_str (sa_cons (se_var 11) (sa_cons se_non sa_nil))) takes1) (sa_cons (se_tup (sa_cons se_str (sa_cons se_non sa_nil))) sa_nil)) takes1)))))) (sss_one (ss_ret se_bl)) sss_nil)
  (sss_cons (ss_set (i := 13) sc_law.nd rfl (by first | exact Or.inl rfl | exact Or.inr rfl) (se_sl (se_tup (sa_cons (se_tup (sa_cons se_int (sa_cons se_int sa_nil))) (sa_cons (se_tup (sa_cons se_int (sa_cons se_int sa_nil))) (sa_cons (se_tup (sa_cons se_int (sa_cons se_int sa_nil))) sa_nil)))) so_no (so_some (se_cal (ok__law_pick T) hr (sa_cons (se_var 1) (sa_cons se_int sa_nil)) takes1))))
  (sss_cons (ss_set (i := 8) sc_law.nd rfl (by first | exact Or.inl rfl | exact Or.inr rfl) (se_ix (se_lst (sa_cons (se_tup (sa_cons se_int sa_nil)) (sa_cons (se_tup (sa_cons se_int (sa_cons (se_neg se_int) sa_nil))) (sa_cons (se_lst (sa_cons se_int (sa_cons se_int sa_nil))) (sa_cons se_non (sa_cons (se_tup (sa_cons se_bl (sa_cons se_int sa_nil))) (sa_cons (se_tup (sa_cons se_int (sa_cons se_int (sa_cons se_int sa_nil)))) (sa_cons (se_tup (sa_cons (se_neg se_int) (sa_cons se_int sa_nil))) sa_nil)))))))) (se_cal (ok__law_pick T) hr (sa_cons (se_var 1) (sa_cons se_int sa_nil)) takes1)))
  (sss_cons (ss_if (st_w (sw_or (st_cmp op_isnot2 ser_isnot (se_cal (ok__law_call T) hr (sa_cons se_str (sa_cons (se_var 13) (sa_cons se_non sa_nil))) takes1) se_non (nomark _)) (sw_or1 (st_not (st_tru (se_cal (ok__law_same T 30) hr (sa_cons (se_cal (ok__law_call T) hr (sa_cons se_str (sa_cons (se_op op_addA ser_add (se_var 13) (se_tup (sa_cons (se_var 8) sa_nil))) (sa_cons se_non sa_nil))) takes1) (sa_cons (se_tup (sa_cons se_str (sa_cons (se_b call_len_seq ser_len (by rfl) T.b_len bt_len (sa_cons (se_var 13) sa_nil)) sa_nil))) sa_nil)) takes1)))))) (sss_one (ss_ret se_bl)) sss_nil)
  (sss_cons (ss_if (st_w (sw_and (st_cmp (op_ne2 (u64 hr)) ser_ne (se_var 13) (se_tup sa_nil) (nomark _)) (sw_and1 (st_not (st_tru (se_cal (ok__law_same T 30) hr (sa_cons (se_cal (ok__law_call T) hr (sa_cons se_str (sa_cons (se_op op_addA ser_add (se_var 13) (se_sl (se_var 13) (so_some (se_neg se_int)) so_no)) (sa_cons se_non sa_nil))) takes1) (sa_cons (se_tup (sa_cons se_str (sa_cons (se_b call_len_seq ser_len (by rfl) T.b_len bt_len (sa_cons (se_var 13) sa_nil)) sa_nil))) sa_nil)) takes1)))))) (sss_one (ss_ret se_bl)) sss_nil)
  (sss_cons (ss_set (i := 14) sc_law.nd rfl (by first | exact Or.inl rfl | exact Or.inr rfl) (se_sl (se_tup (sa_cons (se_tup (sa_cons se_int (sa_cons se_int sa_nil))) (sa_cons (se_tup (sa_cons se_int (sa_cons se_int sa_nil))) (sa_cons (se_tup (sa_cons (se_op op_sub ser_sub (se_var 5) se_int) (sa_cons se_int sa_nil))) sa_nil)))) so_no (so_some (se_cal (ok__law_pick T) hr (sa_cons (se_var 1) (sa_cons se_int sa_nil)) takes1))))
  (sss_cons (ss_set (i := 8) sc_law.nd rfl (by first | exact Or.inl rfl | exact Or.inr rfl) (se_ix (se_lst (sa_cons (se_tup (sa_cons se_int (sa_cons se_int sa_nil))) (sa_cons (se_tup (sa_cons se_int (sa_cons (se_var 5) sa_nil))) (sa_cons (se_tup (sa_cons se_int sa_nil)) (sa_cons (se_lst (sa_cons se_int (sa_cons se_int sa_nil))) (sa_cons se_non (sa_cons (se_tup (sa_cons se_bl (sa_cons se_int sa_nil))) (sa_cons (se_tup (sa_cons se_int (sa_cons (se_neg se_int) sa_nil))) sa_nil)))))))) (se_cal (ok__law_pick T) hr (sa_cons (se_var 1) (sa_cons se_int sa_nil)) takes1)))
  (sss_cons (ss_if (st_w (sw_or (st_cmp op_isnot2 ser_isnot (se_cal (ok__law_call T) hr (sa_cons se_str (sa_cons (se_var 5) (sa_cons (se_var 14) sa_nil))) takes1) se_non (nomark _)) (sw_or1 (st_not (st_tru (se_cal (ok__law_same T 30) hr (sa_cons (se_cal (ok__law_call T) hr (sa_cons se_str (sa_cons (se_var 5) (sa_cons (se_op op_addA ser_add (se_var 14) (se_tup (sa_cons (se_var 8) sa_nil))) sa_nil))) takes1) (sa_cons (se_tup (sa_cons se_str (sa_cons (se_b call_len_seq ser_len (by rfl) T.b_len bt_len (sa_cons (se_var 14) sa_nil)) sa_nil))) sa_nil)) takes1)))))) (sss_one (ss_ret se_bl)) sss_nil)
  (sss_one (ss_ret (se_and (se_cmp (op_eq2 (u64 hr)) ser_eq (se_lc (own := [("value", 16)]) rfl sc_law.nd (si_v (se_lst (sa_cons se_int (sa_cons se_int (sa_cons (se_neg se_int) (sa_cons se_bl (sa_cons se_non (sa_cons se_str sa_nil)))))))) (blk_of (by kernel_rfl)) (fun _ _ _ _ _ => (pg_name (i := 16) sc_law.nd rfl (by first | exact Or.inl rfl | exact Or.inr rfl))) (bd_n (by decide)) (fun _ _ _ _ _ => sts_nil) (fun _ _ _ _ _ => (se_cal (ok_is_count T) hr (sa_cons (se_var 16) sa_nil) takesF))) (se_lst (sa_cons se_bl (sa_cons se_bl (sa_cons se_bl (sa_cons se_bl (sa_cons se_bl (sa_cons se_bl sa_nil))))))) (nomark _)) (se_one (se_cal (ok__law_fractions T) hr (sa_cons (se_var 1) sa_nil) takes1)))))))))))))))))))))))))))))
end K00


set_option Elab.async false
set_option linter.all false
set_option maxRecDepth 100000
set_option maxHeartbeats 8000000

namespace K00
open PySem PySem.Spec PyProof.Rows L2 FW PySem.FX
def errs : List Str := ["EvensplitsError", "InvalidFamily", "InvalidPaper", "InvalidRow", "InvalidTable", "InvalidText", "InvalidWeb", "TooLarge"]
theorem all_mk {K : PySem.W.Frag} {mg : Str → Option Value} (wd : Wd PySem.Challenge.pw_evensplits_k00_errors K mg)
    (w_EvensplitsError : RootW PySem.Challenge.pw_evensplits_k00_errors K mg "EvensplitsError")
    (w_InvalidFamily : HeirW PySem.Challenge.pw_evensplits_k00_errors K mg "InvalidFamily" "EvensplitsError")
    (w_InvalidPaper : HeirW PySem.Challenge.pw_evensplits_k00_errors K mg "InvalidPaper" "EvensplitsError")
    (w_InvalidRow : HeirW PySem.Challenge.pw_evensplits_k00_errors K mg "InvalidRow" "EvensplitsError")
    (w_InvalidTable : HeirW PySem.Challenge.pw_evensplits_k00_errors K mg "InvalidTable" "EvensplitsError")
    (w_InvalidText : HeirW PySem.Challenge.pw_evensplits_k00_errors K mg "InvalidText" "EvensplitsError")
    (w_InvalidWeb : HeirW PySem.Challenge.pw_evensplits_k00_errors K mg "InvalidWeb" "EvensplitsError")
    (w_TooLarge : HeirW PySem.Challenge.pw_evensplits_k00_errors K mg "TooLarge" "EvensplitsError")
    (p_EvensplitsError_EvensplitsError : PairW K mg "EvensplitsError" "EvensplitsError" true)
    (p_InvalidFamily_EvensplitsError : PairW K mg "InvalidFamily" "EvensplitsError" true)
    (p_InvalidPaper_EvensplitsError : PairW K mg "InvalidPaper" "EvensplitsError" true)
    (p_InvalidRow_EvensplitsError : PairW K mg "InvalidRow" "EvensplitsError" true)
    (p_InvalidTable_EvensplitsError : PairW K mg "InvalidTable" "EvensplitsError" true)
    (p_InvalidText_EvensplitsError : PairW K mg "InvalidText" "EvensplitsError" true)
    (p_InvalidWeb_EvensplitsError : PairW K mg "InvalidWeb" "EvensplitsError" true)
    (p_TooLarge_EvensplitsError : PairW K mg "TooLarge" "EvensplitsError" true)
    (p_EvensplitsError_InvalidFamily : PairW K mg "EvensplitsError" "InvalidFamily" false)
    (p_InvalidFamily_InvalidFamily : PairW K mg "InvalidFamily" "InvalidFamily" true)
    (p_InvalidPaper_InvalidFamily : PairW K mg "InvalidPaper" "InvalidFamily" false)
    (p_InvalidRow_InvalidFamily : PairW K mg "InvalidRow" "InvalidFamily" false)
    (p_InvalidTable_InvalidFamily : PairW K mg "InvalidTable" "InvalidFamily" false)
    (p_InvalidText_InvalidFamily : PairW K mg "InvalidText" "InvalidFamily" false)
    (p_InvalidWeb_InvalidFamily : PairW K mg "InvalidWeb" "InvalidFamily" false)
    (p_TooLarge_InvalidFamily : PairW K mg "TooLarge" "InvalidFamily" false)
    (p_EvensplitsError_InvalidPaper : PairW K mg "EvensplitsError" "InvalidPaper" false)
    (p_InvalidFamily_InvalidPaper : PairW K mg "InvalidFamily" "InvalidPaper" false)
    (p_InvalidPaper_InvalidPaper : PairW K mg "InvalidPaper" "InvalidPaper" true)
    (p_InvalidRow_InvalidPaper : PairW K mg "InvalidRow" "InvalidPaper" false)
    (p_InvalidTable_InvalidPaper : PairW K mg "InvalidTable" "InvalidPaper" false)
    (p_InvalidText_InvalidPaper : PairW K mg "InvalidText" "InvalidPaper" false)
    (p_InvalidWeb_InvalidPaper : PairW K mg "InvalidWeb" "InvalidPaper" false)
    (p_TooLarge_InvalidPaper : PairW K mg "TooLarge" "InvalidPaper" false)
    (p_EvensplitsError_InvalidRow : PairW K mg "EvensplitsError" "InvalidRow" false)
    (p_InvalidFamily_InvalidRow : PairW K mg "InvalidFamily" "InvalidRow" false)
    (p_InvalidPaper_InvalidRow : PairW K mg "InvalidPaper" "InvalidRow" false)
    (p_InvalidRow_InvalidRow : PairW K mg "InvalidRow" "InvalidRow" true)
    (p_InvalidTable_InvalidRow : PairW K mg "InvalidTable" "InvalidRow" false)
    (p_InvalidText_InvalidRow : PairW K mg "InvalidText" "InvalidRow" false)
    (p_InvalidWeb_InvalidRow : PairW K mg "InvalidWeb" "InvalidRow" false)
    (p_TooLarge_InvalidRow : PairW K mg "TooLarge" "InvalidRow" false)
    (p_EvensplitsError_InvalidTable : PairW K mg "EvensplitsError" "InvalidTable" false)
    (p_InvalidFamily_InvalidTable : PairW K mg "InvalidFamily" "InvalidTable" false)
    (p_InvalidPaper_InvalidTable : PairW K mg "InvalidPaper" "InvalidTable" false)
    (p_InvalidRow_InvalidTable : PairW K mg "InvalidRow" "InvalidTable" false)
    (p_InvalidTable_InvalidTable : PairW K mg "InvalidTable" "InvalidTable" true)
    (p_InvalidText_InvalidTable : PairW K mg "InvalidText" "InvalidTable" false)
    (p_InvalidWeb_InvalidTable : PairW K mg "InvalidWeb" "InvalidTable" false)
    (p_TooLarge_InvalidTable : PairW K mg "TooLarge" "InvalidTable" false)
    (p_EvensplitsError_InvalidText : PairW K mg "EvensplitsError" "InvalidText" false)
    (p_InvalidFamily_InvalidText : PairW K mg "InvalidFamily" "InvalidText" false)
    (p_InvalidPaper_InvalidText : PairW K mg "InvalidPaper" "InvalidText" false)
    (p_InvalidRow_InvalidText : PairW K mg "InvalidRow" "InvalidText" false)
    (p_InvalidTable_InvalidText : PairW K mg "InvalidTable" "InvalidText" false)
    (p_InvalidText_InvalidText : PairW K mg "InvalidText" "InvalidText" true)
    (p_InvalidWeb_InvalidText : PairW K mg "InvalidWeb" "InvalidText" false)
    (p_TooLarge_InvalidText : PairW K mg "TooLarge" "InvalidText" false)
    (p_EvensplitsError_InvalidWeb : PairW K mg "EvensplitsError" "InvalidWeb" false)
    (p_InvalidFamily_InvalidWeb : PairW K mg "InvalidFamily" "InvalidWeb" false)
    (p_InvalidPaper_InvalidWeb : PairW K mg "InvalidPaper" "InvalidWeb" false)
    (p_InvalidRow_InvalidWeb : PairW K mg "InvalidRow" "InvalidWeb" false)
    (p_InvalidTable_InvalidWeb : PairW K mg "InvalidTable" "InvalidWeb" false)
    (p_InvalidText_InvalidWeb : PairW K mg "InvalidText" "InvalidWeb" false)
    (p_InvalidWeb_InvalidWeb : PairW K mg "InvalidWeb" "InvalidWeb" true)
    (p_TooLarge_InvalidWeb : PairW K mg "TooLarge" "InvalidWeb" false)
    (p_EvensplitsError_TooLarge : PairW K mg "EvensplitsError" "TooLarge" false)
    (p_InvalidFamily_TooLarge : PairW K mg "InvalidFamily" "TooLarge" false)
    (p_InvalidPaper_TooLarge : PairW K mg "InvalidPaper" "TooLarge" false)
    (p_InvalidRow_TooLarge : PairW K mg "InvalidRow" "TooLarge" false)
    (p_InvalidTable_TooLarge : PairW K mg "InvalidTable" "TooLarge" false)
    (p_InvalidText_TooLarge : PairW K mg "InvalidText" "TooLarge" false)
    (p_InvalidWeb_TooLarge : PairW K mg "InvalidWeb" "TooLarge" false)
    (p_TooLarge_TooLarge : PairW K mg "TooLarge" "TooLarge" true)
    (i_EvensplitsError : IsEW K mg "EvensplitsError")
    (i_InvalidFamily : IsEW K mg "InvalidFamily")
    (i_InvalidPaper : IsEW K mg "InvalidPaper")
    (i_InvalidRow : IsEW K mg "InvalidRow")
    (i_InvalidTable : IsEW K mg "InvalidTable")
    (i_InvalidText : IsEW K mg "InvalidText")
    (i_InvalidWeb : IsEW K mg "InvalidWeb")
    (i_TooLarge : IsEW K mg "TooLarge")
    (b_ValueError : mg "ValueError" = none)
    (b_abs : mg "abs" = none)
    (b_all : mg "all" = none)
    (b_bool : mg "bool" = none)
    (b_int : mg "int" = none)
    (b_isinstance : mg "isinstance" = none)
    (b_len : mg "len" = none)
    (b_list : mg "list" = none)
    (b_range : mg "range" = none)
    (b_str : mg "str" = none)
    (b_tuple : mg "tuple" = none)
    (f__law_start : FnW K mg "_law_start" s__law_start)
    (f__law_pick : FnW K mg "_law_pick" s__law_pick)
    (f_is_count : FnW K mg "is_count" s_is_count)
    (f_is_part : FnW K mg "is_part" s_is_part)
    (f_check_family : FnW K mg "check_family" s_check_family)
    (f_is_whole : FnW K mg "is_whole" s_is_whole)
    (f_is_signs : FnW K mg "is_signs" s_is_signs)
    (f_check_signs : FnW K mg "check_signs" s_check_signs)
    (f_is_whole_table : FnW K mg "is_whole_table" s_is_whole_table)
    (f_check_whole_table : FnW K mg "check_whole_table" s_check_whole_table)
    (f_check_places : FnW K mg "check_places" s_check_places)
    (f_arrow_table : FnW K mg "arrow_table" s_arrow_table)
    (f__law_call : FnW K mg "_law_call" s__law_call)
    (f__law_same : FnW K mg "_law_same" s__law_same)
    (f__law_least : FnW K mg "_law_least" s__law_least)
    (f_made : FnW K mg "made" s_made)
    (f_plus_f : FnW K mg "plus_f" s_plus_f)
    (f_sum_f : FnW K mg "sum_f" s_sum_f)
    (f_is_fraction : FnW K mg "is_fraction" s_is_fraction)
    (f_minus_f : FnW K mg "minus_f" s_minus_f)
    (f_times_f : FnW K mg "times_f" s_times_f)
    (f_below_f : FnW K mg "below_f" s_below_f)
    (f_size_f : FnW K mg "size_f" s_size_f)
    (f_over_f : FnW K mg "over_f" s_over_f)
    (f__law_fractions : FnW K mg "_law_fractions" s__law_fractions)
    (f__law_raise : FnW K mg "_law_raise" s__law_raise)
    (f__law_forwards : FnW K mg "_law_forwards" s__law_forwards)
    (f__law_backwards : FnW K mg "_law_backwards" s__law_backwards)
    (f__law_caught : FnW K mg "_law_caught" s__law_caught)
    (f_law : FnW K mg "law" s_law) :
    All (ctxOf mg errs) PySem.Challenge.pw_evensplits_k00_errors K mg := by
  have m_EvensplitsError : FW.ClsW PySem.Challenge.pw_evensplits_k00_errors K mg "EvensplitsError" := RootW.made wd w_EvensplitsError
  have m_InvalidFamily : FW.ClsW PySem.Challenge.pw_evensplits_k00_errors K mg "InvalidFamily" := HeirW.made wd w_EvensplitsError w_InvalidFamily
  have m_InvalidPaper : FW.ClsW PySem.Challenge.pw_evensplits_k00_errors K mg "InvalidPaper" := HeirW.made wd w_EvensplitsError w_InvalidPaper
  have m_InvalidRow : FW.ClsW PySem.Challenge.pw_evensplits_k00_errors K mg "InvalidRow" := HeirW.made wd w_EvensplitsError w_InvalidRow
  have m_InvalidTable : FW.ClsW PySem.Challenge.pw_evensplits_k00_errors K mg "InvalidTable" := HeirW.made wd w_EvensplitsError w_InvalidTable
  have m_InvalidText : FW.ClsW PySem.Challenge.pw_evensplits_k00_errors K mg "InvalidText" := HeirW.made wd w_EvensplitsError w_InvalidText
  have m_InvalidWeb : FW.ClsW PySem.Challenge.pw_evensplits_k00_errors K mg "InvalidWeb" := HeirW.made wd w_EvensplitsError w_InvalidWeb
  have m_TooLarge : FW.ClsW PySem.Challenge.pw_evensplits_k00_errors K mg "TooLarge" := HeirW.made wd w_EvensplitsError w_TooLarge
  exact ⟨txt_mk (List.forall_mem_cons.mpr ⟨m_EvensplitsError, List.forall_mem_cons.mpr ⟨m_InvalidFamily, List.forall_mem_cons.mpr ⟨m_InvalidPaper, List.forall_mem_cons.mpr ⟨m_InvalidRow, List.forall_mem_cons.mpr ⟨m_InvalidTable, List.forall_mem_cons.mpr ⟨m_InvalidText, List.forall_mem_cons.mpr ⟨m_InvalidWeb, List.forall_mem_cons.mpr ⟨m_TooLarge, List.forall_mem_nil _⟩⟩⟩⟩⟩⟩⟩⟩) (by decide +kernel),
    b_ValueError,
    b_abs,
    b_all,
    b_bool,
    b_int,
    b_isinstance,
    b_len,
    b_list,
    b_range,
    b_str,
    b_tuple,
    err_mk m_EvensplitsError (by simp [errs]),
    err_mk m_InvalidFamily (by simp [errs]),
    err_mk m_InvalidPaper (by simp [errs]),
    err_mk m_InvalidRow (by simp [errs]),
    err_mk m_InvalidTable (by simp [errs]),
    err_mk m_InvalidText (by simp [errs]),
    err_mk m_InvalidWeb (by simp [errs]),
    err_mk m_TooLarge (by simp [errs]),
    cat_mk m_EvensplitsError (List.forall_mem_cons.mpr ⟨pair_is p_EvensplitsError_EvensplitsError (by decide), List.forall_mem_cons.mpr ⟨pair_is p_InvalidFamily_EvensplitsError (by decide), List.forall_mem_cons.mpr ⟨pair_is p_InvalidPaper_EvensplitsError (by decide), List.forall_mem_cons.mpr ⟨pair_is p_InvalidRow_EvensplitsError (by decide), List.forall_mem_cons.mpr ⟨pair_is p_InvalidTable_EvensplitsError (by decide), List.forall_mem_cons.mpr ⟨pair_is p_InvalidText_EvensplitsError (by decide), List.forall_mem_cons.mpr ⟨pair_is p_InvalidWeb_EvensplitsError (by decide), List.forall_mem_cons.mpr ⟨pair_is p_TooLarge_EvensplitsError (by decide), List.forall_mem_nil _⟩⟩⟩⟩⟩⟩⟩⟩),
    cat_mk m_InvalidFamily (List.forall_mem_cons.mpr ⟨pair_is p_EvensplitsError_InvalidFamily (by decide), List.forall_mem_cons.mpr ⟨pair_is p_InvalidFamily_InvalidFamily (by decide), List.forall_mem_cons.mpr ⟨pair_is p_InvalidPaper_InvalidFamily (by decide), List.forall_mem_cons.mpr ⟨pair_is p_InvalidRow_InvalidFamily (by decide), List.forall_mem_cons.mpr ⟨pair_is p_InvalidTable_InvalidFamily (by decide), List.forall_mem_cons.mpr ⟨pair_is p_InvalidText_InvalidFamily (by decide), List.forall_mem_cons.mpr ⟨pair_is p_InvalidWeb_InvalidFamily (by decide), List.forall_mem_cons.mpr ⟨pair_is p_TooLarge_InvalidFamily (by decide), List.forall_mem_nil _⟩⟩⟩⟩⟩⟩⟩⟩),
    cat_mk m_InvalidPaper (List.forall_mem_cons.mpr ⟨pair_is p_EvensplitsError_InvalidPaper (by decide), List.forall_mem_cons.mpr ⟨pair_is p_InvalidFamily_InvalidPaper (by decide), List.forall_mem_cons.mpr ⟨pair_is p_InvalidPaper_InvalidPaper (by decide), List.forall_mem_cons.mpr ⟨pair_is p_InvalidRow_InvalidPaper (by decide), List.forall_mem_cons.mpr ⟨pair_is p_InvalidTable_InvalidPaper (by decide), List.forall_mem_cons.mpr ⟨pair_is p_InvalidText_InvalidPaper (by decide), List.forall_mem_cons.mpr ⟨pair_is p_InvalidWeb_InvalidPaper (by decide), List.forall_mem_cons.mpr ⟨pair_is p_TooLarge_InvalidPaper (by decide), List.forall_mem_nil _⟩⟩⟩⟩⟩⟩⟩⟩),
    cat_mk m_InvalidRow (List.forall_mem_cons.mpr ⟨pair_is p_EvensplitsError_InvalidRow (by decide), List.forall_mem_cons.mpr ⟨pair_is p_InvalidFamily_InvalidRow (by decide), List.forall_mem_cons.mpr ⟨pair_is p_InvalidPaper_InvalidRow (by decide), List.forall_mem_cons.mpr ⟨pair_is p_InvalidRow_InvalidRow (by decide), List.forall_mem_cons.mpr ⟨pair_is p_InvalidTable_InvalidRow (by decide), List.forall_mem_cons.mpr ⟨pair_is p_InvalidText_InvalidRow (by decide), List.forall_mem_cons.mpr ⟨pair_is p_InvalidWeb_InvalidRow (by decide), List.forall_mem_cons.mpr ⟨pair_is p_TooLarge_InvalidRow (by decide), List.forall_mem_nil _⟩⟩⟩⟩⟩⟩⟩⟩),
    cat_mk m_InvalidTable (List.forall_mem_cons.mpr ⟨pair_is p_EvensplitsError_InvalidTable (by decide), List.forall_mem_cons.mpr ⟨pair_is p_InvalidFamily_InvalidTable (by decide), List.forall_mem_cons.mpr ⟨pair_is p_InvalidPaper_InvalidTable (by decide), List.forall_mem_cons.mpr ⟨pair_is p_InvalidRow_InvalidTable (by decide), List.forall_mem_cons.mpr ⟨pair_is p_InvalidTable_InvalidTable (by decide), List.forall_mem_cons.mpr ⟨pair_is p_InvalidText_InvalidTable (by decide), List.forall_mem_cons.mpr ⟨pair_is p_InvalidWeb_InvalidTable (by decide), List.forall_mem_cons.mpr ⟨pair_is p_TooLarge_InvalidTable (by decide), List.forall_mem_nil _⟩⟩⟩⟩⟩⟩⟩⟩),
    cat_mk m_InvalidText (List.forall_mem_cons.mpr ⟨pair_is p_EvensplitsError_InvalidText (by decide), List.forall_mem_cons.mpr ⟨pair_is p_InvalidFamily_InvalidText (by decide), List.forall_mem_cons.mpr ⟨pair_is p_InvalidPaper_InvalidText (by decide), List.forall_mem_cons.mpr ⟨pair_is p_InvalidRow_InvalidText (by decide), List.forall_mem_cons.mpr ⟨pair_is p_InvalidTable_InvalidText (by decide), List.forall_mem_cons.mpr ⟨pair_is p_InvalidText_InvalidText (by decide), List.forall_mem_cons.mpr ⟨pair_is p_InvalidWeb_InvalidText (by decide), List.forall_mem_cons.mpr ⟨pair_is p_TooLarge_InvalidText (by decide), List.forall_mem_nil _⟩⟩⟩⟩⟩⟩⟩⟩),
    cat_mk m_InvalidWeb (List.forall_mem_cons.mpr ⟨pair_is p_EvensplitsError_InvalidWeb (by decide), List.forall_mem_cons.mpr ⟨pair_is p_InvalidFamily_InvalidWeb (by decide), List.forall_mem_cons.mpr ⟨pair_is p_InvalidPaper_InvalidWeb (by decide), List.forall_mem_cons.mpr ⟨pair_is p_InvalidRow_InvalidWeb (by decide), List.forall_mem_cons.mpr ⟨pair_is p_InvalidTable_InvalidWeb (by decide), List.forall_mem_cons.mpr ⟨pair_is p_InvalidText_InvalidWeb (by decide), List.forall_mem_cons.mpr ⟨pair_is p_InvalidWeb_InvalidWeb (by decide), List.forall_mem_cons.mpr ⟨pair_is p_TooLarge_InvalidWeb (by decide), List.forall_mem_nil _⟩⟩⟩⟩⟩⟩⟩⟩),
    cat_mk m_TooLarge (List.forall_mem_cons.mpr ⟨pair_is p_EvensplitsError_TooLarge (by decide), List.forall_mem_cons.mpr ⟨pair_is p_InvalidFamily_TooLarge (by decide), List.forall_mem_cons.mpr ⟨pair_is p_InvalidPaper_TooLarge (by decide), List.forall_mem_cons.mpr ⟨pair_is p_InvalidRow_TooLarge (by decide), List.forall_mem_cons.mpr ⟨pair_is p_InvalidTable_TooLarge (by decide), List.forall_mem_cons.mpr ⟨pair_is p_InvalidText_TooLarge (by decide), List.forall_mem_cons.mpr ⟨pair_is p_InvalidWeb_TooLarge (by decide), List.forall_mem_cons.mpr ⟨pair_is p_TooLarge_TooLarge (by decide), List.forall_mem_nil _⟩⟩⟩⟩⟩⟩⟩⟩),
    ise_mk (List.forall_mem_cons.mpr ⟨i_EvensplitsError, List.forall_mem_cons.mpr ⟨i_InvalidFamily, List.forall_mem_cons.mpr ⟨i_InvalidPaper, List.forall_mem_cons.mpr ⟨i_InvalidRow, List.forall_mem_cons.mpr ⟨i_InvalidTable, List.forall_mem_cons.mpr ⟨i_InvalidText, List.forall_mem_cons.mpr ⟨i_InvalidWeb, List.forall_mem_cons.mpr ⟨i_TooLarge, List.forall_mem_nil _⟩⟩⟩⟩⟩⟩⟩⟩),
    f__law_start,
    f__law_pick,
    f_is_count,
    f_is_part,
    f_check_family,
    f_is_whole,
    f_is_signs,
    f_check_signs,
    f_is_whole_table,
    f_check_whole_table,
    f_check_places,
    f_arrow_table,
    f__law_call,
    f__law_same,
    f__law_least,
    f_made,
    f_plus_f,
    f_sum_f,
    f_is_fraction,
    f_minus_f,
    f_times_f,
    f_below_f,
    f_size_f,
    f_over_f,
    f__law_fractions,
    f__law_raise,
    f__law_forwards,
    f__law_backwards,
    f__law_caught,
    f_law⟩
theorem fin_mk {w : World} {K : PySem.W.Frag} {h : Heap} {mg : Str → Option Value} {fa : Addr} (hlaw : ∀ ns : List Int, ns.length ≤ 63 → F_law [.d (.list (ns.map PyData.int))] [] = .ok (.d (.bool true)) []) (X : K.In h) (G : h.Ns mainGlobals mg) (hmg : mg "law" = some (.ref fa))
    (wd : Wd PySem.Challenge.pw_evensplits_k00_errors K mg)
    (w_EvensplitsError : RootW PySem.Challenge.pw_evensplits_k00_errors K mg "EvensplitsError")
    (w_InvalidFamily : HeirW PySem.Challenge.pw_evensplits_k00_errors K mg "InvalidFamily" "EvensplitsError")
    (w_InvalidPaper : HeirW PySem.Challenge.pw_evensplits_k00_errors K mg "InvalidPaper" "EvensplitsError")
    (w_InvalidRow : HeirW PySem.Challenge.pw_evensplits_k00_errors K mg "InvalidRow" "EvensplitsError")
    (w_InvalidTable : HeirW PySem.Challenge.pw_evensplits_k00_errors K mg "InvalidTable" "EvensplitsError")
    (w_InvalidText : HeirW PySem.Challenge.pw_evensplits_k00_errors K mg "InvalidText" "EvensplitsError")
    (w_InvalidWeb : HeirW PySem.Challenge.pw_evensplits_k00_errors K mg "InvalidWeb" "EvensplitsError")
    (w_TooLarge : HeirW PySem.Challenge.pw_evensplits_k00_errors K mg "TooLarge" "EvensplitsError")
    (p_EvensplitsError_EvensplitsError : PairW K mg "EvensplitsError" "EvensplitsError" true)
    (p_InvalidFamily_EvensplitsError : PairW K mg "InvalidFamily" "EvensplitsError" true)
    (p_InvalidPaper_EvensplitsError : PairW K mg "InvalidPaper" "EvensplitsError" true)
    (p_InvalidRow_EvensplitsError : PairW K mg "InvalidRow" "EvensplitsError" true)
    (p_InvalidTable_EvensplitsError : PairW K mg "InvalidTable" "EvensplitsError" true)
    (p_InvalidText_EvensplitsError : PairW K mg "InvalidText" "EvensplitsError" true)
    (p_InvalidWeb_EvensplitsError : PairW K mg "InvalidWeb" "EvensplitsError" true)
    (p_TooLarge_EvensplitsError : PairW K mg "TooLarge" "EvensplitsError" true)
    (p_EvensplitsError_InvalidFamily : PairW K mg "EvensplitsError" "InvalidFamily" false)
    (p_InvalidFamily_InvalidFamily : PairW K mg "InvalidFamily" "InvalidFamily" true)
    (p_InvalidPaper_InvalidFamily : PairW K mg "InvalidPaper" "InvalidFamily" false)
    (p_InvalidRow_InvalidFamily : PairW K mg "InvalidRow" "InvalidFamily" false)
    (p_InvalidTable_InvalidFamily : PairW K mg "InvalidTable" "InvalidFamily" false)
    (p_InvalidText_InvalidFamily : PairW K mg "InvalidText" "InvalidFamily" false)
    (p_InvalidWeb_InvalidFamily : PairW K mg "InvalidWeb" "InvalidFamily" false)
    (p_TooLarge_InvalidFamily : PairW K mg "TooLarge" "InvalidFamily" false)
    (p_EvensplitsError_InvalidPaper : PairW K mg "EvensplitsError" "InvalidPaper" false)
    (p_InvalidFamily_InvalidPaper : PairW K mg "InvalidFamily" "InvalidPaper" false)
    (p_InvalidPaper_InvalidPaper : PairW K mg "InvalidPaper" "InvalidPaper" true)
    (p_InvalidRow_InvalidPaper : PairW K mg "InvalidRow" "InvalidPaper" false)
    (p_InvalidTable_InvalidPaper : PairW K mg "InvalidTable" "InvalidPaper" false)
    (p_InvalidText_InvalidPaper : PairW K mg "InvalidText" "InvalidPaper" false)
    (p_InvalidWeb_InvalidPaper : PairW K mg "InvalidWeb" "InvalidPaper" false)
    (p_TooLarge_InvalidPaper : PairW K mg "TooLarge" "InvalidPaper" false)
    (p_EvensplitsError_InvalidRow : PairW K mg "EvensplitsError" "InvalidRow" false)
    (p_InvalidFamily_InvalidRow : PairW K mg "InvalidFamily" "InvalidRow" false)
    (p_InvalidPaper_InvalidRow : PairW K mg "InvalidPaper" "InvalidRow" false)
    (p_InvalidRow_InvalidRow : PairW K mg "InvalidRow" "InvalidRow" true)
    (p_InvalidTable_InvalidRow : PairW K mg "InvalidTable" "InvalidRow" false)
    (p_InvalidText_InvalidRow : PairW K mg "InvalidText" "InvalidRow" false)
    (p_InvalidWeb_InvalidRow : PairW K mg "InvalidWeb" "InvalidRow" false)
    (p_TooLarge_InvalidRow : PairW K mg "TooLarge" "InvalidRow" false)
    (p_EvensplitsError_InvalidTable : PairW K mg "EvensplitsError" "InvalidTable" false)
    (p_InvalidFamily_InvalidTable : PairW K mg "InvalidFamily" "InvalidTable" false)
    (p_InvalidPaper_InvalidTable : PairW K mg "InvalidPaper" "InvalidTable" false)
    (p_InvalidRow_InvalidTable : PairW K mg "InvalidRow" "InvalidTable" false)
    (p_InvalidTable_InvalidTable : PairW K mg "InvalidTable" "InvalidTable" true)
    (p_InvalidText_InvalidTable : PairW K mg "InvalidText" "InvalidTable" false)
    (p_InvalidWeb_InvalidTable : PairW K mg "InvalidWeb" "InvalidTable" false)
    (p_TooLarge_InvalidTable : PairW K mg "TooLarge" "InvalidTable" false)
    (p_EvensplitsError_InvalidText : PairW K mg "EvensplitsError" "InvalidText" false)
    (p_InvalidFamily_InvalidText : PairW K mg "InvalidFamily" "InvalidText" false)
    (p_InvalidPaper_InvalidText : PairW K mg "InvalidPaper" "InvalidText" false)
    (p_InvalidRow_InvalidText : PairW K mg "InvalidRow" "InvalidText" false)
    (p_InvalidTable_InvalidText : PairW K mg "InvalidTable" "InvalidText" false)
    (p_InvalidText_InvalidText : PairW K mg "InvalidText" "InvalidText" true)
    (p_InvalidWeb_InvalidText : PairW K mg "InvalidWeb" "InvalidText" false)
    (p_TooLarge_InvalidText : PairW K mg "TooLarge" "InvalidText" false)
    (p_EvensplitsError_InvalidWeb : PairW K mg "EvensplitsError" "InvalidWeb" false)
    (p_InvalidFamily_InvalidWeb : PairW K mg "InvalidFamily" "InvalidWeb" false)
    (p_InvalidPaper_InvalidWeb : PairW K mg "InvalidPaper" "InvalidWeb" false)
    (p_InvalidRow_InvalidWeb : PairW K mg "InvalidRow" "InvalidWeb" false)
    (p_InvalidTable_InvalidWeb : PairW K mg "InvalidTable" "InvalidWeb" false)
    (p_InvalidText_InvalidWeb : PairW K mg "InvalidText" "InvalidWeb" false)
    (p_InvalidWeb_InvalidWeb : PairW K mg "InvalidWeb" "InvalidWeb" true)
    (p_TooLarge_InvalidWeb : PairW K mg "TooLarge" "InvalidWeb" false)
    (p_EvensplitsError_TooLarge : PairW K mg "EvensplitsError" "TooLarge" false)
    (p_InvalidFamily_TooLarge : PairW K mg "InvalidFamily" "TooLarge" false)
    (p_InvalidPaper_TooLarge : PairW K mg "InvalidPaper" "TooLarge" false)
    (p_InvalidRow_TooLarge : PairW K mg "InvalidRow" "TooLarge" false)
    (p_InvalidTable_TooLarge : PairW K mg "InvalidTable" "TooLarge" false)
    (p_InvalidText_TooLarge : PairW K mg "InvalidText" "TooLarge" false)
    (p_InvalidWeb_TooLarge : PairW K mg "InvalidWeb" "TooLarge" false)
    (p_TooLarge_TooLarge : PairW K mg "TooLarge" "TooLarge" true)
    (i_EvensplitsError : IsEW K mg "EvensplitsError")
    (i_InvalidFamily : IsEW K mg "InvalidFamily")
    (i_InvalidPaper : IsEW K mg "InvalidPaper")
    (i_InvalidRow : IsEW K mg "InvalidRow")
    (i_InvalidTable : IsEW K mg "InvalidTable")
    (i_InvalidText : IsEW K mg "InvalidText")
    (i_InvalidWeb : IsEW K mg "InvalidWeb")
    (i_TooLarge : IsEW K mg "TooLarge")
    (b_ValueError : mg "ValueError" = none)
    (b_abs : mg "abs" = none)
    (b_all : mg "all" = none)
    (b_bool : mg "bool" = none)
    (b_int : mg "int" = none)
    (b_isinstance : mg "isinstance" = none)
    (b_len : mg "len" = none)
    (b_list : mg "list" = none)
    (b_range : mg "range" = none)
    (b_str : mg "str" = none)
    (b_tuple : mg "tuple" = none)
    (f__law_start : FnW K mg "_law_start" s__law_start)
    (f__law_pick : FnW K mg "_law_pick" s__law_pick)
    (f_is_count : FnW K mg "is_count" s_is_count)
    (f_is_part : FnW K mg "is_part" s_is_part)
    (f_check_family : FnW K mg "check_family" s_check_family)
    (f_is_whole : FnW K mg "is_whole" s_is_whole)
    (f_is_signs : FnW K mg "is_signs" s_is_signs)
    (f_check_signs : FnW K mg "check_signs" s_check_signs)
    (f_is_whole_table : FnW K mg "is_whole_table" s_is_whole_table)
    (f_check_whole_table : FnW K mg "check_whole_table" s_check_whole_table)
    (f_check_places : FnW K mg "check_places" s_check_places)
    (f_arrow_table : FnW K mg "arrow_table" s_arrow_table)
    (f__law_call : FnW K mg "_law_call" s__law_call)
    (f__law_same : FnW K mg "_law_same" s__law_same)
    (f__law_least : FnW K mg "_law_least" s__law_least)
    (f_made : FnW K mg "made" s_made)
    (f_plus_f : FnW K mg "plus_f" s_plus_f)
    (f_sum_f : FnW K mg "sum_f" s_sum_f)
    (f_is_fraction : FnW K mg "is_fraction" s_is_fraction)
    (f_minus_f : FnW K mg "minus_f" s_minus_f)
    (f_times_f : FnW K mg "times_f" s_times_f)
    (f_below_f : FnW K mg "below_f" s_below_f)
    (f_size_f : FnW K mg "size_f" s_size_f)
    (f_over_f : FnW K mg "over_f" s_over_f)
    (f__law_fractions : FnW K mg "_law_fractions" s__law_fractions)
    (f__law_raise : FnW K mg "_law_raise" s__law_raise)
    (f__law_forwards : FnW K mg "_law_forwards" s__law_forwards)
    (f__law_backwards : FnW K mg "_law_backwards" s__law_backwards)
    (f__law_caught : FnW K mg "_law_caught" s__law_caught)
    (f_law : FnW K mg "law" s_law) :
    ∃ fd : FuncData, (∀ (s : Shared) (u : Value), BindsTo s fd ⟨[u], []⟩ [("script", u)]) ∧ ∀ base : Heap, K.In base → base.Ns mainGlobals mg → FnOk PySem.Challenge.pw_evensplits_k00_errors w K mg base (L2.CX PySem.Challenge.pw_evensplits_k00_errors w) 33 fa fd ["script"] (spLaw 63 K) := by
  have T := all_mk wd w_EvensplitsError w_InvalidFamily w_InvalidPaper w_InvalidRow w_InvalidTable w_InvalidText w_InvalidWeb w_TooLarge p_EvensplitsError_EvensplitsError p_InvalidFamily_EvensplitsError p_InvalidPaper_EvensplitsError p_InvalidRow_EvensplitsError p_InvalidTable_EvensplitsError p_InvalidText_EvensplitsError p_InvalidWeb_EvensplitsError p_TooLarge_EvensplitsError p_EvensplitsError_InvalidFamily p_InvalidFamily_InvalidFamily p_InvalidPaper_InvalidFamily p_InvalidRow_InvalidFamily p_InvalidTable_InvalidFamily p_InvalidText_InvalidFamily p_InvalidWeb_InvalidFamily p_TooLarge_InvalidFamily p_EvensplitsError_InvalidPaper p_InvalidFamily_InvalidPaper p_InvalidPaper_InvalidPaper p_InvalidRow_InvalidPaper p_InvalidTable_InvalidPaper p_InvalidText_InvalidPaper p_InvalidWeb_InvalidPaper p_TooLarge_InvalidPaper p_EvensplitsError_InvalidRow p_InvalidFamily_InvalidRow p_InvalidPaper_InvalidRow p_InvalidRow_InvalidRow p_InvalidTable_InvalidRow p_InvalidText_InvalidRow p_InvalidWeb_InvalidRow p_TooLarge_InvalidRow p_EvensplitsError_InvalidTable p_InvalidFamily_InvalidTable p_InvalidPaper_InvalidTable p_InvalidRow_InvalidTable p_InvalidTable_InvalidTable p_InvalidText_InvalidTable p_InvalidWeb_InvalidTable p_TooLarge_InvalidTable p_EvensplitsError_InvalidText p_InvalidFamily_InvalidText p_InvalidPaper_InvalidText p_InvalidRow_InvalidText p_InvalidTable_InvalidText p_InvalidText_InvalidText p_InvalidWeb_InvalidText p_TooLarge_InvalidText p_EvensplitsError_InvalidWeb p_InvalidFamily_InvalidWeb p_InvalidPaper_InvalidWeb p_InvalidRow_InvalidWeb p_InvalidTable_InvalidWeb p_InvalidText_InvalidWeb p_InvalidWeb_InvalidWeb p_TooLarge_InvalidWeb p_EvensplitsError_TooLarge p_InvalidFamily_TooLarge p_InvalidPaper_TooLarge p_InvalidRow_TooLarge p_InvalidTable_TooLarge p_InvalidText_TooLarge p_InvalidWeb_TooLarge p_TooLarge_TooLarge i_EvensplitsError i_InvalidFamily i_InvalidPaper i_InvalidRow i_InvalidTable i_InvalidText i_InvalidWeb i_TooLarge b_ValueError b_abs b_all b_bool b_int b_isinstance b_len b_list b_range b_str b_tuple f__law_start f__law_pick f_is_count f_is_part f_check_family f_is_whole f_is_signs f_check_signs f_is_whole_table f_check_whole_table f_check_places f_arrow_table f__law_call f__law_same f__law_least f_made f_plus_f f_sum_f f_is_fraction f_minus_f f_times_f f_below_f f_size_f f_over_f f__law_fractions f__law_raise f__law_forwards f__law_backwards f__law_caught f_law
  exact law_fin T.t T.f_law hmg sc_law bw_law rfl (fun base => bd_law (base := base) T) hlaw
end K00
open PySem PySem.W PyProof.Rows
theorem PySem.Challenge.cw_evensplits_k00_errors_holds : PySem.Challenge.rw_evensplits_k00_errors.Holds := by
  w_on; o_law; k_head; (case hw => w_witness2)
  k_fill
  refine L2.walk_of (n := 63) (k := 33) (x := "script") (CX := fun w => L2.CX PySem.Challenge.pw_evensplits_k00_errors w) (sp := fun w => FW.spLaw 63 _) rfl (by decide) rfl ⟨rfl, by decide, by decide⟩ (fun w h Y => PySem.W.kIn_of Y) ?F (fun w H a ns hl _ hS => ⟨a, ns, rfl, hS, hl, fun _ => rfl⟩) (fun _ _ _ _ _ ⟨_, _, _, _, _, _, _, _, _, _, _, _, z⟩ => z)
  case F =>
    intro w mg fa h KX G hmg
    refine' K00.fin_mk K00.law_true KX G hmg ?wd ?w_EvensplitsError ?w_InvalidFamily ?w_InvalidPaper ?w_InvalidRow ?w_InvalidTable ?w_InvalidText ?w_InvalidWeb ?w_TooLarge ?p_EvensplitsError_EvensplitsError ?p_InvalidFamily_EvensplitsError ?p_InvalidPaper_EvensplitsError ?p_InvalidRow_EvensplitsError ?p_InvalidTable_EvensplitsError ?p_InvalidText_EvensplitsError ?p_InvalidWeb_EvensplitsError ?p_TooLarge_EvensplitsError ?p_EvensplitsError_InvalidFamily ?p_InvalidFamily_InvalidFamily ?p_InvalidPaper_InvalidFamily ?p_InvalidRow_InvalidFamily ?p_InvalidTable_InvalidFamily ?p_InvalidText_InvalidFamily ?p_InvalidWeb_InvalidFamily ?p_TooLarge_InvalidFamily ?p_EvensplitsError_InvalidPaper ?p_InvalidFamily_InvalidPaper ?p_InvalidPaper_InvalidPaper ?p_InvalidRow_InvalidPaper ?p_InvalidTable_InvalidPaper ?p_InvalidText_InvalidPaper ?p_InvalidWeb_InvalidPaper ?p_TooLarge_InvalidPaper ?p_EvensplitsError_InvalidRow ?p_InvalidFamily_InvalidRow ?p_InvalidPaper_InvalidRow ?p_InvalidRow_InvalidRow ?p_InvalidTable_InvalidRow ?p_InvalidText_InvalidRow ?p_InvalidWeb_InvalidRow ?p_TooLarge_InvalidRow ?p_EvensplitsError_InvalidTable ?p_InvalidFamily_InvalidTable ?p_InvalidPaper_InvalidTable ?p_InvalidRow_InvalidTable ?p_InvalidTable_InvalidTable ?p_InvalidText_InvalidTable ?p_InvalidWeb_InvalidTable ?p_TooLarge_InvalidTable ?p_EvensplitsError_InvalidText ?p_InvalidFamily_InvalidText ?p_InvalidPaper_InvalidText ?p_InvalidRow_InvalidText ?p_InvalidTable_InvalidText ?p_InvalidText_InvalidText ?p_InvalidWeb_InvalidText ?p_TooLarge_InvalidText ?p_EvensplitsError_InvalidWeb ?p_InvalidFamily_InvalidWeb ?p_InvalidPaper_InvalidWeb ?p_InvalidRow_InvalidWeb ?p_InvalidTable_InvalidWeb ?p_InvalidText_InvalidWeb ?p_InvalidWeb_InvalidWeb ?p_TooLarge_InvalidWeb ?p_EvensplitsError_TooLarge ?p_InvalidFamily_TooLarge ?p_InvalidPaper_TooLarge ?p_InvalidRow_TooLarge ?p_InvalidTable_TooLarge ?p_InvalidText_TooLarge ?p_InvalidWeb_TooLarge ?p_TooLarge_TooLarge ?i_EvensplitsError ?i_InvalidFamily ?i_InvalidPaper ?i_InvalidRow ?i_InvalidTable ?i_InvalidText ?i_InvalidWeb ?i_TooLarge ?b_ValueError ?b_abs ?b_all ?b_bool ?b_int ?b_isinstance ?b_len ?b_list ?b_range ?b_str ?b_tuple ?f__law_start ?f__law_pick ?f_is_count ?f_is_part ?f_check_family ?f_is_whole ?f_is_signs ?f_check_signs ?f_is_whole_table ?f_check_whole_table ?f_check_places ?f_arrow_table ?f__law_call ?f__law_same ?f__law_least ?f_made ?f_plus_f ?f_sum_f ?f_is_fraction ?f_minus_f ?f_times_f ?f_below_f ?f_size_f ?f_over_f ?f__law_fractions ?f__law_raise ?f__law_forwards ?f__law_backwards ?f__law_caught ?f_law
    (case wd => refine' PySem.FX.wd_mk KX G ?s ?t ?a; (case s => k_is); (case t => rfl); (case a => k_is))
    (case w_EvensplitsError => refine' PySem.FX.rootw_mk (p0 := ⟨5, 8, 5, 13⟩) (pp := ⟨5, 8, 5, 15⟩) (p3 := ⟨5, 8, 5, 24⟩) (p4 := ⟨5, 25, 5, 30⟩) (p5 := ⟨5, 8, 5, 31⟩) (p6 := ⟨5, 8, 5, 31⟩) (q1 := ⟨6, 8, 6, 12⟩) (q2 := ⟨6, 8, 6, 18⟩) (q3 := ⟨6, 21, 6, 26⟩) (q4 := ⟨6, 8, 6, 26⟩) (r1 := ⟨7, 8, 7, 12⟩) (r2 := ⟨7, 8, 7, 17⟩) (r3 := ⟨7, 20, 7, 37⟩) (r4 := ⟨7, 8, 7, 37⟩) (k := 0) ?c ?fn (fun env => ⟨_, rfl⟩) ?i; (case c => refine' PySem.FX.cls_mk KX G ?a ?x ?hm ?sa ?noP ?noN ?mB ?spB ?sVE ?ga ?gg ?exC ?hd ?iC ?tI ?kC ?tyC; (case a => k_is); (case x => k_is); (case hm => first | rfl | decide +kernel); (case sa => k_is); (case noP => k_is); (case noN => k_is); (case mB => k_is); (case spB => ks_is); (case sVE => k_is); (case ga => k_is); (case gg => k_is); (case exC => k_is); (case hd => k_is); (case iC => k_is); (case tI => k_is); (case kC => k_is); (case tyC => k_is)); (case fn => k_is); (case i => intro kk; refine' PySem.FX.init_mk ?l ?c ?lc ?v2 ?fl ?cl kk; (case l => k_is); (case c => k_is); (case lc => k_is); (case v2 => rfl); (case fl => first | rfl | decide +kernel | kernel_rfl); (case cl => k_is)))
    (case w_InvalidFamily => refine' PySem.FX.heirw_mk (p0 := ⟨16, 8, 16, 13⟩) (pp := ⟨16, 8, 16, 15⟩) (p3 := ⟨16, 8, 16, 24⟩) (p4 := ⟨16, 25, 16, 30⟩) (p5 := ⟨16, 8, 16, 31⟩) (p6 := ⟨16, 8, 16, 31⟩) (r1 := ⟨17, 8, 17, 12⟩) (r2 := ⟨17, 8, 17, 17⟩) (r3 := ⟨17, 20, 17, 35⟩) (r4 := ⟨17, 8, 17, 35⟩) (k := 0) KX G ?aB ?iB ?c ?mC ?sp (fun env => ⟨_, rfl⟩) ?i; (case aB => k_is); (case iB => k_is); (case c => refine' PySem.FX.cls_mk KX G ?a ?x ?hm ?sa ?noP ?noN ?mB ?spB ?sVE ?ga ?gg ?exC ?hd ?iC ?tI ?kC ?tyC; (case a => k_is); (case x => k_is); (case hm => first | rfl | decide +kernel); (case sa => k_is); (case noP => k_is); (case noN => k_is); (case mB => k_is); (case spB => ks_is); (case sVE => k_is); (case ga => k_is); (case gg => k_is); (case exC => k_is); (case hd => k_is); (case iC => k_is); (case tI => k_is); (case kC => k_is); (case tyC => k_is)); (case mC => k_is); (case sp => ks_is); (case i => intro kk; refine' PySem.FX.init_mk ?l ?c ?lc ?v2 ?fl ?cl kk; (case l => k_is); (case c => k_is); (case lc => k_is); (case v2 => rfl); (case fl => first | rfl | decide +kernel | kernel_rfl); (case cl => k_is)))
    (case w_InvalidPaper => refine' PySem.FX.heirw_mk (p0 := ⟨36, 8, 36, 13⟩) (pp := ⟨36, 8, 36, 15⟩) (p3 := ⟨36, 8, 36, 24⟩) (p4 := ⟨36, 25, 36, 30⟩) (p5 := ⟨36, 8, 36, 31⟩) (p6 := ⟨36, 8, 36, 31⟩) (r1 := ⟨37, 8, 37, 12⟩) (r2 := ⟨37, 8, 37, 17⟩) (r3 := ⟨37, 20, 37, 34⟩) (r4 := ⟨37, 8, 37, 34⟩) (k := 0) KX G ?aB ?iB ?c ?mC ?sp (fun env => ⟨_, rfl⟩) ?i; (case aB => k_is); (case iB => k_is); (case c => refine' PySem.FX.cls_mk KX G ?a ?x ?hm ?sa ?noP ?noN ?mB ?spB ?sVE ?ga ?gg ?exC ?hd ?iC ?tI ?kC ?tyC; (case a => k_is); (case x => k_is); (case hm => first | rfl | decide +kernel); (case sa => k_is); (case noP => k_is); (case noN => k_is); (case mB => k_is); (case spB => ks_is); (case sVE => k_is); (case ga => k_is); (case gg => k_is); (case exC => k_is); (case hd => k_is); (case iC => k_is); (case tI => k_is); (case kC => k_is); (case tyC => k_is)); (case mC => k_is); (case sp => ks_is); (case i => intro kk; refine' PySem.FX.init_mk ?l ?c ?lc ?v2 ?fl ?cl kk; (case l => k_is); (case c => k_is); (case lc => k_is); (case v2 => rfl); (case fl => first | rfl | decide +kernel | kernel_rfl); (case cl => k_is)))
    (case w_InvalidRow => refine' PySem.FX.heirw_mk (p0 := ⟨26, 8, 26, 13⟩) (pp := ⟨26, 8, 26, 15⟩) (p3 := ⟨26, 8, 26, 24⟩) (p4 := ⟨26, 25, 26, 30⟩) (p5 := ⟨26, 8, 26, 31⟩) (p6 := ⟨26, 8, 26, 31⟩) (r1 := ⟨27, 8, 27, 12⟩) (r2 := ⟨27, 8, 27, 17⟩) (r3 := ⟨27, 20, 27, 32⟩) (r4 := ⟨27, 8, 27, 32⟩) (k := 0) KX G ?aB ?iB ?c ?mC ?sp (fun env => ⟨_, rfl⟩) ?i; (case aB => k_is); (case iB => k_is); (case c => refine' PySem.FX.cls_mk KX G ?a ?x ?hm ?sa ?noP ?noN ?mB ?spB ?sVE ?ga ?gg ?exC ?hd ?iC ?tI ?kC ?tyC; (case a => k_is); (case x => k_is); (case hm => first | rfl | decide +kernel); (case sa => k_is); (case noP => k_is); (case noN => k_is); (case mB => k_is); (case spB => ks_is); (case sVE => k_is); (case ga => k_is); (case gg => k_is); (case exC => k_is); (case hd => k_is); (case iC => k_is); (case tI => k_is); (case kC => k_is); (case tyC => k_is)); (case mC => k_is); (case sp => ks_is); (case i => intro kk; refine' PySem.FX.init_mk ?l ?c ?lc ?v2 ?fl ?cl kk; (case l => k_is); (case c => k_is); (case lc => k_is); (case v2 => rfl); (case fl => first | rfl | decide +kernel | kernel_rfl); (case cl => k_is)))
    (case w_InvalidTable => refine' PySem.FX.heirw_mk (p0 := ⟨21, 8, 21, 13⟩) (pp := ⟨21, 8, 21, 15⟩) (p3 := ⟨21, 8, 21, 24⟩) (p4 := ⟨21, 25, 21, 30⟩) (p5 := ⟨21, 8, 21, 31⟩) (p6 := ⟨21, 8, 21, 31⟩) (r1 := ⟨22, 8, 22, 12⟩) (r2 := ⟨22, 8, 22, 17⟩) (r3 := ⟨22, 20, 22, 34⟩) (r4 := ⟨22, 8, 22, 34⟩) (k := 0) KX G ?aB ?iB ?c ?mC ?sp (fun env => ⟨_, rfl⟩) ?i; (case aB => k_is); (case iB => k_is); (case c => refine' PySem.FX.cls_mk KX G ?a ?x ?hm ?sa ?noP ?noN ?mB ?spB ?sVE ?ga ?gg ?exC ?hd ?iC ?tI ?kC ?tyC; (case a => k_is); (case x => k_is); (case hm => first | rfl | decide +kernel); (case sa => k_is); (case noP => k_is); (case noN => k_is); (case mB => k_is); (case spB => ks_is); (case sVE => k_is); (case ga => k_is); (case gg => k_is); (case exC => k_is); (case hd => k_is); (case iC => k_is); (case tI => k_is); (case kC => k_is); (case tyC => k_is)); (case mC => k_is); (case sp => ks_is); (case i => intro kk; refine' PySem.FX.init_mk ?l ?c ?lc ?v2 ?fl ?cl kk; (case l => k_is); (case c => k_is); (case lc => k_is); (case v2 => rfl); (case fl => first | rfl | decide +kernel | kernel_rfl); (case cl => k_is)))
    (case w_InvalidText => refine' PySem.FX.heirw_mk (p0 := ⟨41, 8, 41, 13⟩) (pp := ⟨41, 8, 41, 15⟩) (p3 := ⟨41, 8, 41, 24⟩) (p4 := ⟨41, 25, 41, 30⟩) (p5 := ⟨41, 8, 41, 31⟩) (p6 := ⟨41, 8, 41, 31⟩) (r1 := ⟨42, 8, 42, 12⟩) (r2 := ⟨42, 8, 42, 17⟩) (r3 := ⟨42, 20, 42, 33⟩) (r4 := ⟨42, 8, 42, 33⟩) (k := 0) KX G ?aB ?iB ?c ?mC ?sp (fun env => ⟨_, rfl⟩) ?i; (case aB => k_is); (case iB => k_is); (case c => refine' PySem.FX.cls_mk KX G ?a ?x ?hm ?sa ?noP ?noN ?mB ?spB ?sVE ?ga ?gg ?exC ?hd ?iC ?tI ?kC ?tyC; (case a => k_is); (case x => k_is); (case hm => first | rfl | decide +kernel); (case sa => k_is); (case noP => k_is); (case noN => k_is); (case mB => k_is); (case spB => ks_is); (case sVE => k_is); (case ga => k_is); (case gg => k_is); (case exC => k_is); (case hd => k_is); (case iC => k_is); (case tI => k_is); (case kC => k_is); (case tyC => k_is)); (case mC => k_is); (case sp => ks_is); (case i => intro kk; refine' PySem.FX.init_mk ?l ?c ?lc ?v2 ?fl ?cl kk; (case l => k_is); (case c => k_is); (case lc => k_is); (case v2 => rfl); (case fl => first | rfl | decide +kernel | kernel_rfl); (case cl => k_is)))
    (case w_InvalidWeb => refine' PySem.FX.heirw_mk (p0 := ⟨31, 8, 31, 13⟩) (pp := ⟨31, 8, 31, 15⟩) (p3 := ⟨31, 8, 31, 24⟩) (p4 := ⟨31, 25, 31, 30⟩) (p5 := ⟨31, 8, 31, 31⟩) (p6 := ⟨31, 8, 31, 31⟩) (r1 := ⟨32, 8, 32, 12⟩) (r2 := ⟨32, 8, 32, 17⟩) (r3 := ⟨32, 20, 32, 32⟩) (r4 := ⟨32, 8, 32, 32⟩) (k := 0) KX G ?aB ?iB ?c ?mC ?sp (fun env => ⟨_, rfl⟩) ?i; (case aB => k_is); (case iB => k_is); (case c => refine' PySem.FX.cls_mk KX G ?a ?x ?hm ?sa ?noP ?noN ?mB ?spB ?sVE ?ga ?gg ?exC ?hd ?iC ?tI ?kC ?tyC; (case a => k_is); (case x => k_is); (case hm => first | rfl | decide +kernel); (case sa => k_is); (case noP => k_is); (case noN => k_is); (case mB => k_is); (case spB => ks_is); (case sVE => k_is); (case ga => k_is); (case gg => k_is); (case exC => k_is); (case hd => k_is); (case iC => k_is); (case tI => k_is); (case kC => k_is); (case tyC => k_is)); (case mC => k_is); (case sp => ks_is); (case i => intro kk; refine' PySem.FX.init_mk ?l ?c ?lc ?v2 ?fl ?cl kk; (case l => k_is); (case c => k_is); (case lc => k_is); (case v2 => rfl); (case fl => first | rfl | decide +kernel | kernel_rfl); (case cl => k_is)))
    (case w_TooLarge => refine' PySem.FX.heirw_mk (p0 := ⟨11, 8, 11, 13⟩) (pp := ⟨11, 8, 11, 15⟩) (p3 := ⟨11, 8, 11, 24⟩) (p4 := ⟨11, 25, 11, 30⟩) (p5 := ⟨11, 8, 11, 31⟩) (p6 := ⟨11, 8, 11, 31⟩) (r1 := ⟨12, 8, 12, 12⟩) (r2 := ⟨12, 8, 12, 17⟩) (r3 := ⟨12, 20, 12, 30⟩) (r4 := ⟨12, 8, 12, 30⟩) (k := 0) KX G ?aB ?iB ?c ?mC ?sp (fun env => ⟨_, rfl⟩) ?i; (case aB => k_is); (case iB => k_is); (case c => refine' PySem.FX.cls_mk KX G ?a ?x ?hm ?sa ?noP ?noN ?mB ?spB ?sVE ?ga ?gg ?exC ?hd ?iC ?tI ?kC ?tyC; (case a => k_is); (case x => k_is); (case hm => first | rfl | decide +kernel); (case sa => k_is); (case noP => k_is); (case noN => k_is); (case mB => k_is); (case spB => ks_is); (case sVE => k_is); (case ga => k_is); (case gg => k_is); (case exC => k_is); (case hd => k_is); (case iC => k_is); (case tI => k_is); (case kC => k_is); (case tyC => k_is)); (case mC => k_is); (case sp => ks_is); (case i => intro kk; refine' PySem.FX.init_mk ?l ?c ?lc ?v2 ?fl ?cl kk; (case l => k_is); (case c => k_is); (case lc => k_is); (case v2 => rfl); (case fl => first | rfl | decide +kernel | kernel_rfl); (case cl => k_is)))
    (case p_EvensplitsError_EvensplitsError => refine' PySem.FX.pairw_mk KX G ?a ?b ?s; (case a => k_is); (case b => k_is); (case s => first | rfl | k_is))
    (case p_InvalidFamily_EvensplitsError => refine' PySem.FX.pairw_mk KX G ?a ?b ?s; (case a => k_is); (case b => k_is); (case s => first | rfl | k_is))
    (case p_InvalidPaper_EvensplitsError => refine' PySem.FX.pairw_mk KX G ?a ?b ?s; (case a => k_is); (case b => k_is); (case s => first | rfl | k_is))
    (case p_InvalidRow_EvensplitsError => refine' PySem.FX.pairw_mk KX G ?a ?b ?s; (case a => k_is); (case b => k_is); (case s => first | rfl | k_is))
    (case p_InvalidTable_EvensplitsError => refine' PySem.FX.pairw_mk KX G ?a ?b ?s; (case a => k_is); (case b => k_is); (case s => first | rfl | k_is))
    (case p_InvalidText_EvensplitsError => refine' PySem.FX.pairw_mk KX G ?a ?b ?s; (case a => k_is); (case b => k_is); (case s => first | rfl | k_is))
    (case p_InvalidWeb_EvensplitsError => refine' PySem.FX.pairw_mk KX G ?a ?b ?s; (case a => k_is); (case b => k_is); (case s => first | rfl | k_is))
    (case p_TooLarge_EvensplitsError => refine' PySem.FX.pairw_mk KX G ?a ?b ?s; (case a => k_is); (case b => k_is); (case s => first | rfl | k_is))
    (case p_EvensplitsError_InvalidFamily => refine' PySem.FX.pairw_mk KX G ?a ?b ?s; (case a => k_is); (case b => k_is); (case s => first | rfl | k_is))
    (case p_InvalidFamily_InvalidFamily => refine' PySem.FX.pairw_mk KX G ?a ?b ?s; (case a => k_is); (case b => k_is); (case s => first | rfl | k_is))
    (case p_InvalidPaper_InvalidFamily => refine' PySem.FX.pairw_mk KX G ?a ?b ?s; (case a => k_is); (case b => k_is); (case s => first | rfl | k_is))
    (case p_InvalidRow_InvalidFamily => refine' PySem.FX.pairw_mk KX G ?a ?b ?s; (case a => k_is); (case b => k_is); (case s => first | rfl | k_is))
    (case p_InvalidTable_InvalidFamily => refine' PySem.FX.pairw_mk KX G ?a ?b ?s; (case a => k_is); (case b => k_is); (case s => first | rfl | k_is))
    (case p_InvalidText_InvalidFamily => refine' PySem.FX.pairw_mk KX G ?a ?b ?s; (case a => k_is); (case b => k_is); (case s => first | rfl | k_is))
    (case p_InvalidWeb_InvalidFamily => refine' PySem.FX.pairw_mk KX G ?a ?b ?s; (case a => k_is); (case b => k_is); (case s => first | rfl | k_is))
    (case p_TooLarge_InvalidFamily => refine' PySem.FX.pairw_mk KX G ?a ?b ?s; (case a => k_is); (case b => k_is); (case s => first | rfl | k_is))
    (case p_EvensplitsError_InvalidPaper => refine' PySem.FX.pairw_mk KX G ?a ?b ?s; (case a => k_is); (case b => k_is); (case s => first | rfl | k_is))
    (case p_InvalidFamily_InvalidPaper => refine' PySem.FX.pairw_mk KX G ?a ?b ?s; (case a => k_is); (case b => k_is); (case s => first | rfl | k_is))
    (case p_InvalidPaper_InvalidPaper => refine' PySem.FX.pairw_mk KX G ?a ?b ?s; (case a => k_is); (case b => k_is); (case s => first | rfl | k_is))
    (case p_InvalidRow_InvalidPaper => refine' PySem.FX.pairw_mk KX G ?a ?b ?s; (case a => k_is); (case b => k_is); (case s => first | rfl | k_is))
    (case p_InvalidTable_InvalidPaper => refine' PySem.FX.pairw_mk KX G ?a ?b ?s; (case a => k_is); (case b => k_is); (case s => first | rfl | k_is))
    (case p_InvalidText_InvalidPaper => refine' PySem.FX.pairw_mk KX G ?a ?b ?s; (case a => k_is); (case b => k_is); (case s => first | rfl | k_is))
    (case p_InvalidWeb_InvalidPaper => refine' PySem.FX.pairw_mk KX G ?a ?b ?s; (case a => k_is); (case b => k_is); (case s => first | rfl | k_is))
    (case p_TooLarge_InvalidPaper => refine' PySem.FX.pairw_mk KX G ?a ?b ?s; (case a => k_is); (case b => k_is); (case s => first | rfl | k_is))
    (case p_EvensplitsError_InvalidRow => refine' PySem.FX.pairw_mk KX G ?a ?b ?s; (case a => k_is); (case b => k_is); (case s => first | rfl | k_is))
    (case p_InvalidFamily_InvalidRow => refine' PySem.FX.pairw_mk KX G ?a ?b ?s; (case a => k_is); (case b => k_is); (case s => first | rfl | k_is))
    (case p_InvalidPaper_InvalidRow => refine' PySem.FX.pairw_mk KX G ?a ?b ?s; (case a => k_is); (case b => k_is); (case s => first | rfl | k_is))
    (case p_InvalidRow_InvalidRow => refine' PySem.FX.pairw_mk KX G ?a ?b ?s; (case a => k_is); (case b => k_is); (case s => first | rfl | k_is))
    (case p_InvalidTable_InvalidRow => refine' PySem.FX.pairw_mk KX G ?a ?b ?s; (case a => k_is); (case b => k_is); (case s => first | rfl | k_is))
    (case p_InvalidText_InvalidRow => refine' PySem.FX.pairw_mk KX G ?a ?b ?s; (case a => k_is); (case b => k_is); (case s => first | rfl | k_is))
    (case p_InvalidWeb_InvalidRow => refine' PySem.FX.pairw_mk KX G ?a ?b ?s; (case a => k_is); (case b => k_is); (case s => first | rfl | k_is))
    (case p_TooLarge_InvalidRow => refine' PySem.FX.pairw_mk KX G ?a ?b ?s; (case a => k_is); (case b => k_is); (case s => first | rfl | k_is))
    (case p_EvensplitsError_InvalidTable => refine' PySem.FX.pairw_mk KX G ?a ?b ?s; (case a => k_is); (case b => k_is); (case s => first | rfl | k_is))
    (case p_InvalidFamily_InvalidTable => refine' PySem.FX.pairw_mk KX G ?a ?b ?s; (case a => k_is); (case b => k_is); (case s => first | rfl | k_is))
    (case p_InvalidPaper_InvalidTable => refine' PySem.FX.pairw_mk KX G ?a ?b ?s; (case a => k_is); (case b => k_is); (case s => first | rfl | k_is))
    (case p_InvalidRow_InvalidTable => refine' PySem.FX.pairw_mk KX G ?a ?b ?s; (case a => k_is); (case b => k_is); (case s => first | rfl | k_is))
    (case p_InvalidTable_InvalidTable => refine' PySem.FX.pairw_mk KX G ?a ?b ?s; (case a => k_is); (case b => k_is); (case s => first | rfl | k_is))
    (case p_InvalidText_InvalidTable => refine' PySem.FX.pairw_mk KX G ?a ?b ?s; (case a => k_is); (case b => k_is); (case s => first | rfl | k_is))
    (case p_InvalidWeb_InvalidTable => refine' PySem.FX.pairw_mk KX G ?a ?b ?s; (case a => k_is); (case b => k_is); (case s => first | rfl | k_is))
    (case p_TooLarge_InvalidTable => refine' PySem.FX.pairw_mk KX G ?a ?b ?s; (case a => k_is); (case b => k_is); (case s => first | rfl | k_is))
    (case p_EvensplitsError_InvalidText => refine' PySem.FX.pairw_mk KX G ?a ?b ?s; (case a => k_is); (case b => k_is); (case s => first | rfl | k_is))
    (case p_InvalidFamily_InvalidText => refine' PySem.FX.pairw_mk KX G ?a ?b ?s; (case a => k_is); (case b => k_is); (case s => first | rfl | k_is))
    (case p_InvalidPaper_InvalidText => refine' PySem.FX.pairw_mk KX G ?a ?b ?s; (case a => k_is); (case b => k_is); (case s => first | rfl | k_is))
    (case p_InvalidRow_InvalidText => refine' PySem.FX.pairw_mk KX G ?a ?b ?s; (case a => k_is); (case b => k_is); (case s => first | rfl | k_is))
    (case p_InvalidTable_InvalidText => refine' PySem.FX.pairw_mk KX G ?a ?b ?s; (case a => k_is); (case b => k_is); (case s => first | rfl | k_is))
    (case p_InvalidText_InvalidText => refine' PySem.FX.pairw_mk KX G ?a ?b ?s; (case a => k_is); (case b => k_is); (case s => first | rfl | k_is))
    (case p_InvalidWeb_InvalidText => refine' PySem.FX.pairw_mk KX G ?a ?b ?s; (case a => k_is); (case b => k_is); (case s => first | rfl | k_is))
    (case p_TooLarge_InvalidText => refine' PySem.FX.pairw_mk KX G ?a ?b ?s; (case a => k_is); (case b => k_is); (case s => first | rfl | k_is))
    (case p_EvensplitsError_InvalidWeb => refine' PySem.FX.pairw_mk KX G ?a ?b ?s; (case a => k_is); (case b => k_is); (case s => first | rfl | k_is))
    (case p_InvalidFamily_InvalidWeb => refine' PySem.FX.pairw_mk KX G ?a ?b ?s; (case a => k_is); (case b => k_is); (case s => first | rfl | k_is))
    (case p_InvalidPaper_InvalidWeb => refine' PySem.FX.pairw_mk KX G ?a ?b ?s; (case a => k_is); (case b => k_is); (case s => first | rfl | k_is))
    (case p_InvalidRow_InvalidWeb => refine' PySem.FX.pairw_mk KX G ?a ?b ?s; (case a => k_is); (case b => k_is); (case s => first | rfl | k_is))
    (case p_InvalidTable_InvalidWeb => refine' PySem.FX.pairw_mk KX G ?a ?b ?s; (case a => k_is); (case b => k_is); (case s => first | rfl | k_is))
    (case p_InvalidText_InvalidWeb => refine' PySem.FX.pairw_mk KX G ?a ?b ?s; (case a => k_is); (case b => k_is); (case s => first | rfl | k_is))
    (case p_InvalidWeb_InvalidWeb => refine' PySem.FX.pairw_mk KX G ?a ?b ?s; (case a => k_is); (case b => k_is); (case s => first | rfl | k_is))
    (case p_TooLarge_InvalidWeb => refine' PySem.FX.pairw_mk KX G ?a ?b ?s; (case a => k_is); (case b => k_is); (case s => first | rfl | k_is))
    (case p_EvensplitsError_TooLarge => refine' PySem.FX.pairw_mk KX G ?a ?b ?s; (case a => k_is); (case b => k_is); (case s => first | rfl | k_is))
    (case p_InvalidFamily_TooLarge => refine' PySem.FX.pairw_mk KX G ?a ?b ?s; (case a => k_is); (case b => k_is); (case s => first | rfl | k_is))
    (case p_InvalidPaper_TooLarge => refine' PySem.FX.pairw_mk KX G ?a ?b ?s; (case a => k_is); (case b => k_is); (case s => first | rfl | k_is))
    (case p_InvalidRow_TooLarge => refine' PySem.FX.pairw_mk KX G ?a ?b ?s; (case a => k_is); (case b => k_is); (case s => first | rfl | k_is))
    (case p_InvalidTable_TooLarge => refine' PySem.FX.pairw_mk KX G ?a ?b ?s; (case a => k_is); (case b => k_is); (case s => first | rfl | k_is))
    (case p_InvalidText_TooLarge => refine' PySem.FX.pairw_mk KX G ?a ?b ?s; (case a => k_is); (case b => k_is); (case s => first | rfl | k_is))
    (case p_InvalidWeb_TooLarge => refine' PySem.FX.pairw_mk KX G ?a ?b ?s; (case a => k_is); (case b => k_is); (case s => first | rfl | k_is))
    (case p_TooLarge_TooLarge => refine' PySem.FX.pairw_mk KX G ?a ?b ?s; (case a => k_is); (case b => k_is); (case s => first | rfl | k_is))
    (case i_EvensplitsError => refine' PySem.FX.isew_mk KX G ?a ?h1 ?h2 ?h3 ?h4 ?h5 ?h6 ?h7 ?h8 ?h9; (case a => k_is); (case h1 => k_is); (case h2 => k_is); (case h3 => k_is); (case h4 => k_is); (case h5 => k_is); (case h6 => k_is); (case h7 => k_is); (case h8 => k_is); (case h9 => kit_is))
    (case i_InvalidFamily => refine' PySem.FX.isew_mk KX G ?a ?h1 ?h2 ?h3 ?h4 ?h5 ?h6 ?h7 ?h8 ?h9; (case a => k_is); (case h1 => k_is); (case h2 => k_is); (case h3 => k_is); (case h4 => k_is); (case h5 => k_is); (case h6 => k_is); (case h7 => k_is); (case h8 => k_is); (case h9 => kit_is))
    (case i_InvalidPaper => refine' PySem.FX.isew_mk KX G ?a ?h1 ?h2 ?h3 ?h4 ?h5 ?h6 ?h7 ?h8 ?h9; (case a => k_is); (case h1 => k_is); (case h2 => k_is); (case h3 => k_is); (case h4 => k_is); (case h5 => k_is); (case h6 => k_is); (case h7 => k_is); (case h8 => k_is); (case h9 => kit_is))
    (case i_InvalidRow => refine' PySem.FX.isew_mk KX G ?a ?h1 ?h2 ?h3 ?h4 ?h5 ?h6 ?h7 ?h8 ?h9; (case a => k_is); (case h1 => k_is); (case h2 => k_is); (case h3 => k_is); (case h4 => k_is); (case h5 => k_is); (case h6 => k_is); (case h7 => k_is); (case h8 => k_is); (case h9 => kit_is))
    (case i_InvalidTable => refine' PySem.FX.isew_mk KX G ?a ?h1 ?h2 ?h3 ?h4 ?h5 ?h6 ?h7 ?h8 ?h9; (case a => k_is); (case h1 => k_is); (case h2 => k_is); (case h3 => k_is); (case h4 => k_is); (case h5 => k_is); (case h6 => k_is); (case h7 => k_is); (case h8 => k_is); (case h9 => kit_is))
    (case i_InvalidText => refine' PySem.FX.isew_mk KX G ?a ?h1 ?h2 ?h3 ?h4 ?h5 ?h6 ?h7 ?h8 ?h9; (case a => k_is); (case h1 => k_is); (case h2 => k_is); (case h3 => k_is); (case h4 => k_is); (case h5 => k_is); (case h6 => k_is); (case h7 => k_is); (case h8 => k_is); (case h9 => kit_is))
    (case i_InvalidWeb => refine' PySem.FX.isew_mk KX G ?a ?h1 ?h2 ?h3 ?h4 ?h5 ?h6 ?h7 ?h8 ?h9; (case a => k_is); (case h1 => k_is); (case h2 => k_is); (case h3 => k_is); (case h4 => k_is); (case h5 => k_is); (case h6 => k_is); (case h7 => k_is); (case h8 => k_is); (case h9 => kit_is))
    (case i_TooLarge => refine' PySem.FX.isew_mk KX G ?a ?h1 ?h2 ?h3 ?h4 ?h5 ?h6 ?h7 ?h8 ?h9; (case a => k_is); (case h1 => k_is); (case h2 => k_is); (case h3 => k_is); (case h4 => k_is); (case h5 => k_is); (case h6 => k_is); (case h7 => k_is); (case h8 => k_is); (case h9 => kit_is))
    (case b_ValueError => refine' PySem.FX.mgn_mk KX G ?s; (case s => k_is))
    (case b_abs => refine' PySem.FX.mgn_mk KX G ?s; (case s => k_is))
    (case b_all => refine' PySem.FX.mgn_mk KX G ?s; (case s => k_is))
    (case b_bool => refine' PySem.FX.mgn_mk KX G ?s; (case s => k_is))
    (case b_int => refine' PySem.FX.mgn_mk KX G ?s; (case s => k_is))
    (case b_isinstance => refine' PySem.FX.mgn_mk KX G ?s; (case s => k_is))
    (case b_len => refine' PySem.FX.mgn_mk KX G ?s; (case s => k_is))
    (case b_list => refine' PySem.FX.mgn_mk KX G ?s; (case s => k_is))
    (case b_range => refine' PySem.FX.mgn_mk KX G ?s; (case s => k_is))
    (case b_str => refine' PySem.FX.mgn_mk KX G ?s; (case s => k_is))
    (case b_tuple => refine' PySem.FX.mgn_mk KX G ?s; (case s => k_is))
    (case f__law_start => refine' FW.fnw_mk KX G ?a ?l ?c ?k; (case a => k_is); (case l => k_is); (case c => k_is); (case k => k_is))
    (case f__law_pick => refine' FW.fnw_mk KX G ?a ?l ?c ?k; (case a => k_is); (case l => k_is); (case c => k_is); (case k => k_is))
    (case f_is_count => refine' FW.fnw_mk KX G ?a ?l ?c ?k; (case a => k_is); (case l => k_is); (case c => k_is); (case k => k_is))
    (case f_is_part => refine' FW.fnw_mk KX G ?a ?l ?c ?k; (case a => k_is); (case l => k_is); (case c => k_is); (case k => k_is))
    (case f_check_family => refine' FW.fnw_mk KX G ?a ?l ?c ?k; (case a => k_is); (case l => k_is); (case c => k_is); (case k => k_is))
    (case f_is_whole => refine' FW.fnw_mk KX G ?a ?l ?c ?k; (case a => k_is); (case l => k_is); (case c => k_is); (case k => k_is))
    (case f_is_signs => refine' FW.fnw_mk KX G ?a ?l ?c ?k; (case a => k_is); (case l => k_is); (case c => k_is); (case k => k_is))
    (case f_check_signs => refine' FW.fnw_mk KX G ?a ?l ?c ?k; (case a => k_is); (case l => k_is); (case c => k_is); (case k => k_is))
    (case f_is_whole_table => refine' FW.fnw_mk KX G ?a ?l ?c ?k; (case a => k_is); (case l => k_is); (case c => k_is); (case k => k_is))
    (case f_check_whole_table => refine' FW.fnw_mk KX G ?a ?l ?c ?k; (case a => k_is); (case l => k_is); (case c => k_is); (case k => k_is))
    (case f_check_places => refine' FW.fnw_mk KX G ?a ?l ?c ?k; (case a => k_is); (case l => k_is); (case c => k_is); (case k => k_is))
    (case f_arrow_table => refine' FW.fnw_mk KX G ?a ?l ?c ?k; (case a => k_is); (case l => k_is); (case c => k_is); (case k => k_is))
    (case f__law_call => refine' FW.fnw_mk KX G ?a ?l ?c ?k; (case a => k_is); (case l => k_is); (case c => k_is); (case k => k_is))
    (case f__law_same => refine' FW.fnw_mk KX G ?a ?l ?c ?k; (case a => k_is); (case l => k_is); (case c => k_is); (case k => k_is))
    (case f__law_least => refine' FW.fnw_mk KX G ?a ?l ?c ?k; (case a => k_is); (case l => k_is); (case c => k_is); (case k => k_is))
    (case f_made => refine' FW.fnw_mk KX G ?a ?l ?c ?k; (case a => k_is); (case l => k_is); (case c => k_is); (case k => k_is))
    (case f_plus_f => refine' FW.fnw_mk KX G ?a ?l ?c ?k; (case a => k_is); (case l => k_is); (case c => k_is); (case k => k_is))
    (case f_sum_f => refine' FW.fnw_mk KX G ?a ?l ?c ?k; (case a => k_is); (case l => k_is); (case c => k_is); (case k => k_is))
    (case f_is_fraction => refine' FW.fnw_mk KX G ?a ?l ?c ?k; (case a => k_is); (case l => k_is); (case c => k_is); (case k => k_is))
    (case f_minus_f => refine' FW.fnw_mk KX G ?a ?l ?c ?k; (case a => k_is); (case l => k_is); (case c => k_is); (case k => k_is))
    (case f_times_f => refine' FW.fnw_mk KX G ?a ?l ?c ?k; (case a => k_is); (case l => k_is); (case c => k_is); (case k => k_is))
    (case f_below_f => refine' FW.fnw_mk KX G ?a ?l ?c ?k; (case a => k_is); (case l => k_is); (case c => k_is); (case k => k_is))
    (case f_size_f => refine' FW.fnw_mk KX G ?a ?l ?c ?k; (case a => k_is); (case l => k_is); (case c => k_is); (case k => k_is))
    (case f_over_f => refine' FW.fnw_mk KX G ?a ?l ?c ?k; (case a => k_is); (case l => k_is); (case c => k_is); (case k => k_is))
    (case f__law_fractions => refine' FW.fnw_mk KX G ?a ?l ?c ?k; (case a => k_is); (case l => k_is); (case c => k_is); (case k => k_is))
    (case f__law_raise => refine' FW.fnw_mk KX G ?a ?l ?c ?k; (case a => k_is); (case l => k_is); (case c => k_is); (case k => k_is))
    (case f__law_forwards => refine' FW.fnw_mk KX G ?a ?l ?c ?k; (case a => k_is); (case l => k_is); (case c => k_is); (case k => k_is))
    (case f__law_backwards => refine' FW.fnw_mk KX G ?a ?l ?c ?k; (case a => k_is); (case l => k_is); (case c => k_is); (case k => k_is))
    (case f__law_caught => refine' FW.fnw_mk KX G ?a ?l ?c ?k; (case a => k_is); (case l => k_is); (case c => k_is); (case k => k_is))
    (case f_law => refine' FW.fnw_mk KX G ?a ?l ?c ?k; (case a => k_is); (case l => k_is); (case c => k_is); (case k => k_is))


