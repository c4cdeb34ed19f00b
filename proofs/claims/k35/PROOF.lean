import PyProof.Rows.All
import Wide.All
import OpenK.AllK
import Wide.FinOn
import HandS.ForMost
import HandS.ForExc
import HandS.Deep
import HandS.CallSlots
import HandS.TryMany
import HandS.TupAny
import HandS.TupMul
import HandS.IsInst
import HandS.Style
import HandS.Wide
import HandS.Flow
import HandS.ExcField
import HandS.ExcIs
import HandS.Conv
import HandS.SortKw
import HandS.TupLe
import KE.KExcSuper
import KE.KSuper
import HandS.ExcSuper
import HandS.Ends
import KE.RegKSuper
import KE.RegKIsAll
import HandS.Iter
import HandS.More
import PySem.Challenge.RW_evensplits_k35_whole_things_in_a_row
set_option Elab.async false
set_option linter.all false
set_option maxRecDepth 100000
/-! # The layer of pure code over the hand layer -/
namespace FW
open PySem PySem.Spec PyProof.Rows L2

/-! ### values, cells, code -/
abbrev D := PyData
inductive Val where
  | d (x : D) | loc (l : Nat) | exn
inductive Cell where
  | lst (xs : List D) | dct (kvs : List (D × D))
abbrev Env := List (Option Val)
abbrev Sto := List Cell
inductive R (α : Type) where
  | ok (a : α) (μ : Sto) | exc (cn : Str) (pl : D) (μ : Sto) | stuck
def R.bind {α β : Type} (r : R α) (f : α → Sto → R β) : R β := match r with
  | .ok a μ => f a μ
  | .exc cn pl μ => .exc cn pl μ
  | .stuck => .stuck
abbrev Cd (α : Type) := Env → Sto → R α
inductive O where
  | next (ρ : Env) (μ : Sto) | ret (v : Val) (μ : Sto) | brk (ρ : Env) (μ : Sto) | cont (ρ : Env) (μ : Sto)
  | exc (cn : Str) (pl : D) (ρ : Env) (μ : Sto) | stuck
abbrev Sc := Nat → Env → Sto → O
def lift {α : Type} (r : R α) (ρ : Env) (f : α → Sto → O) : O := match r with
  | .ok a μ => f a μ
  | .exc cn pl μ => .exc cn pl ρ μ
  | .stuck => .stuck
/-- what a value says when it is read -/
def rd (v : Val) (μ : Sto) : Option D := match v with
  | .d x => some x
  | .loc l => match μ[l]? with
    | some (.lst xs) => some (.list xs)
    | some (.dct kvs) => some (.dict kvs)
    | none => none
  | .exn => none

/-! ### what stands in the heap -/
def Sub (I H : Hp) : Prop := ∀ a o, I a = some o → H a = some o
theorem Sub.refl (I : Hp) : Sub I I := fun _ _ h => h
theorem Sub.trans {I J H : Hp} (a : Sub I J) (b : Sub J H) : Sub I H := fun c o h => b c o (a c o h)
theorem Sub.new {H : Hp} {p : Addr} {o : HO} (h : H p = none) : Sub H (upd H p o) := fun b u e => by
  rw [upd_ne (ne_of_none e h)]; exact e
theorem Sub.rd {I H : Hp} (s : Sub I H) {a : Addr} {u : HO} (h : L2.Rd I a u) : L2.Rd H a u := by
  rcases h with h | ⟨o, h⟩
  · exact .inl (s _ _ h)
  · exact .inr ⟨o, s _ _ h⟩
theorem Sub.seqL {K : PySem.W.Frag} {I H : Hp} (s : Sub I H) {a : Addr} {xs : List V} (h : SqL K I a xs) : SqL K H a xs := by
  rcases h with h | h
  · exact .inl (s.rd h)
  · exact .inr h
theorem Sub.seqT {K : PySem.W.Frag} {I H : Hp} (s : Sub I H) {a : Addr} {xs : List V} (h : SqT K I a xs) : SqT K H a xs := by
  rcases h with h | h
  · exact .inl (s.rd h)
  · exact .inr h
mutual
theorem Sub.dp {K : PySem.W.Frag} {I H : Hp} (s : Sub I H) : ∀ {v : V} {d : D}, Dp K I v d → Dp K H v d
  | _, _, .non => .non
  | _, _, .bl b => .bl b
  | _, _, .int i => .int i
  | _, _, .str x => .str x
  | _, _, .lst h t => .lst (s.seqL h) (s.dpAll t)
  | _, _, .tup h t => .tup (s.seqT h) (s.dpAll t)
theorem Sub.dpAll {K : PySem.W.Frag} {I H : Hp} (s : Sub I H) : ∀ {vs : List V} {ds : List D}, DpAll K I vs ds → DpAll K H vs ds
  | _, _, .nil => .nil
  | _, _, .cons h t => .cons (s.dp h) (s.dpAll t)
end
/-- data stands at a value -/
structure Rp (K : PySem.W.Frag) (I : Hp) (v : V) (d : D) : Prop where
  dp : Dp K I v d
  lay : d.canLay0 = true
structure RpAll (K : PySem.W.Frag) (I : Hp) (vs : List V) (ds : List D) : Prop where
  dp : DpAll K I vs ds
  lay : PyData.canLayAll0 ds = true
theorem Sub.rp {K : PySem.W.Frag} {I H : Hp} (s : Sub I H) {v : V} {d : D} (h : Rp K I v d) : Rp K H v d := ⟨s.dp h.dp, h.lay⟩
theorem Sub.rpAll {K : PySem.W.Frag} {I H : Hp} (s : Sub I H) {v : List V} {d : List D} (h : RpAll K I v d) : RpAll K H v d := ⟨s.dpAll h.dp, h.lay⟩
theorem RpAll.nil {K : PySem.W.Frag} {I : Hp} : RpAll K I [] [] := ⟨.nil, by simp [PyData.canLayAll0]⟩
theorem RpAll.cons {K : PySem.W.Frag} {I : Hp} {v : V} {d : D} {vs : List V} {ds : List D} (h : Rp K I v d) (t : RpAll K I vs ds) : RpAll K I (v :: vs) (d :: ds) :=
  ⟨.cons h.dp t.dp, by simp [PyData.canLayAll0, h.lay, t.lay]⟩
theorem RpAll.head {K : PySem.W.Frag} {I : Hp} {v : V} {d : D} {vs : List V} {ds : List D} (h : RpAll K I (v :: vs) (d :: ds)) : Rp K I v d ∧ RpAll K I vs ds := by
  obtain ⟨a, b⟩ := h
  cases a with
  | cons p q =>
    simp only [PyData.canLayAll0, Bool.and_eq_true] at b
    exact ⟨⟨p, b.1⟩, ⟨q, b.2⟩⟩
theorem RpAll.length {K : PySem.W.Frag} {I : Hp} : ∀ {vs : List V} {ds : List D}, RpAll K I vs ds → vs.length = ds.length
  | [], [], _ => rfl
  | [], _ :: _, h => nomatch h.dp
  | _ :: _, [], h => nomatch h.dp
  | v :: vs, d :: ds, h => by
    rw [List.length_cons, List.length_cons, RpAll.length h.head.2]
theorem RpAll.get {K : PySem.W.Frag} {I : Hp} : ∀ {vs : List V} {ds : List D} {i : Nat} {d : D}, RpAll K I vs ds → ds[i]? = some d → ∃ v, vs[i]? = some v ∧ Rp K I v d
  | [], [], i, d, _, e => by simp at e
  | [], _ :: _, _, _, h, _ => nomatch h.dp
  | _ :: _, [], _, _, h, _ => nomatch h.dp
  | v :: vs, d :: ds, 0, d', h, e => by
    simp at e; subst e
    exact ⟨v, rfl, h.head.1⟩
  | v :: vs, d :: ds, i + 1, d', h, e => by
    obtain ⟨w, e1, r⟩ := RpAll.get (i := i) h.head.2 (by simpa using e)
    exact ⟨w, by simpa using e1, r⟩
theorem RpAll.app {K : PySem.W.Frag} {I : Hp} : ∀ {vs ws : List V} {ds es : List D}, RpAll K I vs ds → RpAll K I ws es → RpAll K I (vs ++ ws) (ds ++ es)
  | [], _, [], _, _, t => t
  | [], _, _ :: _, _, h, _ => nomatch h.dp
  | _ :: _, _, [], _, h, _ => nomatch h.dp
  | v :: vs, ws, d :: ds, es, h, t => .cons h.head.1 (RpAll.app h.head.2 t)
theorem Rp.list {K : PySem.W.Frag} {I : Hp} {a : Addr} {ys : List V} {xs : List D} (h : SqL K I a ys) (t : RpAll K I ys xs) : Rp K I (.ref a) (.list xs) := ⟨.lst h t.dp, by simp [PyData.canLay0, t.lay]⟩
theorem Rp.tup {K : PySem.W.Frag} {I : Hp} {a : Addr} {ys : List V} {xs : List D} (h : SqT K I a ys) (t : RpAll K I ys xs) : Rp K I (.ref a) (.tuple xs) := ⟨.tup h t.dp, by simp [PyData.canLay0, t.lay]⟩
theorem Rp.of_list {K : PySem.W.Frag} {I : Hp} {v : V} {xs : List D} (h : Rp K I v (.list xs)) : ∃ a ys, v = .ref a ∧ SqL K I a ys ∧ RpAll K I ys xs := by
  obtain ⟨h, l⟩ := h
  cases h with
  | lst p q => exact ⟨_, _, rfl, p, q, by simpa [PyData.canLay0] using l⟩
theorem Rp.of_tup {K : PySem.W.Frag} {I : Hp} {v : V} {xs : List D} (h : Rp K I v (.tuple xs)) : ∃ a ys, v = .ref a ∧ SqT K I a ys ∧ RpAll K I ys xs := by
  obtain ⟨h, l⟩ := h
  cases h with
  | tup p q => exact ⟨_, _, rfl, p, q, by simpa [PyData.canLay0] using l⟩
theorem Rp.of_int {K : PySem.W.Frag} {I : Hp} {v : V} {i : Int} (h : Rp K I v (.int i)) : v = .int i := by obtain ⟨h, _⟩ := h; cases h; rfl
theorem Rp.of_bool {K : PySem.W.Frag} {I : Hp} {v : V} {b : Bool} (h : Rp K I v (.bool b)) : v = .bl b := by obtain ⟨h, _⟩ := h; cases h; rfl
theorem Rp.of_none {K : PySem.W.Frag} {I : Hp} {v : V} (h : Rp K I v .none) : v = .non := by obtain ⟨h, _⟩ := h; cases h; rfl
theorem Rp.of_str {K : PySem.W.Frag} {I : Hp} {v : V} {x : Str} (h : Rp K I v (.str x)) : v = .str x := by obtain ⟨h, _⟩ := h; cases h; rfl
theorem Rp.int {K : PySem.W.Frag} {I : Hp} {i : Int} : Rp K I (.int i) (.int i) := ⟨.int i, by simp [PyData.canLay0]⟩
theorem Rp.bool {K : PySem.W.Frag} {I : Hp} {b : Bool} : Rp K I (.bl b) (.bool b) := ⟨.bl b, by simp [PyData.canLay0]⟩
theorem Rp.non {K : PySem.W.Frag} {I : Hp} : Rp K I .non .none := ⟨.non, by simp [PyData.canLay0]⟩
theorem Rp.ref {K : PySem.W.Frag} {I : Hp} {v : V} {d : D} (h : Rp K I v d) : (∃ a, v = .ref a) ∨ (v = .non ∧ d = .none) ∨ (∃ b, v = .bl b ∧ d = .bool b) ∨ (∃ i, v = .int i ∧ d = .int i) ∨ (∃ x, v = .str x ∧ d = .str x) := by
  obtain ⟨h, _⟩ := h
  cases h with
  | non => exact .inr (.inl ⟨rfl, rfl⟩)
  | bl b => exact .inr (.inr (.inl ⟨b, rfl, rfl⟩))
  | int i => exact .inr (.inr (.inr (.inl ⟨i, rfl, rfl⟩)))
  | str x => exact .inr (.inr (.inr (.inr ⟨x, rfl, rfl⟩)))
  | lst _ _ => exact .inl ⟨_, rfl⟩
  | tup _ _ => exact .inl ⟨_, rfl⟩

/-- what a try's suite knows of the caught one; where the error classes stand -/
structure Ctx where
  ca : Str → Option Addr
  ea : Addr
  ed : Option (Addr × Str × D)

/-- a value at a value -/
def RV (C : Ctx) (K : PySem.W.Frag) (I : Hp) (β : Nat → Addr) (n : Nat) : Val → V → Prop
  | .d x, v => Rp K I v x
  | .loc l, v => v = .ref (β l) ∧ l < n
  | .exn, v => v = .ref C.ea

def CellOk (K : PySem.W.Frag) (I H : Hp) (a : Addr) : Cell → Prop
  | .lst xs => ∃ ys, H a = some (.lst ys) ∧ RpAll K I ys xs
  | .dct kvs => False

/-- the store stands in the heap -/
structure SR (K : PySem.W.Frag) (I : Hp) (β : Nat → Addr) (μ : Sto) (H : Hp) : Prop where
  imm : Sub I H
  fr : ∀ l, l < μ.length → I (β l) = none
  inj : ∀ l m, l < μ.length → m < μ.length → β l = β m → l = m
  cell : ∀ l c, μ[l]? = some c → CellOk K I H (β l) c
def XdAt (K : PySem.W.Frag) (I : Hp) (cn : Str) (pl : D) (dd : Addr) : Prop := ∃ v, I dd = some (.xd [("place", v), ("name", .str cn)]) ∧ Rp K I v pl
/-- the slots -/
structure ER (C : Ctx) (K : PySem.W.Frag) (I : Hp) (β : Nat → Addr) (ρ : Env) (μ : Sto) (σ : L2.St) : Prop where
  len : ρ.length = σ.length
  get : ∀ (i : Nat) (v : Val), ρ[i]? = some (some v) → ∃ w, σ[i]? = some (some w) ∧ RV C K I β μ.length v w
  ex : ∀ dd cn pl, C.ed = some (dd, cn, pl) → XdAt K I cn pl dd
/-- how the state may go on; n: cells below stay where they are -/
structure Ext (n : Nat) (I : Hp) (β : Nat → Addr) (μ : Sto) (H : Hp) (I' : Hp) (β' : Nat → Addr) (μ' : Sto) (H' : Hp) : Prop where
  imm : Sub I I'
  dom : ∀ a, H' a = none → H a = none
  bet : ∀ l, l < n → β' l = β l
  len : n ≤ μ'.length
  fram : ∀ a o, H a = some o → (∀ l, l < μ.length → β l ≠ a) → H' a = some o
  new : ∀ l, n ≤ l → l < μ'.length → H (β' l) = none ∨ ∃ m, n ≤ m ∧ m < μ.length ∧ β' l = β m
  imn : ∀ a o, I' a = some o → I a = some o ∨ H a = none ∨ ∃ l, l < μ.length ∧ β l = a

theorem Ext.refl {n : Nat} {I : Hp} {β : Nat → Addr} {μ : Sto} {H : Hp} (h : n ≤ μ.length) : Ext n I β μ H I β μ H :=
  ⟨Sub.refl _, fun _ h => h, fun _ _ => rfl, h, fun _ _ h _ => h, fun l h1 h2 => .inr ⟨l, h1, h2, rfl⟩, fun _ _ h => .inl h⟩
theorem Ext.trans {n : Nat} {I I1 I2 : Hp} {β β1 β2 : Nat → Addr} {μ μ1 μ2 : Sto} {H H1 H2 : Hp} (hn : n ≤ μ.length) (a : Ext n I β μ H I1 β1 μ1 H1) (b : Ext n I1 β1 μ1 H1 I2 β2 μ2 H2) : Ext n I β μ H I2 β2 μ2 H2 where
  imm := a.imm.trans b.imm
  dom := fun c h => a.dom c (b.dom c h)
  bet := fun l h => (b.bet l h).trans (a.bet l h)
  len := b.len
  fram := fun c o h hc => b.fram c o (a.fram c o h hc) fun l hl => by
    by_cases hln : l < n
    · rw [a.bet l hln]; exact hc l (Nat.lt_of_lt_of_le hln hn)
    · rcases a.new l (Nat.le_of_not_lt hln) hl with z | ⟨m, h1, h2, z⟩
      · intro e; rw [e, h] at z; cases z
      · rw [z]; exact hc m h2
  new := fun l h1 h2 => by
    rcases b.new l h1 h2 with z | ⟨m, h3, h4, z⟩
    · exact .inl (a.dom _ z)
    · rcases a.new m h3 h4 with y | ⟨k, h5, h6, y⟩
      · exact .inl (by rw [z]; exact y)
      · exact .inr ⟨k, h5, h6, z.trans y⟩
  imn := fun c o h => by
    rcases b.imn c o h with z | z | ⟨l, h1, z⟩
    · exact a.imn c o z
    · exact .inr (.inl (a.dom c z))
    · by_cases hln : l < n
      · exact .inr (.inr ⟨l, Nat.lt_of_lt_of_le hln hn, by rw [← a.bet l hln]; exact z⟩)
      · rcases a.new l (Nat.le_of_not_lt hln) h1 with y | ⟨m, _, h3, y⟩
        · exact .inr (.inl (by rw [← z]; exact y))
        · exact .inr (.inr ⟨m, h3, y.symm.trans z⟩)
theorem Ext.lower {n k : Nat} {I I1 : Hp} {β β1 : Nat → Addr} {μ μ1 : Sto} {H H1 : Hp} (hk : k ≤ n) (hn : n ≤ μ.length) (a : Ext n I β μ H I1 β1 μ1 H1) : Ext k I β μ H I1 β1 μ1 H1 where
  imm := a.imm
  dom := a.dom
  bet := fun l h => a.bet l (Nat.lt_of_lt_of_le h hk)
  len := Nat.le_trans hk a.len
  fram := a.fram
  new := fun l h1 h2 => by
    by_cases hln : l < n
    · exact .inr ⟨l, h1, Nat.lt_of_lt_of_le hln hn, a.bet l hln⟩
    · rcases a.new l (Nat.le_of_not_lt hln) h2 with z | ⟨m, h3, h4, z⟩
      · exact .inl z
      · exact .inr ⟨m, Nat.le_trans hk h3, h4, z⟩
  imn := a.imn
/-- composing two expressions' -/
theorem Ext.trans' {I I1 I2 : Hp} {β β1 β2 : Nat → Addr} {μ μ1 μ2 : Sto} {H H1 H2 : Hp} (a : Ext μ.length I β μ H I1 β1 μ1 H1) (b : Ext μ1.length I1 β1 μ1 H1 I2 β2 μ2 H2) : Ext μ.length I β μ H I2 β2 μ2 H2 :=
  a.trans (Nat.le_refl _) (b.lower a.len (Nat.le_refl _))
theorem RV.mono {C : Ctx} {K : PySem.W.Frag} {I I' : Hp} {β β' : Nat → Addr} {n m : Nat} (s : Sub I I') (hb : ∀ l, l < n → β' l = β l) (hm : n ≤ m) : ∀ {v : Val} {w : V}, RV C K I β n v w → RV C K I' β' m v w
  | .d _, _, h => s.rp h
  | .loc l, _, h => ⟨by rw [hb l h.2]; exact h.1, Nat.lt_of_lt_of_le h.2 hm⟩
  | .exn, _, h => h
theorem ER.mono {C : Ctx} {K : PySem.W.Frag} {I I' : Hp} {β β' : Nat → Addr} {ρ : Env} {μ μ' : Sto} {σ : L2.St} (e : ER C K I β ρ μ σ) (s : Sub I I') (hb : ∀ l, l < μ.length → β' l = β l) (hm : μ.length ≤ μ'.length) : ER C K I' β' ρ μ' σ where
  len := e.len
  get := fun i v h => by
    obtain ⟨w, h1, h2⟩ := e.get i v h
    exact ⟨w, h1, h2.mono s hb hm⟩
  ex := fun dd cn pl h => by
    obtain ⟨v, h1, h2⟩ := e.ex dd cn pl h
    exact ⟨v, s _ _ h1, s.rp h2⟩
theorem ER.ext {C : Ctx} {K : PySem.W.Frag} {I I' : Hp} {β β' : Nat → Addr} {ρ : Env} {μ μ' : Sto} {σ : L2.St} {H H' : Hp} (e : ER C K I β ρ μ σ) (x : Ext μ.length I β μ H I' β' μ' H') : ER C K I' β' ρ μ' σ := e.mono x.imm x.bet x.len
/-- a new immutable thing -/
theorem SR.lay {K : PySem.W.Frag} {I : Hp} {β : Nat → Addr} {μ : Sto} {H : Hp} {p : Addr} {o : HO} (h : SR K I β μ H) (hp : H p = none) : SR K (upd I p o) β μ (upd H p o) ∧ Ext μ.length I β μ H (upd I p o) β μ (upd H p o) := by
  have ip : I p = none := by
    cases e : I p with
    | none => rfl
    | some u => have := h.imm p u e; rw [hp] at this; cases this
  have nb : ∀ l, l < μ.length → β l ≠ p := fun l hl e => by
    obtain ⟨c, hc⟩ : ∃ c, μ[l]? = some c := ⟨_, List.getElem?_eq_getElem hl⟩
    have := h.cell l c hc
    cases c with
    | lst xs => obtain ⟨ys, q, _⟩ := this; rw [e, hp] at q; cases q
    | dct kvs => exact this
  refine ⟨⟨fun a u e => ?_, fun l hl => ?_, h.inj, fun l c hc => ?_⟩, ⟨Sub.new ip, fun a e => ?_, fun _ _ => rfl, Nat.le_refl _, fun a u e _ => Sub.new hp a u e, fun l h1 h2 => .inr ⟨l, h1, h2, rfl⟩, fun a u e => ?_⟩⟩
  · by_cases ha : a = p
    · subst ha; rw [upd_same] at e ⊢; exact e
    · rw [upd_ne ha] at e ⊢; exact h.imm a u e
  · rw [upd_ne (nb l hl)]; exact h.fr l hl
  · have hl : l < μ.length := (List.getElem?_eq_some_iff.mp hc).1
    have := h.cell l c hc
    cases c with
    | lst xs => obtain ⟨ys, q, t⟩ := this; exact ⟨ys, by rw [upd_ne (nb l hl)]; exact q, (Sub.new ip).rpAll t⟩
    | dct kvs => exact this
  · by_cases ha : a = p
    · subst ha; exact hp
    · rw [upd_ne ha] at e; exact e
  · by_cases ha : a = p
    · subst ha; exact .inr (.inl hp)
    · rw [upd_ne ha] at e; exact .inl e
end FW


set_option Elab.async false
set_option linter.all false
set_option maxRecDepth 100000
namespace FW
open PySem PySem.Spec PyProof.Rows L2

/-! ### an outcome and what is wanted behind it -/
def ExcAt (C : Ctx) (K : PySem.W.Frag) (I : Hp) (cn : Str) (pl : D) (cls : Value) (dd : Addr) : Prop := (∃ a, C.ca cn = some a ∧ cls = .ref a) ∧ XdAt K I cn pl dd
section
variable {C : Ctx} {K : PySem.W.Frag} {W : WX} {σ : L2.St} {I I1 : Hp} {β β1 : Nat → Addr} {μ μ1 : Sto} {H H1 : Hp} {α γ τ υ : Type}
/-- rel: how a pure result stands at a value -/
abbrev Rel (α τ : Type) := Hp → (Nat → Addr) → Nat → α → τ → Prop
def Res (C : Ctx) (K : PySem.W.Frag) (W : WX) (σ : L2.St) (I : Hp) (β : Nat → Addr) (μ : Sto) (H : Hp) (rel : Rel α τ) (Q : τ → Hp → Prop) : R α → Prop
  | .ok a μ' => ∀ I' β' H' t, Ext μ.length I β μ H I' β' μ' H' → SR K I' β' μ' H' → rel I' β' μ'.length a t → Q t H'
  | .exc cn pl μ' => ∀ I' β' H' cls dd, Ext μ.length I β μ H I' β' μ' H' → SR K I' β' μ' H' → ExcAt C K I' cn pl cls dd → W cls (some dd) σ H'
  | .stuck => False
theorem Res.re {rel : Rel α τ} {Q : τ → Hp → Prop} {r : R α} (x : Ext μ.length I β μ H I1 β1 μ1 H1) (h : Res C K W σ I β μ H rel Q r) : Res C K W σ I1 β1 μ1 H1 rel Q r := by
  cases r with
  | ok a μ' => exact fun I' β' H' t x' s' r' => h I' β' H' t (x.trans' x') s' r'
  | exc cn pl μ' => exact fun I' β' H' cls dd x' s' r' => h I' β' H' cls dd (x.trans' x') s' r'
  | stuck => exact h
theorem Res.bind {rel : Rel α τ} {rel2 : Rel γ υ} {Q : υ → Hp → Prop} {Q1 : τ → Hp → Prop} {r : R α} {g : α → Sto → R γ} (h : Res C K W σ I β μ H rel2 Q (r.bind g))
    (k : ∀ a μ1 I1 β1 H1 t, r = .ok a μ1 → Ext μ.length I β μ H I1 β1 μ1 H1 → SR K I1 β1 μ1 H1 → rel I1 β1 μ1.length a t → Res C K W σ I1 β1 μ1 H1 rel2 Q (g a μ1) → Q1 t H1) : Res C K W σ I β μ H rel Q1 r := by
  cases r with
  | ok a μ' => exact fun I' β' H' t x' s' r' => k a μ' I' β' H' t rfl x' s' r' (Res.re x' h)
  | exc cn pl μ' => exact h
  | stuck => exact h
theorem Res.mono {rel : Rel α τ} {Q Q1 : τ → Hp → Prop} {r : R α} (h : Res C K W σ I β μ H rel Q r) (k : ∀ t H1, Q t H1 → Q1 t H1) : Res C K W σ I β μ H rel Q1 r := by
  cases r with
  | ok a μ' => exact fun I' β' H' t x' s' r' => k _ _ (h I' β' H' t x' s' r')
  | exc cn pl μ' => exact h
  | stuck => exact h
/-- the end of a pure step -/
theorem Res.here {rel : Rel α τ} {Q : τ → Hp → Prop} {a : α} {t : τ} (s : SR K I β μ H) (h : Res C K W σ I β μ H rel Q (.ok a μ)) (r : rel I β μ.length a t) : Q t H :=
  h I β H t (Ext.refl (Nat.le_refl _)) s r
theorem Res.laid {rel : Rel α τ} {Q : τ → Hp → Prop} {a : α} {t : τ} {p : Addr} {o : HO} (s : SR K I β μ H) (hp : H p = none) (h : Res C K W σ I β μ H rel Q (.ok a μ)) (r : rel (upd I p o) β μ.length a t) : Q t (upd H p o) :=
  h _ _ _ t (s.lay hp).2 (s.lay hp).1 r
end

/-! ### the judgements -/
def rBool : Rel Bool Bool := fun _ _ _ a b => a = b
def RVs (C : Ctx) (K : PySem.W.Frag) (I : Hp) (β : Nat → Addr) (n : Nat) : List Val → List V → Prop := Paired (RV C K I β n)
def tE (C : Ctx) (K : PySem.W.Frag) (W : WX) (f : Cd Val) : TE := fun σ H Q => ∃ I β ρ μ, SR K I β μ H ∧ ER C K I β ρ μ σ ∧ Res C K W σ I β μ H (RV C K) Q (f ρ μ)
def tT (C : Ctx) (K : PySem.W.Frag) (W : WX) (f : Cd Bool) : TT := fun σ H Q => ∃ I β ρ μ, SR K I β μ H ∧ ER C K I β ρ μ σ ∧ Res C K W σ I β μ H rBool Q (f ρ μ)
def tA (C : Ctx) (K : PySem.W.Frag) (W : WX) (f : Cd (List Val)) : TA := fun σ H Q => ∃ I β ρ μ, SR K I β μ H ∧ ER C K I β ρ μ σ ∧ Res C K W σ I β μ H (RVs C K) Q (f ρ μ)
/-- e is the code f -/
def SE (C : Ctx) (X : Cx) (W : WX) (f : Cd Val) (e : Expr) : Prop := PE X e (tE C X.K W f)
def ST (C : Ctx) (X : Cx) (W : WX) (f : Cd Bool) (e : Expr) : Prop := PT X e (tT C X.K W f)
def SA (C : Ctx) (X : Cx) (W : WX) (f : Cd (List Val)) (es : List Expr) : Prop := PA X es (tA C X.K W f)
theorem PE_imp {X : Cx} {e : Expr} {t t' : TE} (h : PE X e t) (k : ∀ σ H Q, t' σ H Q → t σ H Q) : PE X e t' := ⟨fun pins s σ H Q I q => h.run pins s σ H Q I (k σ H Q q)⟩
theorem PT_imp {X : Cx} {e : Expr} {t t' : TT} (h : PT X e t) (k : ∀ σ H Q, t' σ H Q → t σ H Q) : PT X e t' := ⟨fun pins s σ H Q I q => h.run pins s σ H Q I (k σ H Q q)⟩
theorem PA_imp {X : Cx} {e : List Expr} {t t' : TA} (h : PA X e t) (k : ∀ σ H Q, t' σ H Q → t σ H Q) : PA X e t' := ⟨fun pos pins s σ H Q I q => h.run pos pins s σ H Q I (k σ H Q q)⟩
theorem PS_imp {X : Cx} {e : Stmt} {t t' : TS} (h : PS X e t) (k : ∀ D σ H, t' D σ H → t D σ H) : PS X e t' := ⟨fun pins s σ H D I q => h.run pins s σ H D I (k D σ H q)⟩
theorem PSs_imp {X : Cx} {e : List Stmt} {t t' : TS} (h : PSs X e t) (k : ∀ D σ H, t' D σ H → t D σ H) : PSs X e t' := ⟨fun pins s σ H D I q => h.run pins s σ H D I (k D σ H q)⟩
theorem PC_imp {X : Cx} {op : CmpOp} {a b : Expr} {t t' : TE} (h : PC X op a b t) (k : ∀ σ H Q, t' σ H Q → t σ H Q) : PC X op a b t' := ⟨fun pins s σ H Q I q => h.run pins s σ H Q I (k σ H Q q)⟩

/-! ### operands that are read -/
inductive RO (K : PySem.W.Frag) (I H : Hp) : V → D → Prop
  | d {v : V} {x : D} : Rp K I v x → RO K I H v x
  | lst {a : Addr} {ys : List V} {xs : List D} : H a = some (.lst ys) → RpAll K I ys xs → RO K I H (.ref a) (.list xs)
theorem RO.inH {K : PySem.W.Frag} {I H : Hp} {v : V} {x : D} (s : Sub I H) : RO K I H v x → Rp K H v x
  | .d h => s.rp h
  | .lst h t => .list (SqL.of h) (s.rpAll t)
theorem RO.of_list {K : PySem.W.Frag} {I H : Hp} {v : V} {xs : List D} (s : Sub I H) (h : RO K I H v (.list xs)) : ∃ a ys, v = .ref a ∧ SqL K H a ys ∧ RpAll K I ys xs := by
  cases h with
  | d h =>
    obtain ⟨a, ys, rfl, h, t⟩ := h.of_list
    exact ⟨a, ys, rfl, s.seqL h, t⟩
  | lst h t => exact ⟨_, _, rfl, SqL.of h, t⟩
theorem RO.of_tup {K : PySem.W.Frag} {I H : Hp} {v : V} {xs : List D} (h : RO K I H v (.tuple xs)) : ∃ a ys, v = .ref a ∧ SqT K I a ys ∧ RpAll K I ys xs := by
  cases h with
  | d h => exact h.of_tup
theorem RO.dat {K : PySem.W.Frag} {I H : Hp} {v : V} {x : D} (h : RO K I H v x) (n : ∀ xs, x ≠ .list xs) : Rp K I v x := by
  cases h with
  | d h => exact h
  | lst _ _ => exact (n _ rfl).elim
theorem RO.of_int {K : PySem.W.Frag} {I H : Hp} {v : V} {i : Int} (h : RO K I H v (.int i)) : v = .int i := (h.dat fun _ e => nomatch e).of_int
theorem RO.of_bool {K : PySem.W.Frag} {I H : Hp} {v : V} {i : Bool} (h : RO K I H v (.bool i)) : v = .bl i := (h.dat fun _ e => nomatch e).of_bool
theorem RO.of_str {K : PySem.W.Frag} {I H : Hp} {v : V} {i : Str} (h : RO K I H v (.str i)) : v = .str i := (h.dat fun _ e => nomatch e).of_str
theorem RO.of_none {K : PySem.W.Frag} {I H : Hp} {v : V} (h : RO K I H v .none) : v = .non := (h.dat fun _ e => nomatch e).of_none
theorem RV.rd {C : Ctx} {K : PySem.W.Frag} {I H : Hp} {β : Nat → Addr} {μ : Sto} (s : SR K I β μ H) : ∀ {v : Val} {w : V} {x : D}, RV C K I β μ.length v w → rd v μ = some x → RO K I H w x
  | .d y, w, x, h, e => by
    cases e
    exact .d h
  | .loc l, w, x, h, e => by
    obtain ⟨rfl, hl⟩ := h
    cases hc : μ[l]? with
    | none => simp only [FW.rd, hc] at e; cases e
    | some c =>
      have q := s.cell l c hc
      cases c with
      | lst xs =>
        simp only [FW.rd, hc] at e
        cases e
        obtain ⟨ys, h1, h2⟩ := q
        exact .lst h1 h2
      | dct kvs => exact q.elim
  | .exn, w, x, h, e => by cases e
/-- what follows a pure step that gives z -/
def Done (K : PySem.W.Frag) (I H : Hp) (z : D) (Q : VK) : Prop := (∀ w, Rp K I w z → Q w H) ∧ ∀ p o w, H p = none → Rp K (upd I p o) w z → Q w (upd H p o)
theorem Done.of {C : Ctx} {K : PySem.W.Frag} {W : WX} {σ : L2.St} {I : Hp} {β : Nat → Addr} {μ : Sto} {H : Hp} {z : D} {Q : VK} (s : SR K I β μ H) (h : Res C K W σ I β μ H (RV C K) Q (.ok (.d z) μ)) : Done K I H z Q :=
  ⟨fun w r => Res.here s h r, fun p o w hp r => Res.laid s hp h r⟩
/-- a place just laid holds it -/
theorem Sub.fresh {I H : Hp} {p : Addr} (s : Sub I H) (hp : H p = none) : I p = none := by
  cases e : I p with
  | none => rfl
  | some u => have := s p u e; rw [hp] at this; cases this
theorem Done.tup {K : PySem.W.Frag} {I H : Hp} {xs : List D} {ys : List V} {Q : VK} (s : Sub I H) (d : Done K I H (.tuple xs) Q) (r : RpAll K I ys xs) : ∀ p, H p = none → Q (.ref p) (upd H p (.tup ys)) :=
  fun p hp => d.2 p _ _ hp (.tup (SqT.of upd_same) ((Sub.new (s.fresh hp)).rpAll r))
theorem Done.lst {K : PySem.W.Frag} {I H : Hp} {xs : List D} {ys : List V} {Q : VK} (s : Sub I H) (d : Done K I H (.list xs) Q) (r : RpAll K I ys xs) : ∀ p, H p = none → Q (.ref p) (upd H p (.lst ys)) :=
  fun p hp => d.2 p _ _ hp (.list (SqL.of upd_same) ((Sub.new (s.fresh hp)).rpAll r))

/-! ### expressions -/
section
variable {C : Ctx} {X : Cx} {W : WX} {pos : Pos}
def cK (x : D) : Cd Val := fun _ μ => .ok (.d x) μ
def cV (i : Nat) : Cd Val := fun ρ μ => match ρ[i]? with
  | some (some v) => .ok v μ
  | _ => .stuck
theorem se_int {i : Int} {j} : SE C X W (cK (.int i)) (.Constant (.int i) j pos) := PE_imp pe_int fun σ H Q h => by
  obtain ⟨I, β, ρ, μ, s, e, h⟩ := h
  exact Res.here s h (Rp.int)
theorem se_bl {b : Bool} {j} : SE C X W (cK (.bool b)) (.Constant (.bool b) j pos) := PE_imp pe_bl fun σ H Q h => by
  obtain ⟨I, β, ρ, μ, s, e, h⟩ := h
  exact Res.here s h (Rp.bool)
theorem se_non {j} : SE C X W (cK .none) (.Constant .none j pos) := PE_imp pe_non fun σ H Q h => by
  obtain ⟨I, β, ρ, μ, s, e, h⟩ := h
  exact Res.here s h (Rp.non)
theorem se_str {x : Str} {j} (hx : PyData.canLay0 (.str x) = true := by decide +kernel) : SE C X W (cK (.str x)) (.Constant (.str x) j pos) := PE_imp pe_str fun σ H Q h => by
  obtain ⟨I, β, ρ, μ, s, e, h⟩ := h
  exact Res.here s h ⟨.str x, hx⟩
theorem se_var (i : Nat) {x : Str} (hN : X.N[i]? = some x := by rfl) (hv : Vis X.env.scope x := by first | exact Or.inl rfl | exact Or.inr (Or.inl rfl) | exact Or.inr (Or.inr rfl)) (hd : (x == ("__debug__" : Str)) = false := by decide)
    (hcd : (x == ("__classdict__" : Str)) = false := by decide) : SE C X W (cV i) (.Name x pos) := PE_imp (pe_var hN hv hd hcd) fun σ H Q h => by
  obtain ⟨I, β, ρ, μ, s, e, h⟩ := h
  unfold cV at h
  cases q : ρ[i]? with
  | none => rw [q] at h; exact h.elim
  | some o =>
    cases o with
    | none => rw [q] at h; exact h.elim
    | some v =>
      rw [q] at h
      obtain ⟨w, h1, h2⟩ := e.get i v q
      exact ⟨w, h1, Res.here s h h2⟩
/-- arguments -/
def aNil : Cd (List Val) := fun _ μ => .ok [] μ
def aCons (f : Cd Val) (g : Cd (List Val)) : Cd (List Val) := fun ρ μ => (f ρ μ).bind fun v μ1 => (g ρ μ1).bind fun vs μ2 => .ok (v :: vs) μ2
theorem sa_nil : SA C X W aNil [] := PA_imp pa_nil fun σ H Q h => by
  obtain ⟨I, β, ρ, μ, s, e, h⟩ := h
  exact Res.here s h .nil
theorem sa_cons {e : Expr} {es : List Expr} {f : Cd Val} {g : Cd (List Val)} (he : SE C X W f e) (hr : SA C X W g es) (hs : starEach (e :: es) X.env = (false, eval e X.env) :: starEach es X.env := by rfl) : SA C X W (aCons f g) (e :: es) := PA_imp (pa_cons he hr hs) fun σ H Q h => by
  obtain ⟨I, β, ρ, μ, s, e, h⟩ := h
  refine ⟨I, β, ρ, μ, s, e, Res.bind h fun v μ1 I1 β1 H1 w q x1 s1 r1 h1 => ?_⟩
  refine ⟨I1, β1, ρ, μ1, s1, e.ext x1, Res.bind h1 fun vs μ2 I2 β2 H2 ws q2 x2 s2 r2 h2 => ?_⟩
  exact Res.here s2 h2 (.cons (r1.mono x2.imm x2.bet x2.len) r2)
def dats : List Val → Option (List D)
  | [] => some []
  | .d x :: r => match dats r with
    | some xs => some (x :: xs)
    | none => none
  | _ :: _ => none
theorem dats_rp {K : PySem.W.Frag} {I : Hp} {β : Nat → Addr} {n : Nat} : ∀ {vs : List Val} {ws : List V} {xs : List D}, RVs C K I β n vs ws → dats vs = some xs → RpAll K I ws xs
  | [], _, _, .nil, e => by cases e; exact .nil
  | .d x :: r, _, _, .cons h t, e => by
    unfold dats at e
    cases q : dats r with
    | none => rw [q] at e; cases e
    | some xs =>
      rw [q] at e
      cases e
      exact .cons h (dats_rp t q)
  | .loc _ :: _, _, _, _, e => by cases e
  | .exn :: _, _, _, _, e => by cases e
def lim (n : Nat) : Bool := decide (n ≤ 100000)
theorem lim_size {n : Nat} (h : lim n = true) : n ≤ sizeLine := Nat.le_trans (of_decide_eq_true h) (by decide)
def cTup (f : Cd (List Val)) : Cd Val := fun ρ μ => (f ρ μ).bind fun vs μ1 => match dats vs with
  | some xs => if lim xs.length = true then .ok (.d (.tuple xs)) μ1 else .stuck
  | none => .stuck
def cLst (f : Cd (List Val)) : Cd Val := fun ρ μ => (f ρ μ).bind fun vs μ1 => match dats vs with
  | some xs => if lim xs.length = true then .ok (.d (.list xs)) μ1 else .stuck
  | none => .stuck
theorem se_tup {es : List Expr} {x1} {f : Cd (List Val)} (h : SA C X W f es) : SE C X W (cTup f) (.Tuple es x1 pos) := PE_imp (pe_tup h) fun σ H Q h => by
  obtain ⟨I, β, ρ, μ, s, e, h⟩ := h
  refine ⟨I, β, ρ, μ, s, e, Res.bind h fun vs μ1 I1 β1 H1 ws q x1 s1 r1 h1 => ?_⟩
  split at h1
  · rename_i xs hx
    split at h1
    · rename_i hl
      have rr := dats_rp r1 hx
      have d := Done.of s1 h1
      exact ⟨by rw [rr.length]; exact lim_size hl, d.tup s1.imm rr⟩
    · exact h1.elim
  · exact h1.elim
theorem se_lst {es : List Expr} {f : Cd (List Val)} (h : SA C X W f es) : SE C X W (cLst f) (.List es pos) := PE_imp (pe_lst h) fun σ H Q h => by
  obtain ⟨I, β, ρ, μ, s, e, h⟩ := h
  refine ⟨I, β, ρ, μ, s, e, Res.bind h fun vs μ1 I1 β1 H1 ws q x1 s1 r1 h1 => ?_⟩
  split at h1
  · rename_i xs hx
    split at h1
    · rename_i hl
      have rr := dats_rp r1 hx
      have d := Done.of s1 h1
      exact ⟨by rw [rr.length]; exact lim_size hl, d.lst s1.imm rr⟩
    · exact h1.elim
  · exact h1.elim
/-! two operands, read -/
def p2 (op : D → D → Option D) (a b : Val) (μ : Sto) : R Val := match rd a μ, rd b μ with
  | some x, some y => match op x y with
    | some z => .ok (.d z) μ
    | none => .stuck
  | _, _ => .stuck
def cOp (op : D → D → Option D) (f g : Cd Val) : Cd Val := fun ρ μ => (f ρ μ).bind fun a μ1 => (g ρ μ1).bind fun b μ2 => p2 op a b μ2
/-- r serves op -/
def Ser (K : PySem.W.Frag) (r : R2) (op : D → D → Option D) : Prop := ∀ (I H : Hp) (v u : V) (x y z : D) (Q : VK), Sub I H → RO K I H v x → RO K I H u y → op x y = some z → Done K I H z Q → r v u H Q
theorem Ser.go {K : PySem.W.Frag} {r : R2} {op : D → D → Option D} (h : Ser K r op) {σ : L2.St} {I H : Hp} {β : Nat → Addr} {μ : Sto} {a b : Val} {v u : V} {Q : VK} (s : SR K I β μ H) (ra : RV C K I β μ.length a v) (rb : RV C K I β μ.length b u)
    (q : Res C K W σ I β μ H (RV C K) Q (p2 op a b μ)) : r v u H Q := by
  unfold p2 at q
  split at q
  · rename_i x y hx hy
    split at q
    · rename_i z hz
      exact h I H v u x y z Q s.imm (ra.rd s hx) (rb.rd s hy) hz (Done.of s q)
    · exact q.elim
  · exact q.elim
theorem op_imp {r : R2} {op : D → D → Option D} {f g : Cd Val} (hs : Ser X.K r op) {σ : L2.St} {H : Hp} {Q : VK} (h : tE C X.K W (cOp op f g) σ H Q) : tOp r (tE C X.K W f) (tE C X.K W g) σ H Q := by
  obtain ⟨I, β, ρ, μ, s, e, h⟩ := h
  refine ⟨I, β, ρ, μ, s, e, Res.bind h fun a μ1 I1 β1 H1 v q x1 s1 r1 h1 => ?_⟩
  refine ⟨I1, β1, ρ, μ1, s1, e.ext x1, Res.bind h1 fun b μ2 I2 β2 H2 u q2 x2 s2 r2 h2 => ?_⟩
  exact hs.go s2 (r1.mono x2.imm x2.bet x2.len) r2 h2
theorem se_op {op : Operator} {r : R2} {o : D → D → Option D} {a b : Expr} {f g : Cd Val} (ho : OpR X (binaryOp op) r) (hs : Ser X.K r o) (ha : SE C X W f a) (hb : SE C X W g b) : SE C X W (cOp o f g) (.BinOp a op b pos) :=
  PE_imp (pe_op ho ha hb) fun σ H Q h => op_imp hs h
theorem se_cmp {op : CmpOp} {r : R2} {o : D → D → Option D} {a b : Expr} {f g : Cd Val} (ho : OpR X (compareOp op) r) (hs : Ser X.K r o) (ha : SE C X W f a) (hb : SE C X W g b) (hm : behindInMarks op b = false) : SE C X W (cOp o f g) (.Compare a [op] [b] pos) :=
  PE_imp (pe_cmpR ho ha hb hm) fun σ H Q h => op_imp hs h
/-! tests -/
def tr (v : Val) (μ : Sto) : R Bool := match rd v μ with
  | some (.bool b) => .ok b μ
  | _ => .stuck
/-- a value that is a bool, as a test -/
def cTr (f : Cd Val) : Cd Bool := fun ρ μ => (f ρ μ).bind tr
theorem tr_imp {f : Cd Val} {σ : L2.St} {H : Hp} {Q : Bool → Hp → Prop} (h : tT C X.K W (cTr f) σ H Q) : tE C X.K W f σ H fun x H' => ∃ k, x = .bl k ∧ Q k H' := by
  obtain ⟨I, β, ρ, μ, s, e, h⟩ := h
  refine ⟨I, β, ρ, μ, s, e, Res.bind h fun a μ1 I1 β1 H1 v q x1 s1 r1 h1 => ?_⟩
  unfold tr at h1
  split at h1
  · rename_i b hb
    exact ⟨b, (r1.rd s1 hb).of_bool, Res.here s1 h1 rfl⟩
  · exact h1.elim
theorem st_cmp {op : CmpOp} {r : R2} {o : D → D → Option D} {a b : Expr} {f g : Cd Val} (ho : OpR X (compareOp op) r) (hs : Ser X.K r o) (ha : SE C X W f a) (hb : SE C X W g b) (hm : behindInMarks op b = false) : ST C X W (cTr (cOp o f g)) (.Compare a [op] [b] pos) :=
  PT_imp (pt_cmpR ho ha hb hm) fun σ H Q h => by
    have h' := tr_imp (X := X) h
    exact op_imp hs h'
theorem st_val {e : Expr} {f : Cd Val} (h : SE C X W f e) (he : ∀ whole, isTrue e X.env whole = (do let v ← whole; standAt e.pos; holding [v] (truthy v)) := by intro _; rfl) : ST C X W (cTr f) e :=
  PT_imp (pt_val h he) fun σ H Q h => tr_imp (X := X) h
end
end FW


set_option Elab.async false
set_option linter.all false
set_option maxRecDepth 100000
namespace FW
open PySem PySem.Spec PyProof.Rows L2

/-! ### operators on data -/
def dAdd : D → D → Option D
  | .int i, .int j => some (.int (i + j))
  | .tuple xs, .tuple ys => if lim (xs.length + ys.length) = true then some (.tuple (xs ++ ys)) else none
  | .list xs, .list ys => if lim (xs.length + ys.length) = true then some (.list (xs ++ ys)) else none
  | _, _ => none
def dSub : D → D → Option D
  | .int i, .int j => some (.int (i - j))
  | _, _ => none
def mulOk (i j : Int) : Bool := decide (-(2 ^ 64) < i ∧ i < 2 ^ 64) || decide (-(2 ^ 64) < j ∧ j < 2 ^ 64)
def dMul : D → D → Option D
  | .int i, .int j => if mulOk i j = true then some (.int (i * j)) else none
  | _, _ => none
def divOk (j : Int) : Bool := decide (0 < j ∧ j < 2 ^ 4000)
def dDiv : D → D → Option D
  | .int i, .int j => if divOk j = true then some (.int (i / j)) else none
  | _, _ => none
def dMod : D → D → Option D
  | .int i, .int j => if decide (0 < j) = true then some (.int (i % j)) else none
  | _, _ => none
def dPow : D → D → Option D
  | .int i, .int j => if decide (0 ≤ j ∧ j ≤ 1000 ∧ -1000 ≤ i ∧ i ≤ 1000) = true then some (.int (i ^ j.toNat)) else none
  | _, _ => none
def dLt : D → D → Option D
  | .int i, .int j => some (.bool (decide (i < j)))
  | _, _ => none
def dLe : D → D → Option D
  | .int i, .int j => some (.bool (decide (i ≤ j)))
  | _, _ => none
def dGt : D → D → Option D
  | .int i, .int j => some (.bool (decide (j < i)))
  | _, _ => none
/-- >= of two tuples of ints -/
def ints? : List D → Option (List Int)
  | [] => some []
  | .int i :: r => match ints? r with
    | some l => some (i :: l)
    | none => none
  | _ :: _ => none
def geI : List Int → List Int → Bool
  | _, [] => true
  | [], _ :: _ => false
  | x :: xs, y :: ys => if x = y then geI xs ys else decide (x ≥ y)
def dGe : D → D → Option D
  | .int i, .int j => some (.bool (decide (j ≤ i)))
  | .tuple xs, .tuple ys => match ints? xs, ints? ys with
    | some a, some b => some (.bool (geI a b))
    | _, _ => none
  | _, _ => none
def shal (x y : D) : Bool := decide (min x.depth y.depth ≤ 64)
def dEq (x y : D) : Option D := if shal x y = true then some (.bool (PyData.eqv x y)) else none
def dNe (x y : D) : Option D := if shal x y = true then some (.bool (!PyData.eqv x y)) else none
def inOk (x : D) (ds : List D) : Bool := decide (min (PyData.depthAll ds) x.depth ≤ 64)
def dIn (x y : D) : Option D := match y with
  | .list ds => if inOk x ds = true then some (.bool (ds.any fun z => PyData.eqv z x)) else none
  | .tuple ds => if inOk x ds = true then some (.bool (ds.any fun z => PyData.eqv z x)) else none
  | _ => none
def dNotIn (x y : D) : Option D := match y with
  | .list ds => if inOk x ds = true then some (.bool (!ds.any fun z => PyData.eqv z x)) else none
  | .tuple ds => if inOk x ds = true then some (.bool (!ds.any fun z => PyData.eqv z x)) else none
  | _ => none
def isNone : D → Bool
  | .none => true
  | _ => false
def dIs (x y : D) : Option D := match x, y with
  | x, .none => some (.bool (isNone x))
  | .bool a, .bool b => some (.bool (decide (a = b)))
  | _, _ => none
def dIsNot (x y : D) : Option D := match x, y with
  | x, .none => some (.bool (!isNone x))
  | .bool a, .bool b => some (.bool (!decide (a = b)))
  | _, _ => none
/-- the item at an index of any sign -/
def dIx : D → D → Option D
  | .list xs, .int i => atI xs i
  | .tuple xs, .int i => atI xs i
  | _, _ => none

section
variable {X : Cx}
/-! list + list, of any two lists that are read -/
def rCatS (K : PySem.W.Frag) : R2 := fun x y H Q => ∃ l b xs zs, x = .ref l ∧ y = .ref b ∧ SqL K H l xs ∧ SqL K H b zs ∧ xs.length + zs.length ≤ sizeLine ∧ ∀ p, H p = none → Q (.ref p) (upd H p (.lst (xs ++ zs)))
theorem op_catS : OpR X (binaryOp .Add) (rCatS X.K) := by
  intro pins s σ H x y v u Q I rx ry h
  obtain ⟨l, b, xs, zs, rfl, rfl, hH, hB, hz, q⟩ := h
  cases rx
  cases ry
  obtain ⟨its, r, ⟨o, n, e, c1, c2, c3⟩, z⟩ := I.list hH
  obtain ⟨its2, r2, ⟨o2, n2, e2, d1, d2, d3⟩, z2⟩ := I.list hB
  have l1 := r.length
  have l2 := r2.length
  obtain ⟨cls, dd, data, sl⟩ := o
  obtain ⟨cls2, dd2, data2, sl2⟩ := o2
  dsimp only at c1 c2 c3 d1 d2 d3
  subst c1; subst c2; subst c3; subst d1; subst d2; subst d3
  refine concat_meets ⟨_, e, rfl⟩ ⟨_, e2, rfl⟩ noFill_list_add seq_list_add PySem.F.slot_list_add PySem.F.entry_list_add (PySem.F.args_list_add_2 _ _) (list_addW l b its.toArray its2.toArray n n2 none none sl sl2 (by rw [List.size_toArray, List.size_toArray]; omega)) ⟨e, e2, ?_⟩
  have ea : its.toArray ++ its2.toArray = (its ++ its2).toArray := by simp
  rw [ea]
  exact ⟨.ref _, _, I.lnew (t' := s.toks) (r.append r2) (by rw [List.length_append]; omega), rfl, q _ I.fresh⟩

/-! the rules serve the operators -/
variable {K : PySem.W.Frag}
theorem ser_add : Ser K (fun x y H Q => rI0 (fun i j => .int (i + j)) x y H Q ∨ (rCatA K x y H Q ∨ rCatS K x y H Q)) dAdd := by
  intro I H v u x y z Q s hx hy hz d
  unfold dAdd at hz
  split at hz
  · cases hz
    exact .inl ⟨_, _, hx.of_int, hy.of_int, d.1 _ Rp.int⟩
  · rename_i xs ys
    split at hz
    · rename_i hl
      cases hz
      obtain ⟨a, vs, rfl, h1, t1⟩ := hx.of_tup
      obtain ⟨b, us, rfl, h2, t2⟩ := hy.of_tup
      have e1 := t1.length
      have e2 := t2.length
      refine .inr (.inl ⟨a, b, vs, us, rfl, rfl, s.seqT h1, s.seqT h2, by rw [e1, e2]; exact lim_size hl, fun e => ?_, fun n e => ?_, fun n1 n2 => d.tup s (t1.app t2)⟩)
      · subst e
        have : xs = [] := List.eq_nil_of_length_eq_zero (by simpa using e1.symm)
        subst this
        exact d.1 _ (.tup h2 t2)
      · subst e
        have : ys = [] := List.eq_nil_of_length_eq_zero (by simpa using e2.symm)
        subst this
        exact d.1 _ (by rw [List.append_nil]; exact .tup h1 t1)
    · cases hz
  · rename_i xs ys
    split at hz
    · rename_i hl
      cases hz
      obtain ⟨a, vs, rfl, h1, t1⟩ := hx.of_list s
      obtain ⟨b, us, rfl, h2, t2⟩ := hy.of_list s
      exact .inr (.inr ⟨a, b, vs, us, rfl, rfl, h1, h2, by rw [t1.length, t2.length]; exact lim_size hl, d.lst s (t1.app t2)⟩)
    · cases hz
  · cases hz
theorem op_addA : OpR X (binaryOp .Add) (fun x y H Q => rI0 (fun i j => .int (i + j)) x y H Q ∨ (rCatA X.K x y H Q ∨ rCatS X.K x y H Q)) := OpR.or op_add (OpR.or op_catA op_catS)
theorem ser_sub : Ser K (rI0 fun i j => .int (i - j)) dSub := by
  intro I H v u x y z Q s hx hy hz d
  unfold dSub at hz
  split at hz
  · cases hz
    exact ⟨_, _, hx.of_int, hy.of_int, d.1 _ Rp.int⟩
  · cases hz
theorem ser_mul : Ser K (rI CMul fun i j => .int (i * j)) dMul := by
  intro I H v u x y z Q s hx hy hz d
  unfold dMul at hz
  split at hz
  · split at hz
    · rename_i hl
      cases hz
      refine ⟨_, _, hx.of_int, hy.of_int, ?_, d.1 _ Rp.int⟩
      unfold mulOk at hl
      rcases Bool.or_eq_true_iff.mp hl with h | h
      · exact .inl (of_decide_eq_true h)
      · exact .inr (of_decide_eq_true h)
    · cases hz
  · cases hz
theorem divOk_W {i j : Int} (h : divOk j = true) : CDivW i j := by
  have h := of_decide_eq_true h
  refine wide_div (b := 4000) h.1 ?_ (by decide) (by decide)
  have := h.2
  omega
theorem ser_div : Ser K (rI CDivW fun i j => .int (i / j)) dDiv := by
  intro I H v u x y z Q s hx hy hz d
  unfold dDiv at hz
  split at hz
  · split at hz
    · rename_i hl
      cases hz
      exact ⟨_, _, hx.of_int, hy.of_int, divOk_W hl, d.1 _ Rp.int⟩
    · cases hz
  · cases hz
theorem ser_mod : Ser K (rI (fun _ j => 0 < j) fun i j => .int (i % j)) dMod := by
  intro I H v u x y z Q s hx hy hz d
  unfold dMod at hz
  split at hz
  · split at hz
    · rename_i hl
      cases hz
      exact ⟨_, _, hx.of_int, hy.of_int, of_decide_eq_true hl, d.1 _ Rp.int⟩
    · cases hz
  · cases hz
theorem ser_pow : Ser K (rI CPow fun i j => .int (i ^ j.toNat)) dPow := by
  intro I H v u x y z Q s hx hy hz d
  unfold dPow at hz
  split at hz
  · split at hz
    · rename_i hl
      cases hz
      have hl := of_decide_eq_true hl
      exact ⟨_, _, hx.of_int, hy.of_int, ⟨hl.1, by omega, by omega⟩, d.1 _ Rp.int⟩
    · cases hz
  · cases hz
theorem ser_lt : Ser K (rI0 fun i j => .bl (decide (i < j))) dLt := by
  intro I H v u x y z Q s hx hy hz d
  unfold dLt at hz
  split at hz
  · cases hz
    exact ⟨_, _, hx.of_int, hy.of_int, d.1 _ Rp.bool⟩
  · cases hz
theorem ser_le : Ser K (rI0 fun i j => .bl (decide (i ≤ j))) dLe := by
  intro I H v u x y z Q s hx hy hz d
  unfold dLe at hz
  split at hz
  · cases hz
    exact ⟨_, _, hx.of_int, hy.of_int, d.1 _ Rp.bool⟩
  · cases hz
theorem ser_gt : Ser K (rI0 fun i j => .bl (decide (j < i))) dGt := by
  intro I H v u x y z Q s hx hy hz d
  unfold dGt at hz
  split at hz
  · cases hz
    exact ⟨_, _, hx.of_int, hy.of_int, d.1 _ Rp.bool⟩
  · cases hz
/-! == and in, of data of any depth -/
def rEq2 (K : PySem.W.Frag) : R2 := fun x y H Q => ∃ d e, Rp K H x d ∧ Rp K H y e ∧ shal d e = true ∧ Q (.bl (PyData.eqv d e)) H
def rNe2 (K : PySem.W.Frag) : R2 := fun x y H Q => ∃ d e, Rp K H x d ∧ Rp K H y e ∧ shal d e = true ∧ Q (.bl (!PyData.eqv d e)) H
theorem op_eq2 (hu : X.A.units + 64 < cLine) : OpR X (compareOp .Eq) (rEq2 X.K) := by
  intro pins s σ H x y v u Q I rx ry h
  obtain ⟨d, e, hd, he, sh, q⟩ := h
  obtain ⟨as, r1⟩ := Dp.reads I d x v hd.dp rx
  obtain ⟨bs, r2⟩ := Dp.reads I e y u he.dp ry
  have sh := of_decide_eq_true sh
  exact SeqAt.compareEq_reads r1 r2 hd.lay he.lay (by omega) ⟨.bl _, H, I, rfl, q⟩
theorem op_ne2 (hu : X.A.units + 64 < cLine) : OpR X (compareOp .NotEq) (rNe2 X.K) := by
  intro pins s σ H x y v u Q I rx ry h
  obtain ⟨d, e, hd, he, sh, q⟩ := h
  obtain ⟨as, r1⟩ := Dp.reads I d x v hd.dp rx
  obtain ⟨bs, r2⟩ := Dp.reads I e y u he.dp ry
  have sh := of_decide_eq_true sh
  exact SeqAt.compareNe_reads r1 r2 hd.lay he.lay (by omega) ⟨.bl _, H, I, rfl, q⟩
theorem ser_eq : Ser K (rEq2 K) dEq := by
  intro I H v u x y z Q s hx hy hz d
  unfold dEq at hz
  split at hz
  · rename_i hl
    cases hz
    exact ⟨_, _, hx.inH s, hy.inH s, hl, d.1 _ Rp.bool⟩
  · cases hz
theorem ser_ne : Ser K (rNe2 K) dNe := by
  intro I H v u x y z Q s hx hy hz d
  unfold dNe at hz
  split at hz
  · rename_i hl
    cases hz
    exact ⟨_, _, hx.inH s, hy.inH s, hl, d.1 _ Rp.bool⟩
  · cases hz
/-! an index -/
theorem atI_rp {I : Hp} {vs : List V} {ds : List D} {i : Int} {x : D} (h : RpAll K I vs ds) (e : atI ds i = some x) : ∃ v, atI vs i = some v ∧ Rp K I v x := by
  unfold atI at e ⊢
  rw [h.length]
  cases q : ixN ds.length i with
  | none => rw [q] at e; cases e
  | some j =>
    rw [q] at e
    exact h.get e
theorem ser_ix : Ser K (rIx K) dIx := by
  intro I H v u x y z Q s hx hy hz d
  unfold dIx at hz
  split at hz
  · obtain ⟨a, vs, rfl, h1, t1⟩ := hx.of_list s
    obtain ⟨w, hw, rw'⟩ := atI_rp t1 hz
    exact .inl ⟨a, vs, _, w, rfl, hy.of_int, h1, hw, d.1 _ rw'⟩
  · obtain ⟨a, vs, rfl, h1, t1⟩ := hx.of_tup
    obtain ⟨w, hw, rw'⟩ := atI_rp t1 hz
    exact .inr (.inl ⟨a, vs, _, w, rfl, hy.of_int, s.seqT h1, hw, d.1 _ rw'⟩)
  · cases hz
end
end FW


set_option Elab.async false
set_option linter.all false
set_option maxRecDepth 100000
set_option maxHeartbeats 4000000
namespace FW
open PySem PySem.Spec PyProof.Rows L2

/-! ### tuple * int for any small int -/
theorem tuple_mul1 (l : Addr) (items : Array Value) (n : Nat) (dd : Option Addr) (sl : Array (Option Value)) (x : Int) (u : Tok) (c0 : (decide (x < -(2 ^ 63)) || decide (x ≥ 2 ^ 63)) = false) (c1 : (items.isEmpty || x == 1) = true) :
    Meets (Builtin.«tuple.__mul__» ⟨[.ref l, .int x u], []⟩) (fun _ R s => s.heap.get? l = some { cls := .type "tuple", dict := dd, data := .seq items n, slots := sl } ∧ R (.ok (.ret (Value.ref l))) s) :=
  .of_wp fun prog w A R s h => by
    obtain ⟨hp, g, d, tk, os⟩ := s
    obtain ⟨hl, h⟩ := h
    have f1 := AutoSeq1.idx_int
    wp_walk using wpAny_loadPart' hl
    repeat (first
      | (refine wpAny_ite_false (decide_eq_false (by rw [c0]; exact Bool.false_ne_true)) ?_; wp_walk using wpAny_loadPart' hl)
      | (refine wpAny_ite_true (decide_eq_true c1) ?_; wp_walk using wpAny_loadPart' hl))
    exact ⟨_, rfl, h⟩
theorem tuple_mul0 (l : Addr) (items : Array Value) (n : Nat) (dd : Option Addr) (sl : Array (Option Value)) (x : Int) (u : Tok) (c0 : (decide (x < -(2 ^ 63)) || decide (x ≥ 2 ^ 63)) = false) (c1 : (items.isEmpty || x == 1) = false) (c2 : (decide (x ≤ 0) || items.isEmpty) = true) :
    Meets (Builtin.«tuple.__mul__» ⟨[.ref l, .int x u], []⟩) (fun _ R s => s.heap.get? l = some { cls := .type "tuple", dict := dd, data := .seq items n, slots := sl } ∧
      R (.ok (.ret (Value.ref s.heap.objs.size))) { s with heap := s.heap.push { cls := Value.type "tuple", data := Data.seq #[] }, toks := s.toks }) :=
  .of_wp fun prog w A R s h => by
    obtain ⟨hp, g, d, tk, os⟩ := s
    obtain ⟨hl, h⟩ := h
    have f1 := AutoSeq1.idx_int
    wp_walk using wpAny_loadPart' hl
    repeat (first
      | (refine wpAny_ite_false (decide_eq_false (by rw [c0]; exact Bool.false_ne_true)) ?_; wp_walk using wpAny_loadPart' hl)
      | (refine wpAny_ite_false (decide_eq_false (by rw [c1]; exact Bool.false_ne_true)) ?_; wp_walk using wpAny_loadPart' hl)
      | (refine wpAny_ite_true (decide_eq_true c2) ?_; wp_walk using wpAny_loadPart' hl))
    exact ⟨_, rfl, h⟩
def rRepA (K : PySem.W.Frag) : R2 := fun x y H Q => ∃ l k xs, x = .ref l ∧ y = .int k ∧ SqT K H l xs ∧ -1000 ≤ k ∧ k ≤ 1000 ∧ xs.length ≤ 1000 ∧
  ((xs = [] ∨ k = 1) → Q (.ref l) H) ∧ (xs ≠ [] → k ≤ 0 → ∀ p, H p = none → Q (.ref p) (upd H p (.tup []))) ∧
  (xs ≠ [] → 2 ≤ k → ∀ p, H p = none → Q (.ref p) (upd H p (.tup (List.replicate k.toNat xs).flatten)))
section
variable {X : Cx}
theorem op_repA : OpR X (binaryOp .Mult) (rRepA X.K) := by
  intro pins s σ H x y v u Q I rx ry h
  obtain ⟨l, k, xs, rfl, rfl, hT, h1, h2, hz, q1, q2, q3⟩ := h
  by_cases hbig : xs ≠ [] ∧ 2 ≤ k
  · exact op_repT pins s σ H _ _ v u Q I rx ry ⟨l, k, xs, rfl, rfl, hT, hbig.1, hbig.2, h2, hz, q3 hbig.1 hbig.2⟩
  cases rx
  obtain ⟨t, rfl⟩ := ry
  obtain ⟨its, r, ⟨⟨cls, dd, data, sl⟩, ho, hc, n, hd⟩, hs⟩ := I.tuple hT
  simp only at hc hd
  subst hc hd
  have hle : its.length = xs.length := r.length.symm
  have c0 : (decide (k < -(2 ^ 63)) || decide (k ≥ 2 ^ 63)) = false := by
    rw [decide_eq_false (by omega), decide_eq_false (by omega)] <;> rfl
  by_cases hsame : xs = [] ∨ k = 1
  · have c1 : (its.toArray.isEmpty || k == 1) = true := by
      rcases hsame with e | e
      · subst e
        have : its = [] := List.eq_nil_of_length_eq_zero (by simpa using hle)
        subst this
        rfl
      · subst e
        rw [Bool.or_eq_true]
        exact .inr rfl
    refine wpAny_binaryOp_repeat_ref (T := "tuple") (U := "int") (by decide) ⟨_, ho, rfl⟩ (fun s' => typeIs_int s' k t) noFill_tuple_mul PySem.F.fills_int_mul PySem.F.slot_int_rmul repeat_tuple PySem.F.slot_int_index.lookup
      (call_meets PySem.F.slot_int_rmul (typeIs_int s k t) PySem.F.entry_int_rmul (PySem.F.args_int_rmul_2 _ _) (int_rmul_tuple k t l its.toArray n dd sl)
        ⟨ho, rfl, ⟨_, ho, rfl⟩, call_meets PySem.F.slot_tuple_mul ⟨_, ho, rfl⟩ PySem.F.entry_tuple_mul (PySem.F.args_tuple_mul_2 _ _) (tuple_mul1 l its.toArray n dd sl k t c0 c1) ⟨ho, ?_⟩⟩)
    exact ⟨.ref l, H, I, rfl, q1 hsame⟩
  · have hne : xs ≠ [] := fun e => hsame (.inl e)
    have hk1 : k ≠ 1 := fun e => hsame (.inr e)
    have hk : k ≤ 0 := by
      by_cases z : 2 ≤ k
      · exact (hbig ⟨hne, z⟩).elim
      · omega
    have hn : its ≠ [] := fun e => hne (by
      rw [e] at hle
      exact List.eq_nil_of_length_eq_zero hle.symm)
    have hi : its.toArray.isEmpty = false := by
      cases its with
      | nil => exact absurd rfl hn
      | cons a b => rfl
    have c1 : (its.toArray.isEmpty || k == 1) = false := by
      rw [hi, Bool.false_or]
      exact beq_eq_false_iff_ne.mpr hk1
    have c2 : (decide (k ≤ 0) || its.toArray.isEmpty) = true := by
      rw [hi, Bool.or_false]
      exact decide_eq_true hk
    refine wpAny_binaryOp_repeat_ref (T := "tuple") (U := "int") (by decide) ⟨_, ho, rfl⟩ (fun s' => typeIs_int s' k t) noFill_tuple_mul PySem.F.fills_int_mul PySem.F.slot_int_rmul repeat_tuple PySem.F.slot_int_index.lookup
      (call_meets PySem.F.slot_int_rmul (typeIs_int s k t) PySem.F.entry_int_rmul (PySem.F.args_int_rmul_2 _ _) (int_rmul_tuple k t l its.toArray n dd sl)
        ⟨ho, rfl, ⟨_, ho, rfl⟩, call_meets PySem.F.slot_tuple_mul ⟨_, ho, rfl⟩ PySem.F.entry_tuple_mul (PySem.F.args_tuple_mul_2 _ _) (tuple_mul0 l its.toArray n dd sl k t c0 c1 c2) ⟨ho, ?_⟩⟩)
    refine ⟨.ref s.heap.objs.size, _, I.laid (t' := s.toks) (o := .tup []) (fun b ob q => Heap.get?_push_of_some _ q) (Nat.le_refl _) ?_, rfl, q2 hne hk _ (I.hok.fresh (Nat.le_refl _))⟩
    exact ⟨by decide, [], .nil, IsTup.new _ _⟩
end
/-- a list or tuple display times an int -/
def reps (k : Int) (xs : List D) : List D := (List.replicate k.toNat xs).flatten
def dMulA : D → D → Option D
  | .int i, .int j => if mulOk i j = true then some (.int (i * j)) else none
  | .tuple xs, .int k => if decide (-1000 ≤ k ∧ k ≤ 1000 ∧ xs.length ≤ 1000) = true then some (.tuple (reps k xs)) else none
  | _, _ => none
theorem RpAll.rep {K : PySem.W.Frag} {I : Hp} {vs : List V} {ds : List D} (h : RpAll K I vs ds) : ∀ k : Nat, RpAll K I (List.replicate k vs).flatten (List.replicate k ds).flatten
  | 0 => .nil
  | k + 1 => by
    rw [List.replicate_succ, List.replicate_succ, List.flatten_cons, List.flatten_cons]
    exact h.app (h.rep k)
section
variable {X : Cx} {K : PySem.W.Frag}
theorem ser_mulA : Ser K (fun x y H Q => rI CMul (fun i j => .int (i * j)) x y H Q ∨ rRepA K x y H Q) dMulA := by
  intro I H v u x y z Q s hx hy hz d
  unfold dMulA at hz
  split at hz
  · split at hz
    · rename_i hl
      cases hz
      refine .inl ⟨_, _, hx.of_int, hy.of_int, ?_, d.1 _ Rp.int⟩
      unfold mulOk at hl
      rcases Bool.or_eq_true_iff.mp hl with h | h
      · exact .inl (of_decide_eq_true h)
      · exact .inr (of_decide_eq_true h)
    · cases hz
  · rename_i xs k
    split at hz
    · rename_i hl
      cases hz
      have hl := of_decide_eq_true hl
      obtain ⟨a, vs, rfl, h1, t1⟩ := hx.of_tup
      refine .inr ⟨a, k, vs, rfl, hy.of_int, s.seqT h1, hl.1, hl.2.1, by rw [t1.length]; exact hl.2.2, fun e => ?_, fun n hk p hp => ?_, fun n hk => d.tup s (t1.rep _)⟩
      · refine d.1 _ ?_
        rcases e with e | e
        · subst e
          have : xs = [] := List.eq_nil_of_length_eq_zero (by simpa using t1.length.symm)
          subst this
          have z : reps k [] = [] := by simp [reps]
          rw [z]
          exact .tup h1 t1
        · subst e
          have z : reps 1 xs = xs := by simp [reps]
          rw [z]
          exact .tup h1 t1
      · have z : reps k xs = [] := by
          have : k.toNat = 0 := by omega
          simp [reps, this]
        rw [z] at d
        exact d.tup s .nil p hp
    · cases hz
  · cases hz
theorem op_mulA : OpR X (binaryOp .Mult) (fun x y H Q => rI CMul (fun i j => .int (i * j)) x y H Q ∨ rRepA X.K x y H Q) := OpR.or op_mul op_repA
/-- a list (one that can be written) times an int -/
def dRepL : D → D → Option D
  | .list xs, .int k => if decide (-1000 ≤ k ∧ k ≤ 1000 ∧ xs.length ≤ 1000) = true then some (.list (reps k xs)) else none
  | _, _ => none
/-! in, not in -/
def rIn2 (K : PySem.W.Frag) (neg : Bool) : R2 := fun x y H Q => ∃ d ds, Rp K H x d ∧ (Rp K H y (.list ds) ∨ Rp K H y (.tuple ds)) ∧ decide (min (PyData.depthAll ds) d.depth ≤ 64) = true ∧ Q (.bl (if neg = true then !ds.any fun z => PyData.eqv z d else ds.any fun z => PyData.eqv z d)) H
theorem op_in2 (hu : X.A.units + 65 < cLine) : OpR X (compareOp .In) (rIn2 X.K false) := by
  intro pins s σ H x y v u Q I rx ry h
  obtain ⟨d, ds, hd, he, sh, q⟩ := h
  have sh := of_decide_eq_true sh
  obtain ⟨as, r1⟩ := Dp.reads I d x v hd.dp rx
  rcases he with he | he
  · obtain ⟨bs, r2⟩ := Dp.reads I (.list ds) y u he.dp ry
    exact SeqAt.in_list_reads r2 r1 (by simpa [PyData.canLay0] using he.lay) hd.lay (by omega) ⟨.bl _, H, I, rfl, q⟩
  · obtain ⟨bs, r2⟩ := Dp.reads I (.tuple ds) y u he.dp ry
    exact SeqAt.in_tuple_reads r2 r1 (by simpa [PyData.canLay0] using he.lay) hd.lay (by omega) ⟨.bl _, H, I, rfl, q⟩
theorem op_nin2 (hu : X.A.units + 65 < cLine) : OpR X (compareOp .NotIn) (rIn2 X.K true) := by
  intro pins s σ H x y v u Q I rx ry h
  obtain ⟨d, ds, hd, he, sh, q⟩ := h
  have sh := of_decide_eq_true sh
  obtain ⟨as, r1⟩ := Dp.reads I d x v hd.dp rx
  rcases he with he | he
  · obtain ⟨bs, r2⟩ := Dp.reads I (.list ds) y u he.dp ry
    exact SeqAt.notIn_list_reads r2 r1 (by simpa [PyData.canLay0] using he.lay) hd.lay (by omega) ⟨.bl _, H, I, rfl, q⟩
  · obtain ⟨bs, r2⟩ := Dp.reads I (.tuple ds) y u he.dp ry
    exact SeqAt.notIn_tuple_reads r2 r1 (by simpa [PyData.canLay0] using he.lay) hd.lay (by omega) ⟨.bl _, H, I, rfl, q⟩
end
end FW


set_option Elab.async false
set_option linter.all false
set_option maxRecDepth 100000
set_option maxHeartbeats 1000000
namespace FW
open PySem PySem.Spec PyProof.Rows L2
section
variable {C : Ctx} {X : Cx} {W : WX} {pos : Pos} {K : PySem.W.Frag}
theorem ser_in : Ser K (rIn2 K false) dIn := by
  intro I H v u x y z Q s hx hy hz d
  unfold dIn at hz
  split at hz
  · split at hz
    · rename_i hl
      cases hz
      exact ⟨_, _, hx.inH s, .inl (hy.inH s), hl, d.1 _ Rp.bool⟩
    · cases hz
  · split at hz
    · rename_i hl
      cases hz
      exact ⟨_, _, hx.inH s, .inr (hy.inH s), hl, d.1 _ Rp.bool⟩
    · cases hz
  · cases hz
theorem ser_nin : Ser K (rIn2 K true) dNotIn := by
  intro I H v u x y z Q s hx hy hz d
  unfold dNotIn at hz
  split at hz
  · split at hz
    · rename_i hl
      cases hz
      exact ⟨_, _, hx.inH s, .inl (hy.inH s), hl, d.1 _ Rp.bool⟩
    · cases hz
  · split at hz
    · rename_i hl
      cases hz
      exact ⟨_, _, hx.inH s, .inr (hy.inH s), hl, d.1 _ Rp.bool⟩
    · cases hz
  · cases hz
/-! is, is not -/
def rIs2 : R2 := fun x y H Q => (y = .non ∧ Q (.bl (decide (x = .non))) H) ∨ rIsB x y H Q
def rIsNot2 : R2 := fun x y H Q => (y = .non ∧ Q (.bl (!decide (x = .non))) H) ∨ rNotB x y H Q
theorem op_is2 : OpR X (compareOp .Is) rIs2 := OpR.or op_isN op_isBl
theorem op_isnot2 : OpR X (compareOp .IsNot) rIsNot2 := OpR.or op_notN op_notBl
theorem isNone_ro {I H : Hp} {v : V} {x : D} (h : RO K I H v x) : decide (v = .non) = isNone x := by
  cases h with
  | d h =>
    rcases h.ref with ⟨a, rfl⟩ | ⟨rfl, rfl⟩ | ⟨b, rfl, rfl⟩ | ⟨i, rfl, rfl⟩ | ⟨w, rfl, rfl⟩
    · have : x ≠ .none := fun e => by subst e; exact nomatch h.of_none
      cases x <;> first | rfl | exact (this rfl).elim
    all_goals rfl
  | lst _ _ => rfl
theorem ser_is : Ser K rIs2 dIs := by
  intro I H v u x y z Q s hx hy hz d
  unfold dIs at hz
  split at hz
  · cases hz
    exact .inl ⟨hy.of_none, by rw [isNone_ro hx]; exact d.1 _ Rp.bool⟩
  · cases hz
    exact .inr ⟨_, _, hx.of_bool, hy.of_bool, d.1 _ Rp.bool⟩
  · cases hz
theorem ser_isnot : Ser K rIsNot2 dIsNot := by
  intro I H v u x y z Q s hx hy hz d
  unfold dIsNot at hz
  split at hz
  · cases hz
    exact .inl ⟨hy.of_none, by rw [isNone_ro hx]; exact d.1 _ Rp.bool⟩
  · cases hz
    exact .inr ⟨_, _, hx.of_bool, hy.of_bool, d.1 _ Rp.bool⟩
  · cases hz
/-! one operand -/
def p1 (op : D → Option D) (a : Val) (μ : Sto) : R Val := match rd a μ with
  | some x => match op x with
    | some z => .ok (.d z) μ
    | none => .stuck
  | none => .stuck
def cUn (op : D → Option D) (f : Cd Val) : Cd Val := fun ρ μ => (f ρ μ).bind fun a μ1 => p1 op a μ1
def dNeg : D → Option D
  | .int i => some (.int (-i))
  | _ => none
theorem se_neg {a : Expr} {f : Cd Val} (ha : SE C X W f a) : SE C X W (cUn dNeg f) (.UnaryOp .USub a pos) := PE_imp (pe_un un_neg ha) fun σ H Q h => by
  obtain ⟨I, β, ρ, μ, s, e, h⟩ := h
  refine ⟨I, β, ρ, μ, s, e, Res.bind h fun a μ1 I1 β1 H1 v q x1 s1 r1 h1 => ?_⟩
  unfold p1 at h1
  split at h1
  · rename_i x hx
    unfold dNeg at h1
    split at h1
    · rename_i z hz
      split at hz
      · cases hz
        exact ⟨_, (r1.rd s1 hx).of_int, Res.here s1 h1 Rp.int⟩
      · cases hz
    · exact h1.elim
  · exact h1.elim
/-! and, or, not as values -/
def bo (v : Val) (μ : Sto) : Option Bool := match rd v μ with
  | some (.bool b) => some b
  | _ => none
theorem bo_rd {v : Val} {μ : Sto} {b : Bool} (h : bo v μ = some b) : rd v μ = some (.bool b) := by
  unfold bo at h
  split at h
  · rename_i e; cases h; exact e
  · cases h
def cAnd (f g : Cd Val) : Cd Val := fun ρ μ => (f ρ μ).bind fun a μ1 => match bo a μ1 with
  | some true => g ρ μ1
  | some false => .ok (.d (.bool false)) μ1
  | none => .stuck
def cOr (f g : Cd Val) : Cd Val := fun ρ μ => (f ρ μ).bind fun a μ1 => match bo a μ1 with
  | some false => g ρ μ1
  | some true => .ok (.d (.bool true)) μ1
  | none => .stuck
def cNot (f : Cd Val) : Cd Val := fun ρ μ => (f ρ μ).bind fun a μ1 => match bo a μ1 with
  | some b => .ok (.d (.bool (!b))) μ1
  | none => .stuck
theorem se_one {op} {a : Expr} {f : Cd Val} (h : SE C X W f a) : SE C X W f (.BoolOp op [a] pos) := pe_one h
theorem se_and {a b : Expr} {rest : List Expr} {f g : Cd Val} (ha : SE C X W f a) (hb : SE C X W g (.BoolOp .And (b :: rest) pos)) : SE C X W (cAnd f g) (.BoolOp .And (a :: b :: rest) pos) := PE_imp (pe_and ha hb) fun σ H Q h => by
  obtain ⟨I, β, ρ, μ, s, e, h⟩ := h
  refine ⟨I, β, ρ, μ, s, e, Res.bind h fun a μ1 I1 β1 H1 v q x1 s1 r1 h1 => ?_⟩
  split at h1
  · rename_i hb
    exact ⟨true, (r1.rd s1 (bo_rd hb)).of_bool, iteT ⟨I1, β1, ρ, μ1, s1, e.ext x1, h1⟩⟩
  · rename_i hb
    exact ⟨false, (r1.rd s1 (bo_rd hb)).of_bool, iteF (Res.here s1 h1 Rp.bool)⟩
  · exact h1.elim
theorem se_or {a b : Expr} {rest : List Expr} {f g : Cd Val} (ha : SE C X W f a) (hb : SE C X W g (.BoolOp .Or (b :: rest) pos)) : SE C X W (cOr f g) (.BoolOp .Or (a :: b :: rest) pos) := PE_imp (pe_or ha hb) fun σ H Q h => by
  obtain ⟨I, β, ρ, μ, s, e, h⟩ := h
  refine ⟨I, β, ρ, μ, s, e, Res.bind h fun a μ1 I1 β1 H1 v q x1 s1 r1 h1 => ?_⟩
  split at h1
  · rename_i hb
    exact ⟨false, (r1.rd s1 (bo_rd hb)).of_bool, iteF ⟨I1, β1, ρ, μ1, s1, e.ext x1, h1⟩⟩
  · rename_i hb
    exact ⟨true, (r1.rd s1 (bo_rd hb)).of_bool, iteT (Res.here s1 h1 Rp.bool)⟩
  · exact h1.elim
theorem se_not {a : Expr} {f : Cd Val} (ha : SE C X W f a) : SE C X W (cNot f) (.UnaryOp .Not a pos) := PE_imp (pe_not ha) fun σ H Q h => by
  obtain ⟨I, β, ρ, μ, s, e, h⟩ := h
  refine ⟨I, β, ρ, μ, s, e, Res.bind h fun a μ1 I1 β1 H1 v q x1 s1 r1 h1 => ?_⟩
  split at h1
  · rename_i b hb
    exact ⟨b, (r1.rd s1 (bo_rd hb)).of_bool, Res.here s1 h1 Rp.bool⟩
  · exact h1.elim
/-! tests -/
def SW (C : Ctx) (X : Cx) (W : WX) (f : Cd Bool) (e : Expr) : Prop := PW X e (tT C X.K W f)
theorem PW_imp {X : Cx} {e : Expr} {t t' : TT} (h : PW X e t) (k : ∀ σ H Q, t' σ H Q → t σ H Q) : PW X e t' := ⟨fun wh pins s σ H Q I q => h.run wh pins s σ H Q I (k σ H Q q)⟩
def tAndC (f g : Cd Bool) : Cd Bool := fun ρ μ => (f ρ μ).bind fun a μ1 => match a with
  | true => g ρ μ1
  | false => .ok false μ1
def tOrC (f g : Cd Bool) : Cd Bool := fun ρ μ => (f ρ μ).bind fun a μ1 => match a with
  | false => g ρ μ1
  | true => .ok true μ1
def tNotC (f : Cd Bool) : Cd Bool := fun ρ μ => (f ρ μ).bind fun a μ1 => .ok (!a) μ1
theorem sw_and1 {a : Expr} {f : Cd Bool} (h : ST C X W f a) : SW C X W f (.BoolOp .And [a] pos) := pw_and1 h
theorem sw_or1 {a : Expr} {f : Cd Bool} (h : ST C X W f a) : SW C X W f (.BoolOp .Or [a] pos) := pw_or1 h
theorem sw_and {a b : Expr} {rest : List Expr} {f g : Cd Bool} (ha : ST C X W f a) (hb : SW C X W g (.BoolOp .And (b :: rest) pos)) : SW C X W (tAndC f g) (.BoolOp .And (a :: b :: rest) pos) := PW_imp (pw_and ha hb) fun σ H Q h => by
  obtain ⟨I, β, ρ, μ, s, e, h⟩ := h
  refine ⟨I, β, ρ, μ, s, e, Res.bind h fun a μ1 I1 β1 H1 v q x1 s1 r1 h1 => ?_⟩
  cases r1
  split at h1
  · exact iteT ⟨I1, β1, ρ, μ1, s1, e.ext x1, h1⟩
  · exact iteF (Res.here s1 h1 rfl)
theorem sw_or {a b : Expr} {rest : List Expr} {f g : Cd Bool} (ha : ST C X W f a) (hb : SW C X W g (.BoolOp .Or (b :: rest) pos)) : SW C X W (tOrC f g) (.BoolOp .Or (a :: b :: rest) pos) := PW_imp (pw_or ha hb) fun σ H Q h => by
  obtain ⟨I, β, ρ, μ, s, e, h⟩ := h
  refine ⟨I, β, ρ, μ, s, e, Res.bind h fun a μ1 I1 β1 H1 v q x1 s1 r1 h1 => ?_⟩
  cases r1
  split at h1
  · exact iteF ⟨I1, β1, ρ, μ1, s1, e.ext x1, h1⟩
  · exact iteT (Res.here s1 h1 rfl)
theorem st_w {e : Expr} {f : Cd Bool} (h : SW C X W f e) : ST C X W f e := PW.pt h
theorem st_not {a : Expr} {f : Cd Bool} (h : ST C X W f a) : ST C X W (tNotC f) (.UnaryOp .Not a pos) := PT_imp (pt_not h) fun σ H Q h => by
  obtain ⟨I, β, ρ, μ, s, e, h⟩ := h
  refine ⟨I, β, ρ, μ, s, e, Res.bind h fun a μ1 I1 β1 H1 v q x1 s1 r1 h1 => ?_⟩
  cases r1
  exact Res.here s1 h1 rfl
/-- truth of any value -/
def truB : D → Option Bool
  | .none => some false
  | .bool b => some b
  | .int i => some (i != 0)
  | .list xs => some (!xs.isEmpty)
  | .tuple xs => some (!xs.isEmpty)
  | _ => none
def cTru (f : Cd Val) : Cd Bool := fun ρ μ => (f ρ μ).bind fun v μ1 => match rd v μ1 with
  | some x => match truB x with
    | some b => .ok b μ1
    | none => .stuck
  | none => .stuck
theorem isEmpty_len {α β : Type} {l : List α} {m : List β} (h : l.length = m.length) : l.isEmpty = m.isEmpty := by
  cases l <;> cases m <;> first | rfl | simp at h
theorem truV_of {I H : Hp} {v : V} {x : D} {b : Bool} (s : Sub I H) (h : RO K I H v x) (e : truB x = some b) : TruV K v H b := by
  cases x with
  | none => cases e; rw [h.of_none]; rfl
  | bool c => cases e; rw [h.of_bool]; rfl
  | int i => cases e; rw [h.of_int]; rfl
  | str _ => cases e
  | list xs =>
    cases e
    obtain ⟨a, ys, rfl, h1, t1⟩ := h.of_list s
    exact .inl ⟨ys, h1, by rw [isEmpty_len t1.length]⟩
  | tuple xs =>
    cases e
    obtain ⟨a, ys, rfl, h1, t1⟩ := h.of_tup
    exact .inr (.inl ⟨ys, s.seqT h1, by rw [isEmpty_len t1.length]⟩)
  | dict _ => cases e
theorem st_tru {e : Expr} {f : Cd Val} (h : SE C X W f e) (he : ∀ whole, isTrue e X.env whole = (do let v ← whole; standAt e.pos; holding [v] (truthy v)) := by intro _; rfl) : ST C X W (cTru f) e := PT_imp (pt_truth h he) fun σ H Q h => by
  obtain ⟨I, β, ρ, μ, s, e, h⟩ := h
  refine ⟨I, β, ρ, μ, s, e, Res.bind h fun a μ1 I1 β1 H1 v q x1 s1 r1 h1 => ?_⟩
  split at h1
  · rename_i x hx
    split at h1
    · rename_i b hb
      exact ⟨b, truV_of s1.imm (r1.rd s1 hx) hb, Res.here s1 h1 rfl⟩
    · exact h1.elim
  · exact h1.elim
/-! a if t else b -/
def cIf (t : Cd Bool) (f g : Cd Val) : Cd Val := fun ρ μ => (t ρ μ).bind fun c μ1 => match c with
  | true => f ρ μ1
  | false => g ρ μ1
theorem se_if {c a b : Expr} {t : Cd Bool} {f g : Cd Val} (hc : ST C X W t c) (ha : SE C X W f a) (hb : SE C X W g b) : SE C X W (cIf t f g) (.IfExp c a b pos) := PE_imp (pe_ifExp hc ha hb) fun σ H Q h => by
  obtain ⟨I, β, ρ, μ, s, e, h⟩ := h
  refine ⟨I, β, ρ, μ, s, e, Res.bind h fun a μ1 I1 β1 H1 v q x1 s1 r1 h1 => ?_⟩
  cases r1
  split at h1
  · exact iteT ⟨I1, β1, ρ, μ1, s1, e.ext x1, h1⟩
  · exact iteF ⟨I1, β1, ρ, μ1, s1, e.ext x1, h1⟩
/-! a op b op c -/
def cCh (o o' : D → D → Option D) (f g k : Cd Val) : Cd Val := fun ρ μ => (f ρ μ).bind fun a μ1 => (g ρ μ1).bind fun b μ2 => (p2 o a b μ2).bind fun z μ3 => match bo z μ3 with
  | some true => (k ρ μ3).bind fun c μ4 => p2 o' b c μ4
  | some false => .ok (.d (.bool false)) μ3
  | none => .stuck
theorem ch_imp {r r' : R2} {o o' : D → D → Option D} {f g k : Cd Val} (hs : Ser X.K r o) (hs' : Ser X.K r' o') {σ : L2.St} {H : Hp} {Q : VK} (h : tE C X.K W (cCh o o' f g k) σ H Q) : tChain r r' (tE C X.K W f) (tE C X.K W g) (tE C X.K W k) σ H Q := by
  obtain ⟨I, β, ρ, μ, s, e, h⟩ := h
  refine ⟨I, β, ρ, μ, s, e, Res.bind h fun a μ1 I1 β1 H1 v q x1 s1 r1 h1 => ?_⟩
  refine ⟨I1, β1, ρ, μ1, s1, e.ext x1, Res.bind h1 fun b μ2 I2 β2 H2 u q2 x2 s2 r2 h2 => ?_⟩
  have h3 : Res C X.K W σ I2 β2 μ2 H2 (RV C X.K) (fun z H3 => ∃ k', z = .bl k' ∧ (if k' = true then tE C X.K W k σ H3 fun w' H4 => r' u w' H4 Q else Q (.bl false) H3)) (p2 o a b μ2) := by
    refine Res.bind h2 fun z μ3 I3 β3 H3 w q3 x3 s3 r3 h3 => ?_
    split at h3
    · rename_i hb
      refine ⟨true, (r3.rd s3 (bo_rd hb)).of_bool, iteT ⟨I3, β3, ρ, μ3, s3, ((e.ext x1).ext x2).ext x3, Res.bind h3 fun c μ4 I4 β4 H4 w4 q4 x4 s4 r4 h4 => ?_⟩⟩
      exact hs'.go s4 ((r2.mono x3.imm x3.bet x3.len).mono x4.imm x4.bet x4.len) r4 h4
    · rename_i hb
      exact ⟨false, (r3.rd s3 (bo_rd hb)).of_bool, iteF (Res.here s3 h3 Rp.bool)⟩
    · exact h3.elim
  exact hs.go s2 (r1.mono x2.imm x2.bet x2.len) r2 h3
theorem se_ch {op op' : CmpOp} {r r' : R2} {o o' : D → D → Option D} {a b c : Expr} {f g k : Cd Val} (ho : OpR X (compareOp op) r) (hs : Ser X.K r o) (ho' : OpR X (compareOp op') r') (hs' : Ser X.K r' o') (ha : SE C X W f a) (hb : SE C X W g b) (hc : SE C X W k c)
    (hm : lastMarks [op, op'] [b, c] = false := by with_unfolding_all rfl) : SE C X W (cCh o o' f g k) (.Compare a [op, op'] [b, c] pos) := PE_imp (pe_chain ho ho' ha hb hc hm) fun σ H Q h => ch_imp hs hs' h
theorem st_ch {op op' : CmpOp} {r r' : R2} {o o' : D → D → Option D} {a b c : Expr} {f g k : Cd Val} (ho : OpR X (compareOp op) r) (hs : Ser X.K r o) (ho' : OpR X (compareOp op') r') (hs' : Ser X.K r' o') (ha : SE C X W f a) (hb : SE C X W g b) (hc : SE C X W k c)
    (hm : lastMarks [op, op'] [b, c] = false := by with_unfolding_all rfl) : ST C X W (cTr (cCh o o' f g k)) (.Compare a [op, op'] [b, c] pos) := PT_imp (pt_chain ho ho' ha hb hc hm) fun σ H Q h => by
  have h' := tr_imp (X := X) h
  exact ch_imp hs hs' h'
/-! a[b] -/
theorem se_ix {a b : Expr} {f g : Cd Val} (ha : SE C X W f a) (hb : SE C X W g b) (hs : PlainIx b := by exact fun _ _ => rfl) : SE C X W (cOp dIx f g) (.Subscript a b pos) := PE_imp (pe_ix ix_seq ha hb hs) fun σ H Q h => op_imp ser_ix h
/-! a[lo:hi] -/
def cNo : Cd (Option Int) := fun _ μ => .ok none μ
def cPart (f : Cd Val) : Cd (Option Int) := fun ρ μ => (f ρ μ).bind fun v μ1 => match rd v μ1 with
  | some (.int i) => .ok (some i) μ1
  | _ => .stuck
def rOpt : Rel (Option Int) (Option Int) := fun _ _ _ a b => a = b
def tO (C : Ctx) (K : PySem.W.Frag) (W : WX) (f : Cd (Option Int)) : TO := fun σ H Q => ∃ I β ρ μ, SR K I β μ H ∧ ER C K I β ρ μ σ ∧ Res C K W σ I β μ H rOpt Q (f ρ μ)
def SO (C : Ctx) (X : Cx) (W : WX) (f : Cd (Option Int)) (e : Option Expr) : Prop := PO X e (tO C X.K W f)
theorem PO_imp {X : Cx} {e : Option Expr} {t t' : TO} (h : PO X e t) (k : ∀ σ H Q, t' σ H Q → t σ H Q) : PO X e t' := ⟨fun pins s σ H Q I q => h.run pins s σ H Q I (k σ H Q q)⟩
theorem so_no : SO C X W cNo none := PO_imp po_none fun σ H Q h => by
  obtain ⟨I, β, ρ, μ, s, e, h⟩ := h
  exact Res.here s h rfl
theorem so_some {e : Expr} {f : Cd Val} (h : SE C X W f e) : SO C X W (cPart f) (some e) := PO_imp (po_some h) fun σ H Q h => by
  obtain ⟨I, β, ρ, μ, s, e, h⟩ := h
  refine ⟨I, β, ρ, μ, s, e, Res.bind h fun a μ1 I1 β1 H1 v q x1 s1 r1 h1 => ?_⟩
  split at h1
  · rename_i i hx
    exact ⟨i, (r1.rd s1 hx).of_int, Res.here s1 h1 rfl⟩
  · exact h1.elim
def cut (xs : List D) (lo hi : Option Int) : List D := (xs.drop (HT.sIx xs.length 0 lo)).take (HT.sIx xs.length xs.length hi - HT.sIx xs.length 0 lo)
def pSl (v : Val) (lo hi : Option Int) (μ : Sto) : R Val := match rd v μ with
  | some (.list xs) => .ok (.d (.list (cut xs lo hi))) μ
  | some (.tuple xs) => .ok (.d (.tuple (cut xs lo hi))) μ
  | _ => .stuck
def cSl (f : Cd Val) (l h : Cd (Option Int)) : Cd Val := fun ρ μ => (f ρ μ).bind fun v μ1 => (l ρ μ1).bind fun lo μ2 => (h ρ μ2).bind fun hi μ3 => pSl v lo hi μ3
theorem RpAll.drop {I : Hp} : ∀ {vs : List V} {ds : List D} (n : Nat), RpAll K I vs ds → RpAll K I (vs.drop n) (ds.drop n)
  | [], [], n, h => by simp; exact .nil
  | [], _ :: _, _, h => nomatch h.dp
  | _ :: _, [], _, h => nomatch h.dp
  | v :: vs, d :: ds, 0, h => h
  | v :: vs, d :: ds, n + 1, h => RpAll.drop n h.head.2
theorem RpAll.take {I : Hp} : ∀ {vs : List V} {ds : List D} (n : Nat), RpAll K I vs ds → RpAll K I (vs.take n) (ds.take n)
  | [], [], n, h => by simp; exact .nil
  | [], _ :: _, _, h => nomatch h.dp
  | _ :: _, [], _, h => nomatch h.dp
  | v :: vs, d :: ds, 0, h => .nil
  | v :: vs, d :: ds, n + 1, h => .cons h.head.1 (RpAll.take n h.head.2)
theorem RpAll.cut {I : Hp} {vs : List V} {ds : List D} (h : RpAll K I vs ds) (lo hi : Option Int) : RpAll K I (cutV vs lo hi) (cut ds lo hi) := by
  unfold cutV FW.cut
  rw [h.length]
  exact (h.drop _).take _
theorem cut_whole {xs : List D} {lo hi : Option Int} (h : HT.sIx xs.length 0 lo = 0 ∧ HT.sIx xs.length xs.length hi = xs.length) : cut xs lo hi = xs := by
  unfold FW.cut
  rw [h.1, h.2, List.drop_zero, Nat.sub_zero, List.take_length]
theorem se_sl {a : Expr} {lo hi : Option Expr} {f : Cd Val} {l h : Cd (Option Int)} {p2' : Pos} (ha : SE C X W f a) (hl : SO C X W l lo) (hh : SO C X W h hi) : SE C X W (cSl f l h) (.Subscript a (.Slice lo hi none p2') pos) :=
  PE_imp (pe_slice (SlR.or sl_list sl_tupA) ha hl hh) fun σ H Q h => by
  obtain ⟨I, β, ρ, μ, s, e, h⟩ := h
  refine ⟨I, β, ρ, μ, s, e, Res.bind h fun a μ1 I1 β1 H1 v q x1 s1 r1 h1 => ?_⟩
  refine ⟨I1, β1, ρ, μ1, s1, e.ext x1, Res.bind h1 fun lo μ2 I2 β2 H2 lo' q2 x2 s2 r2 h2 => ?_⟩
  refine ⟨I2, β2, ρ, μ2, s2, (e.ext x1).ext x2, Res.bind h2 fun hi μ3 I3 β3 H3 hi' q3 x3 s3 r3 h3 => ?_⟩
  cases r2
  cases r3
  have r1' := (r1.mono x2.imm x2.bet x2.len).mono x3.imm x3.bet x3.len
  unfold pSl at h3
  split at h3
  · rename_i xs hx
    obtain ⟨a, ys, rfl, g1, t1⟩ := (r1'.rd s3 hx).of_list s3.imm
    exact .inl ⟨a, ys, rfl, g1, (Done.of s3 h3).lst s3.imm (t1.cut _ _)⟩
  · rename_i xs hx
    obtain ⟨a, ys, rfl, g1, t1⟩ := (r1'.rd s3 hx).of_tup
    have d := Done.of s3 h3
    refine .inr ⟨a, ys, rfl, s3.imm.seqT g1, fun z => ?_, fun z => d.tup s3.imm (t1.cut _ _)⟩
    rw [t1.length] at z
    rw [cut_whole z] at d
    exact d.1 _ (.tup g1 t1)
  · exact h3.elim
end
end FW


set_option Elab.async false
set_option linter.all false
set_option maxRecDepth 100000
set_option maxHeartbeats 1000000
namespace FW
open PySem PySem.Spec PyProof.Rows L2

/-! ### calls of built-ins -/
inductive ROs (K : PySem.W.Frag) (I H : Hp) : List V → List D → Prop
  | nil : ROs K I H [] []
  | cons {v : V} {x : D} {vs : List V} {xs : List D} : RO K I H v x → ROs K I H vs xs → ROs K I H (v :: vs) (x :: xs)
def rds : List Val → Sto → Option (List D)
  | [], _ => some []
  | v :: r, μ => match rd v μ, rds r μ with
    | some x, some xs => some (x :: xs)
    | _, _ => none
theorem rds_ro {C : Ctx} {K : PySem.W.Frag} {I H : Hp} {β : Nat → Addr} {μ : Sto} (s : SR K I β μ H) : ∀ {vs : List Val} {ws : List V} {xs : List D}, RVs C K I β μ.length vs ws → rds vs μ = some xs → ROs K I H ws xs
  | [], _, _, .nil, e => by cases e; exact .nil
  | v :: r, _, xs, .cons h t, e => by
    simp only [rds] at e
    split at e
    · rename_i x xs' h1 h2
      cases e
      exact .cons (h.rd s h1) (rds_ro s t h2)
    · cases e
def pB (op : List D → Option D) (vs : List Val) (μ : Sto) : R Val := match rds vs μ with
  | some xs => match op xs with
    | some z => .ok (.d z) μ
    | none => .stuck
  | none => .stuck
def cB (op : List D → Option D) (f : Cd (List Val)) : Cd Val := fun ρ μ => (f ρ μ).bind fun vs μ1 => pB op vs μ1
/-- r serves op -/
def SerC (K : PySem.W.Frag) (r : List V → Hp → VK → Prop) (op : List D → Option D) : Prop := ∀ (I H : Hp) (vs : List V) (xs : List D) (z : D) (Q : VK), Sub I H → ROs K I H vs xs → op xs = some z → Done K I H z Q → r vs H Q
section
variable {C : Ctx} {X : Cx} {W : WX} {pos : Pos} {K : PySem.W.Frag}
theorem cb_imp {r : List V → Hp → VK → Prop} {op : List D → Option D} {f : Cd (List Val)} (hs : SerC X.K r op) {σ : L2.St} {H : Hp} {Q : VK} (h : tE C X.K W (cB op f) σ H Q) : tCB r (tA C X.K W f) σ H Q := by
  obtain ⟨I, β, ρ, μ, s, e, h⟩ := h
  refine ⟨I, β, ρ, μ, s, e, Res.bind h fun vs μ1 I1 β1 H1 ws q x1 s1 r1 h1 => ?_⟩
  unfold pB at h1
  split at h1
  · rename_i xs hx
    split at h1
    · rename_i z hz
      exact hs I1 H1 ws xs z Q s1.imm (rds_ro s1 r1 hx) hz (Done.of s1 h1)
    · exact h1.elim
  · exact h1.elim
theorem se_b {x : Str} {p : Pos} {e : Expr} {es : List Expr} {id : String} {r : List V → Hp → VK → Prop} {op : List D → Option D} {f : Cd (List Val)} (hc : CallR X (.builtin id) r) (hs : SerC X.K r op) (hg : Gl X x) (hm : X.mg x = none) (hv : bootBuiltins x = some (.builtin id)) (ha : SA C X W f (e :: es))
    (hn : x ≠ "__name__" := by decide) (hdb : (x == ("__debug__" : Str)) = false := by decide) (he : starEach (e :: es) X.env = (false, eval e X.env) :: starEach es X.env := by rfl) (hpl : (backTo pos (starEach es X.env)).any (·.1) = false := by rfl) :
    SE C X W (cB op f) (.Call (.Name x p) (e :: es) [] pos) := PE_imp (pe_callB hc hg hm hv ha hn hdb he hpl) fun σ H Q h => cb_imp hs h
theorem se_ty {x : Str} {p : Pos} {e : Expr} {es : List Expr} {id : String} {r : List V → Hp → VK → Prop} {op : List D → Option D} {f : Cd (List Val)} (hc : CallR X (.type id) r) (hs : SerC X.K r op) (hg : Gl X x) (hm : X.mg x = none) (hv : bootBuiltins x = some (.type id)) (ha : SA C X W f (e :: es))
    (hn : x ≠ "__name__" := by decide) (hdb : (x == ("__debug__" : Str)) = false := by decide) (he : starEach (e :: es) X.env = (false, eval e X.env) :: starEach es X.env := by rfl) (hpl : (backTo pos (starEach es X.env)).any (·.1) = false := by rfl) :
    SE C X W (cB op f) (.Call (.Name x p) (e :: es) [] pos) := PE_imp (pe_callTy hc hg hm hv ha hn hdb he hpl) fun σ H Q h => cb_imp hs h
/-! what they are -/
def bLen : List D → Option D
  | [.list xs] => some (.int xs.length)
  | [.tuple xs] => some (.int xs.length)
  | _ => none
theorem ser_len : SerC K (fun xs H Q => ∃ p ys, xs = [.ref p] ∧ (SqL K H p ys ∨ SqT K H p ys) ∧ Q (.int ys.length) H) bLen := by
  intro I H vs xs z Q s hx hz d
  unfold bLen at hz
  split at hz
  · cases hz
    cases hx with
    | cons h t =>
      cases t
      obtain ⟨a, ys, rfl, h1, t1⟩ := h.of_list s
      exact ⟨a, ys, rfl, .inl h1, by rw [t1.length]; exact d.1 _ Rp.int⟩
  · cases hz
    cases hx with
    | cons h t =>
      cases t
      obtain ⟨a, ys, rfl, h1, t1⟩ := h.of_tup
      exact ⟨a, ys, rfl, .inr (s.seqT h1), by rw [t1.length]; exact d.1 _ Rp.int⟩
  · cases hz
def bAbs : List D → Option D
  | [.int i] => some (.int (if i < 0 then -i else i))
  | _ => none
theorem ser_abs : SerC K (fun xs H Q => ∃ i, xs = [.int i] ∧ Q (.int (if i < 0 then -i else i)) H) bAbs := by
  intro I H vs xs z Q s hx hz d
  unfold bAbs at hz
  split at hz
  · cases hz
    cases hx with
    | cons h t =>
      cases t
      exact ⟨_, by rw [h.of_int], d.1 _ Rp.int⟩
  · cases hz
def bInt : List D → Option D
  | [.int i] => some (.int i)
  | [.bool b] => some (.int (if b = true then 1 else 0))
  | _ => none
theorem ser_int : SerC K (fun xs H Q => (∃ i, xs = [.int i] ∧ Q (.int i) H) ∨ ∃ k : Bool, xs = [.bl k] ∧ Q (.int (if k then 1 else 0)) H) bInt := by
  intro I H vs xs z Q s hx hz d
  unfold bInt at hz
  split at hz
  · cases hz
    cases hx with
    | cons h t =>
      cases t
      exact .inl ⟨_, by rw [h.of_int], d.1 _ Rp.int⟩
  · cases hz
    cases hx with
    | cons h t =>
      cases t
      exact .inr ⟨_, by rw [h.of_bool], d.1 _ Rp.int⟩
  · cases hz
def bools? : List D → Option (List Bool)
  | [] => some []
  | .bool b :: r => match bools? r with
    | some l => some (b :: l)
    | none => none
  | _ :: _ => none
theorem bools_rp {I : Hp} : ∀ {vs : List V} {xs : List D} {bs : List Bool}, RpAll K I vs xs → bools? xs = some bs → vs = bs.map V.bl
  | [], [], _, _, e => by cases e; rfl
  | [], _ :: _, _, h, _ => nomatch h.dp
  | _ :: _, [], _, h, _ => nomatch h.dp
  | v :: vs, x :: xs, bs, h, e => by
    unfold bools? at e
    split at e
    · rename_i h1
      cases h1
    · rename_i b r h1
      cases h1
      split at e
      · rename_i l hl
        cases e
        rw [List.map_cons, ← bools_rp h.head.2 hl, h.head.1.of_bool]
      · cases e
    · cases e
theorem ints_rp {I : Hp} : ∀ {vs : List V} {xs : List D} {bs : List Int}, RpAll K I vs xs → ints? xs = some bs → vs = bs.map V.int
  | [], [], _, _, e => by cases e; rfl
  | [], _ :: _, _, h, _ => nomatch h.dp
  | _ :: _, [], _, h, _ => nomatch h.dp
  | v :: vs, x :: xs, bs, h, e => by
    unfold ints? at e
    split at e
    · rename_i h1
      cases h1
    · rename_i b r h1
      cases h1
      split at e
      · rename_i l hl
        cases e
        rw [List.map_cons, ← ints_rp h.head.2 hl, h.head.1.of_int]
      · cases e
    · cases e
def bAll : List D → Option D
  | [.list xs] => match bools? xs with
    | some bs => some (.bool (bs.all id))
    | none => none
  | _ => none
def bAny : List D → Option D
  | [.list xs] => match bools? xs with
    | some bs => some (.bool (bs.any id))
    | none => none
  | _ => none
theorem ser_all : SerC K (rAll K) bAll := by
  intro I H vs xs z Q s hx hz d
  unfold bAll at hz
  split at hz
  · split at hz
    · rename_i bs hb
      cases hz
      cases hx with
      | cons h t =>
        cases t
        obtain ⟨a, ys, rfl, h1, t1⟩ := h.of_list s
        exact ⟨a, bs, rfl, by rw [← bools_rp t1 hb]; exact h1, d.1 _ Rp.bool⟩
    · cases hz
  · cases hz
theorem ser_any : SerC K (rAny K) bAny := by
  intro I H vs xs z Q s hx hz d
  unfold bAny at hz
  split at hz
  · split at hz
    · rename_i bs hb
      cases hz
      cases hx with
      | cons h t =>
        cases t
        obtain ⟨a, ys, rfl, h1, t1⟩ := h.of_list s
        exact ⟨a, bs, rfl, by rw [← bools_rp t1 hb]; exact h1, d.1 _ Rp.bool⟩
    · cases hz
  · cases hz
def bSum : List D → Option D
  | [.list xs] => match ints? xs with
    | some ns => some (.int ns.sum)
    | none => none
  | _ => none
theorem ser_sum : SerC K (rSum K) bSum := by
  intro I H vs xs z Q s hx hz d
  unfold bSum at hz
  split at hz
  · split at hz
    · rename_i bs hb
      cases hz
      cases hx with
      | cons h t =>
        cases t
        obtain ⟨a, ys, rfl, h1, t1⟩ := h.of_list s
        exact ⟨a, bs, rfl, by rw [← ints_rp t1 hb]; exact h1, d.1 _ Rp.int⟩
    · cases hz
  · cases hz
def bTup : List D → Option D
  | [.list xs] => some (.tuple xs)
  | [.tuple xs] => some (.tuple xs)
  | _ => none
theorem ser_tup : SerC K (fun xs H Q => ∃ p ys, xs = [.ref p] ∧ ((SqL K H p ys ∧ ∀ l, H l = none → Q (.ref l) (upd H l (.tup ys))) ∨ (SqT K H p ys ∧ Q (.ref p) H))) bTup := by
  intro I H vs xs z Q s hx hz d
  unfold bTup at hz
  split at hz
  · cases hz
    cases hx with
    | cons h t =>
      cases t
      obtain ⟨a, ys, rfl, h1, t1⟩ := h.of_list s
      exact ⟨a, ys, rfl, .inl ⟨h1, d.tup s t1⟩⟩
  · cases hz
    cases hx with
    | cons h t =>
      cases t
      obtain ⟨a, ys, rfl, h1, t1⟩ := h.of_tup
      exact ⟨a, ys, rfl, .inr ⟨s.seqT h1, d.1 _ (.tup h1 t1)⟩⟩
  · cases hz
def bLst : List D → Option D
  | [.list xs] => some (.list xs)
  | [.tuple xs] => some (.list xs)
  | _ => none
theorem ser_lst : SerC K (fun xs H Q => ∃ p ys, xs = [.ref p] ∧ (SqL K H p ys ∨ SqT K H p ys) ∧ ∀ l, H l = none → Q (.ref l) (upd H l (.lst ys))) bLst := by
  intro I H vs xs z Q s hx hz d
  unfold bLst at hz
  split at hz
  · cases hz
    cases hx with
    | cons h t =>
      cases t
      obtain ⟨a, ys, rfl, h1, t1⟩ := h.of_list s
      exact ⟨a, ys, rfl, .inl h1, d.lst s t1⟩
  · cases hz
    cases hx with
    | cons h t =>
      cases t
      obtain ⟨a, ys, rfl, h1, t1⟩ := h.of_tup
      exact ⟨a, ys, rfl, .inr (s.seqT h1), d.lst s t1⟩
  · cases hz
/-! isinstance -/
def tyN : D → Option String
  | .none => some "NoneType"
  | .bool _ => some "bool"
  | .int _ => some "int"
  | .str _ => some "str"
  | .list _ => some "list"
  | .tuple _ => some "tuple"
  | .dict _ => none
/-- the classes that are asked -/
inductive Asked : String → Prop
  | int : Asked "int" | bool : Asked "bool" | str : Asked "str" | list : Asked "list" | tuple : Asked "tuple"
def isiB (a b : String) : Bool := a == b || (a == "bool" && b == "int")
def cIsi (T : String) (f : Cd Val) : Cd Val := fun ρ μ => (f ρ μ).bind fun v μ1 => match rd v μ1 with
  | some x => match tyN x with
    | some n => .ok (.d (.bool (isiB n T))) μ1
    | none => .stuck
  | none => .stuck
theorem kit_isi {x : D} {n T : String} (h : tyN x = some n) (a : Asked T) : kitB n T = some (isiB n T) := by
  cases x <;> simp only [tyN] at h <;> first | (cases h; done) | (obtain rfl := Option.some.inj h; cases a <;> decide +kernel)
theorem tyX_of {I H : Hp} {v : V} {x : D} {n : String} (s : Sub I H) (h : RO K I H v x) (e : tyN x = some n) : TyX K H v (.type n) := by
  cases x with
  | none => cases e; rw [h.of_none]; exact .base .non
  | bool c => cases e; rw [h.of_bool]; exact .base (.bl c)
  | int i => cases e; rw [h.of_int]; exact .base (.int i)
  | str y => cases e; rw [h.of_str]; exact .base (.str y)
  | list xs =>
    cases e
    obtain ⟨a, ys, rfl, h1, t1⟩ := h.of_list s
    rcases h1 with (h1 | ⟨o, h1⟩) | ⟨o, its, k, h1, h2, _⟩
    · exact .base (.lst h1)
    · exact .base (.frz h1)
    · exact .kList h1 h2
  | tuple xs =>
    cases e
    obtain ⟨a, ys, rfl, h1, t1⟩ := h.of_tup
    rcases s.seqT h1 with (h1 | ⟨o, h1⟩) | ⟨o, its, k, h1, h2, _⟩
    · exact .base (.tup h1)
    · exact .fTuple h1
    · exact .kTuple h1 h2
  | dict _ => cases e
theorem se_isi {x y : Str} {p p' : Pos} {e : Expr} {T : String} {f : Cd Val} (he : SE C X W f e) (aT : Asked T) (hg : Gl X x) (hm : X.mg x = none) (hx : x = "isinstance") (hg' : Gl X y) (hm' : X.mg y = none) (hv' : bootBuiltins y = some (.type T)) (hn' : y ≠ "__name__" := by decide) (hd' : (y == ("__debug__" : Str)) = false := by decide)
    (hst : starEach [e, .Name y p'] X.env = (false, eval e X.env) :: starEach [.Name y p'] X.env := by rfl) (hst2 : starEach [.Name y p'] X.env = (false, eval (.Name y p') X.env) :: starEach [] X.env := by rfl) (hpl : (backTo pos (starEach [.Name y p'] X.env)).any (·.1) = false := by rfl) :
    SE C X W (cIsi T f) (.Call (.Name x p) [e, .Name y p'] [] pos) := by
  subst hx
  refine PE_imp (pe_callB call_isi hg hm (by decide +kernel) (pa_cons he (pa_cons (pe_bltn (v := .ty T) hg' hm' hv' rfl hn' hd') pa_nil hst2) hst) (by decide) (by decide) hst hpl) fun σ H Q h => ?_
  obtain ⟨I, β, ρ, μ, s, e, h⟩ := h
  refine ⟨I, β, ρ, μ, s, e, Res.bind h fun v μ1 I1 β1 H1 w q x1 s1 r1 h1 => ?_⟩
  split at h1
  · rename_i x hx
    split at h1
    · rename_i n hn
      exact ⟨w, .ty T, .type n, .type T, isiB n T, rfl, .ty T, tyX_of s1.imm (r1.rd s1 hx) hn, kit_ty (kit_isi hn aT), Res.here s1 h1 Rp.bool⟩
    · exact h1.elim
  · exact h1.elim
end
end FW


set_option Elab.async false
set_option linter.all false
set_option maxRecDepth 100000
set_option maxHeartbeats 1000000
namespace FW
open PySem PySem.Spec PyProof.Rows L2

/-! ### what is walked -/
abbrev Walked := List D × Option Nat
/-- the source still stands -/
def WH (K : PySem.W.Frag) (I : Hp) (β : Nat → Addr) (w : Walked) (H : Hp) : Prop := Sub I H ∧ ∀ l, w.2 = some l → ∃ ys, H (β l) = some (.lst ys) ∧ RpAll K I ys w.1
structure WalkOk (K : PySem.W.Frag) (I : Hp) (β : Nat → Addr) (n : Nat) (w : Walked) (J : It) : Prop where
  lt : ∀ l, w.2 = some l → l < n
  go : ∀ I2 β2 H i, Sub I I2 → (∀ l, w.2 = some l → β2 l = β l) → WH K I2 β2 w H → i < w.1.length → J.go i H
  stop : ∀ I2 β2 H, Sub I I2 → (∀ l, w.2 = some l → β2 l = β l) → WH K I2 β2 w H → J.stop w.1.length H
  yld : ∀ I2 β2 H i x H' d, Sub I I2 → (∀ l, w.2 = some l → β2 l = β l) → WH K I2 β2 w H → w.1[i]? = some d → J.yld i H x H' → (H' = H ∧ Rp K I2 x d) ∨ ∃ p o, H p = none ∧ H' = upd H p o ∧ Rp K (upd I2 p o) x d
def rW (K : PySem.W.Frag) : Rel Walked It := fun I β n w J => WalkOk K I β n w J
def tI (C : Ctx) (K : PySem.W.Frag) (W : WX) (f : Cd Walked) : TI := fun σ H R => ∃ I β ρ μ, SR K I β μ H ∧ ER C K I β ρ μ σ ∧ Res C K W σ I β μ H (rW K) R (f ρ μ)
def SI (C : Ctx) (X : Cx) (W : WX) (tg : Expr) (f : Cd Walked) (e : Expr) : Prop := PI X tg e (tI C X.K W f)
theorem PI_imp {X : Cx} {tg e : Expr} {t t' : TI} (h : PI X tg e t) (k : ∀ σ H Q, t' σ H Q → t σ H Q) : PI X tg e t' := ⟨fun pins s σ H Q I q => h.run pins s σ H Q I (k σ H Q q)⟩
section
variable {C : Ctx} {X : Cx} {W : WX} {pos : Pos} {K : PySem.W.Frag} {tg : Expr}
theorem walk_data {I : Hp} {β : Nat → Addr} {n : Nat} {a : Addr} {ys : List V} {xs : List D} (h : SqL K I a ys) (t : RpAll K I ys xs) : WalkOk K I β n (xs, none) (Itl K a) where
  lt := fun l e => nomatch e
  go := fun I2 β2 H i s2 _ w hi => by
    have hi' : i < ys.length := by rw [t.length]; exact hi
    exact ⟨ys, ys[i], w.1.seqL (s2.seqL h), List.getElem?_eq_getElem hi'⟩
  stop := fun I2 β2 H s2 _ w => ⟨ys, w.1.seqL (s2.seqL h), by rw [t.length]; exact Nat.le_refl _⟩
  yld := fun I2 β2 H i x H' d s2 _ w hd y => by
    obtain ⟨e, q⟩ := y
    obtain ⟨v, hv, r⟩ := (s2.rpAll t).get hd
    have := q ys (w.1.seqL (s2.seqL h))
    rw [hv] at this
    obtain rfl := Option.some.inj this
    exact .inl ⟨e, r⟩
theorem walk_cell {I : Hp} {β : Nat → Addr} {n l : Nat} {xs : List D} (hl : l < n) : WalkOk K I β n (xs, some l) (Itl K (β l)) where
  lt := fun m e => by cases e; exact hl
  go := fun I2 β2 H i s2 hb w hi => by
    obtain ⟨ys, h, t⟩ := w.2 l rfl
    rw [hb l rfl] at h
    have hi' : i < ys.length := by rw [t.length]; exact hi
    exact ⟨ys, ys[i], SqL.of h, List.getElem?_eq_getElem hi'⟩
  stop := fun I2 β2 H s2 hb w => by
    obtain ⟨ys, h, t⟩ := w.2 l rfl
    rw [hb l rfl] at h
    exact ⟨ys, SqL.of h, by rw [t.length]; exact Nat.le_refl _⟩
  yld := fun I2 β2 H i x H' d s2 hb w hd y => by
    obtain ⟨ys, h, t⟩ := w.2 l rfl
    rw [hb l rfl] at h
    obtain ⟨e, q⟩ := y
    obtain ⟨v, hv, r⟩ := t.get hd
    have := q ys (SqL.of h)
    rw [hv] at this
    obtain rfl := Option.some.inj this
    exact .inl ⟨e, r⟩
theorem walk_tup {I : Hp} {β : Nat → Addr} {n : Nat} {a : Addr} {ys : List V} {xs : List D} (h : SqT K I a ys) (t : RpAll K I ys xs) : WalkOk K I β n (xs, none) (Itt K a) where
  lt := fun l e => nomatch e
  go := fun I2 β2 H i s2 _ w hi => by
    have hi' : i < ys.length := by rw [t.length]; exact hi
    exact ⟨ys, ys[i], w.1.seqT (s2.seqT h), List.getElem?_eq_getElem hi'⟩
  stop := fun I2 β2 H s2 _ w => ⟨ys, w.1.seqT (s2.seqT h), by rw [t.length]; exact Nat.le_refl _⟩
  yld := fun I2 β2 H i x H' d s2 _ w hd y => by
    obtain ⟨e, q⟩ := y
    obtain ⟨v, hv, r⟩ := (s2.rpAll t).get hd
    have := q ys (w.1.seqT (s2.seqT h))
    rw [hv] at this
    obtain rfl := Option.some.inj this
    exact .inl ⟨e, r⟩
def rng (lo : Int) (n : Nat) : List D := (List.range n).map fun (k : Nat) => PyData.int (lo + (k : Int))
theorem rng_get {lo : Int} {n i : Nat} {d : D} (h : (rng lo n)[i]? = some d) : d = .int (lo + (i : Int)) := by
  unfold rng at h
  rw [List.getElem?_map] at h
  cases q : (List.range n)[i]? with
  | none => rw [q] at h; cases h
  | some k =>
    rw [q] at h
    obtain ⟨hi, e⟩ := List.getElem?_eq_some_iff.mp q
    rw [List.getElem_range] at e
    subst e
    exact (Option.some.inj h).symm
theorem rng_len (lo : Int) (n : Nat) : (rng lo n).length = n := by simp [rng]
theorem walk_rng {I : Hp} {β : Nat → Addr} {m : Nat} {lo : Int} {n : Nat} : WalkOk K I β m (rng lo n, none) (Itr lo n) where
  lt := fun l e => nomatch e
  go := fun I2 β2 H i _ _ w hi => by rw [rng_len] at hi; exact hi
  stop := fun I2 β2 H _ _ w => by rw [rng_len]; exact Nat.le_refl _
  yld := fun I2 β2 H i x H' d _ _ w hd y => by
    obtain ⟨e, q⟩ := y
    rw [rng_get hd, q]
    exact .inl ⟨e, Rp.int⟩
/-- a list, a tuple or a list's cell -/
def itOf (v : Val) (μ : Sto) : Option Walked := match v with
  | .d (.list xs) => some (xs, none)
  | .d (.tuple xs) => some (xs, none)
  | .loc l => match μ[l]? with
    | some (.lst xs) => some (xs, some l)
    | _ => none
  | _ => none
def iV (f : Cd Val) : Cd Walked := fun ρ μ => (f ρ μ).bind fun v μ1 => match itOf v μ1 with
  | some w => .ok w μ1
  | none => .stuck
def iLT (K : PySem.W.Frag) (tl : TE) : TI := fun σ H R => tl σ H fun x H1 => ∃ a, x = .ref a ∧ (((∃ xs, SqL K H1 a xs) ∧ R (Itl K a) H1) ∨ ((∃ xs, SqT K H1 a xs) ∧ R (Itt K a) H1))
theorem pi_lt {l : Expr} {tl : TE} (hl : PE X l tl) : PI X tg l (iLT X.K tl) := by
  refine ⟨fun pins s σ H R I h => ?_⟩
  refine thn (hl.run pins s σ H _ I h) fun v s1 ⟨x, H1, I1, r1, a, e, q⟩ => ?_
  subst e
  cases r1
  rcases q with ⟨⟨xs, hq⟩, q⟩ | ⟨⟨xs, hq⟩, q⟩
  · obtain ⟨its, rv, p, hz⟩ := I1.list hq
    refine wpAny_pyIter_list p.isList ?_
    refine ⟨s1.heap.objs.size, [s1.heap.objs.size], _, _, H1, rfl, I1.kept (t' := s1.toks) fun b o e => Heap.get?_push_of_some _ e, turn_list a _, ⟨_, Heap.get?_push_size _ rfl, rfl, rfl⟩, fun b hb => ?_, q⟩
    have e : b = s1.heap.objs.size := by simpa using hb
    subst e
    exact I1.fpOk (Nat.le_refl _) (I1.hok.fresh (Nat.le_refl _))
  · obtain ⟨its, rv, p, hz⟩ := I1.tuple hq
    refine wpAny_pyIter_tuple (show s1.heap.IsTuple a its.toArray from p) ?_
    refine ⟨s1.heap.objs.size, [s1.heap.objs.size], _, _, H1, rfl, I1.kept (t' := s1.toks) fun b o e => Heap.get?_push_of_some _ e, turn_tuple a _, ⟨_, Heap.get?_push_size _ rfl, rfl, rfl⟩, fun b hb => ?_, q⟩
    have e : b = s1.heap.objs.size := by simpa using hb
    subst e
    exact I1.fpOk (Nat.le_refl _) (I1.hok.fresh (Nat.le_refl _))
theorem si_v {e : Expr} {f : Cd Val} (h : SE C X W f e) : SI C X W tg (iV f) e := PI_imp (pi_lt h) fun σ H R h => by
  obtain ⟨I, β, ρ, μ, s, e, h⟩ := h
  refine ⟨I, β, ρ, μ, s, e, Res.bind h fun v μ1 I1 β1 H1 w q x1 s1 r1 h1 => ?_⟩
  unfold itOf at h1
  cases v with
  | d x =>
    cases x with
    | list xs =>
      obtain ⟨a, ys, rfl, g1, t1⟩ := Rp.of_list r1
      exact ⟨a, rfl, .inl ⟨⟨ys, s1.imm.seqL g1⟩, Res.here s1 h1 (walk_data g1 t1)⟩⟩
    | tuple xs =>
      obtain ⟨a, ys, rfl, g1, t1⟩ := Rp.of_tup r1
      exact ⟨a, rfl, .inr ⟨⟨ys, s1.imm.seqT g1⟩, Res.here s1 h1 (walk_tup g1 t1)⟩⟩
    | none => exact h1.elim
    | bool _ => exact h1.elim
    | int _ => exact h1.elim
    | str _ => exact h1.elim
    | dict _ => exact h1.elim
  | loc l =>
    obtain ⟨rfl, hl⟩ := r1
    cases hc : μ1[l]? with
    | none => simp only [hc] at h1; exact h1.elim
    | some c =>
      have q := s1.cell l c hc
      cases c with
      | lst xs =>
        simp only [hc] at h1
        obtain ⟨ys, g1, g2⟩ := q
        exact ⟨β1 l, rfl, .inl ⟨⟨ys, SqL.of g1⟩, Res.here s1 h1 (walk_cell hl)⟩⟩
      | dct kvs => exact q.elim
  | exn => exact h1.elim
def iR1 (f : Cd (List Val)) : Cd Walked := fun ρ μ => (f ρ μ).bind fun vs μ1 => match rds vs μ1 with
  | some [.int n] => if decide (-(2 ^ 62) ≤ n ∧ n < 2 ^ 62) = true then .ok (rng 0 n.toNat, none) μ1 else .stuck
  | _ => .stuck
def iR2 (f : Cd (List Val)) : Cd Walked := fun ρ μ => (f ρ μ).bind fun vs μ1 => match rds vs μ1 with
  | some [.int a, .int b] => if decide (-(2 ^ 62) ≤ a ∧ a < 2 ^ 62 ∧ -(2 ^ 62) ≤ b ∧ b < 2 ^ 62) = true then .ok (rng a (b - a).toNat, none) μ1 else .stuck
  | _ => .stuck
theorem ros_one {I H : Hp} {vs : List V} {x : D} (h : ROs K I H vs [x]) : ∃ v, vs = [v] ∧ RO K I H v x := by
  cases h with
  | cons h t => cases t; exact ⟨_, rfl, h⟩
theorem ros_two {I H : Hp} {vs : List V} {x y : D} (h : ROs K I H vs [x, y]) : ∃ v u, vs = [v, u] ∧ RO K I H v x ∧ RO K I H u y := by
  cases h with
  | cons h t =>
    obtain ⟨u, rfl, h2⟩ := ros_one t
    exact ⟨_, u, rfl, h, h2⟩
theorem si_r1 {a : Expr} {f : Cd (List Val)} {p pos : Pos} (hg : Gl X "range") (hm : X.mg "range" = none) (ha : SA C X W f [a]) (hs : starEach [a] X.env = [(false, eval a X.env)] := by rfl) : SI C X W tg (iR1 f) (.Call (.Name "range" p) [a] [] pos) := PI_imp (pi_range1 hg hm ha hs) fun σ H R h => by
  obtain ⟨I, β, ρ, μ, s, e, h⟩ := h
  refine ⟨I, β, ρ, μ, s, e, Res.bind h fun vs μ1 I1 β1 H1 ws q x1 s1 r1 h1 => ?_⟩
  split at h1
  · rename_i n hx
    split at h1
    · rename_i hl
      have hl := of_decide_eq_true hl
      obtain ⟨v, rfl, hv⟩ := ros_one (rds_ro s1 r1 hx)
      exact ⟨n, by rw [hv.of_int], hl.1, hl.2, Res.here s1 h1 walk_rng⟩
    · exact h1.elim
  · exact h1.elim
theorem si_r2 {a b : Expr} {f : Cd (List Val)} {p pos : Pos} (hg : Gl X "range") (hm : X.mg "range" = none) (ha : SA C X W f [a, b]) (hs : starEach [a, b] X.env = [(false, eval a X.env), (false, eval b X.env)] := by rfl) (hs2 : starEach [b] X.env = [(false, eval b X.env)] := by rfl) : SI C X W tg (iR2 f) (.Call (.Name "range" p) [a, b] [] pos) := PI_imp (pi_range2 hg hm ha hs hs2) fun σ H R h => by
  obtain ⟨I, β, ρ, μ, s, e, h⟩ := h
  refine ⟨I, β, ρ, μ, s, e, Res.bind h fun vs μ1 I1 β1 H1 ws q x1 s1 r1 h1 => ?_⟩
  split at h1
  · rename_i n m hx
    split at h1
    · rename_i hl
      have hl := of_decide_eq_true hl
      obtain ⟨v, u, rfl, hv, hu⟩ := ros_two (rds_ro s1 r1 hx)
      exact ⟨n, m, by rw [hv.of_int, hu.of_int], hl, Res.here s1 h1 walk_rng⟩
    · exact h1.elim
  · exact h1.elim

/-! ### list comprehensions -/
def wipeE (ρ : Env) : List Nat → Env
  | [] => ρ
  | v :: vs => (wipeE ρ vs).set v none
theorem ER.set {I : Hp} {β : Nat → Addr} {ρ : Env} {μ : Sto} {σ : L2.St} {i : Nat} {v : Val} {w : V} (e : ER C K I β ρ μ σ) (r : RV C K I β μ.length v w) : ER C K I β (ρ.set i (some v)) μ (σ.set i (some w)) where
  len := by rw [List.length_set, List.length_set]; exact e.len
  get := fun j u h => by
    by_cases hj : i = j
    · subst hj
      by_cases hi : i < ρ.length
      · rw [List.getElem?_set_self hi] at h
        cases h
        exact ⟨w, by rw [List.getElem?_set_self (by rw [← e.len]; exact hi)], r⟩
      · rw [List.getElem?_eq_none (by rw [List.length_set]; omega)] at h
        cases h
    · rw [List.getElem?_set_ne hj] at h
      obtain ⟨w', h1, h2⟩ := e.get j u h
      exact ⟨w', by rw [List.getElem?_set_ne hj]; exact h1, h2⟩
  ex := e.ex
theorem ER.drop {I : Hp} {β : Nat → Addr} {ρ : Env} {μ : Sto} {σ : L2.St} {i : Nat} (e : ER C K I β ρ μ σ) : ER C K I β (ρ.set i none) μ (σ.set i none) where
  len := by rw [List.length_set, List.length_set]; exact e.len
  get := fun j u h => by
    by_cases hj : i = j
    · subst hj
      by_cases hi : i < ρ.length
      · rw [List.getElem?_set_self hi] at h
        cases h
      · rw [List.getElem?_eq_none (by rw [List.length_set]; omega)] at h
        cases h
    · rw [List.getElem?_set_ne hj] at h
      obtain ⟨w', h1, h2⟩ := e.get j u h
      exact ⟨w', by rw [List.getElem?_set_ne hj]; exact h1, h2⟩
  ex := e.ex
theorem ER.wipe {I : Hp} {β : Nat → Addr} {ρ : Env} {μ : Sto} {σ : L2.St} (e : ER C K I β ρ μ σ) : ∀ vs : List Nat, ER C K I β (wipeE ρ vs) μ (L2.wipe σ vs)
  | [] => e
  | v :: vs => (e.wipe vs).drop
theorem ER.free {I : Hp} {β : Nat → Addr} {ρ : Env} {μ μ' : Sto} {σ : L2.St} (e : ER C K I β ρ μ σ) (h : μ.length = μ'.length) : ER C K I β ρ μ' σ where
  len := e.len
  get := fun j u hj => by
    obtain ⟨w, h1, h2⟩ := e.get j u hj
    exact ⟨w, h1, by rw [← h]; exact h2⟩
  ex := e.ex
/-- a place that no cell and no datum takes -/
structure Own (I : Hp) (β : Nat → Addr) (n : Nat) (D : Addr) : Prop where
  i : I D = none
  b : ∀ l, l < n → β l ≠ D
theorem SR.other {I : Hp} {β : Nat → Addr} {μ : Sto} {H : Hp} {D : Addr} {o : HO} (s : SR K I β μ H) (w : Own I β μ.length D) : SR K I β μ (upd H D o) where
  imm := fun a u e => by
    have : a ≠ D := fun z => by subst z; rw [w.i] at e; cases e
    rw [upd_ne this]; exact s.imm a u e
  fr := s.fr
  inj := s.inj
  cell := fun l c hc => by
    have hl : l < μ.length := (List.getElem?_eq_some_iff.mp hc).1
    have q := s.cell l c hc
    cases c with
    | lst xs => obtain ⟨ys, h1, h2⟩ := q; exact ⟨ys, by rw [upd_ne (w.b l hl)]; exact h1, h2⟩
    | dct kvs => exact q
theorem SR.freeze {I : Hp} {β : Nat → Addr} {μ : Sto} {H : Hp} {D : Addr} {o : HO} (s : SR K I β μ H) (w : Own I β μ.length D) (h : H D = some o) : SR K (upd I D o) β μ H where
  imm := fun a u e => by
    by_cases ha : a = D
    · subst ha; rw [upd_same] at e; rw [h]; exact e
    · rw [upd_ne ha] at e; exact s.imm a u e
  fr := fun l hl => by rw [upd_ne (w.b l hl)]; exact s.fr l hl
  inj := s.inj
  cell := fun l c hc => by
    have q := s.cell l c hc
    cases c with
    | lst xs => obtain ⟨ys, h1, h2⟩ := q; exact ⟨ys, h1, (Sub.new w.i).rpAll h2⟩
    | dct kvs => exact q
theorem SR.not_cell {I : Hp} {β : Nat → Addr} {μ : Sto} {H : Hp} {D : Addr} (s : SR K I β μ H) (h : H D = none) : Own I β μ.length D where
  i := s.imm.fresh h
  b := fun l hl e => by
    have q := s.cell l _ (List.getElem?_eq_getElem hl)
    cases hc : μ[l] with
    | lst xs => rw [hc] at q; obtain ⟨ys, h1, _⟩ := q; rw [e, h] at h1; cases h1
    | dct kvs => rw [hc] at q; exact q
theorem Own.ext {I I1 : Hp} {β β1 : Nat → Addr} {μ μ1 : Sto} {H H1 : Hp} {D : Addr} {o : HO} (w : Own I β μ.length D) (h : H D = some o) (x : Ext μ.length I β μ H I1 β1 μ1 H1) : Own I1 β1 μ1.length D where
  i := by
    cases e : I1 D with
    | none => rfl
    | some u =>
      rcases x.imn D u e with z | z | ⟨l, h1, z⟩
      · rw [w.i] at z; cases z
      · rw [h] at z; cases z
      · exact (w.b l h1 z).elim
  b := fun l hl => by
    by_cases q : l < μ.length
    · rw [x.bet l q]; exact w.b l q
    · rcases x.new l (Nat.le_of_not_lt q) hl with z | ⟨m, h1, h2, _⟩
      · intro e; rw [e, h] at z; cases z
      · exact absurd h2 (Nat.not_lt.mpr h1)
end
end FW


set_option Elab.async false
set_option linter.all false
set_option maxRecDepth 100000
set_option maxHeartbeats 1000000
namespace FW
open PySem PySem.Spec PyProof.Rows L2

def WF : WX := fun _ _ _ _ => False
mutual
def sameD : D → D → Bool
  | .none, .none => true
  | .bool a, .bool b => a == b
  | .int a, .int b => decide (a = b)
  | .str a, .str b => decide (a = b)
  | .list a, .list b => sameA a b
  | .tuple a, .tuple b => sameA a b
  | _, _ => false
def sameA : List D → List D → Bool
  | [], [] => true
  | x :: xs, y :: ys => sameD x y && sameA xs ys
  | _, _ => false
end
mutual
theorem sameD_eq : ∀ {x y : D}, sameD x y = true → x = y
  | .none, y, h => by cases y <;> simp [sameD] at h; rfl
  | .bool a, y, h => by cases y <;> simp [sameD] at h; rw [h]
  | .int a, y, h => by cases y <;> simp [sameD] at h; rw [h]
  | .str a, y, h => by cases y <;> simp [sameD] at h; rw [h]
  | .list a, y, h => by cases y <;> simp [sameD] at h; rw [sameA_eq h]
  | .tuple a, y, h => by cases y <;> simp [sameD] at h; rw [sameA_eq h]
  | .dict a, y, h => by cases y <;> simp [sameD] at h
theorem sameA_eq : ∀ {x y : List D}, sameA x y = true → x = y
  | [], y, h => by cases y <;> simp [sameA] at h; rfl
  | x :: xs, y, h => by
    cases y with
    | nil => simp [sameA] at h
    | cons y ys =>
      simp only [sameA, Bool.and_eq_true] at h
      rw [sameD_eq h.1, sameA_eq h.2]
end
def okG (w : Walked) (μ : Sto) : Prop := match w.2 with
  | none => True
  | some l => μ[l]? = some (.lst w.1)
/-- what is walked still stands -/
def okB (w : Walked) (μ : Sto) : Bool := match w.2 with
  | none => true
  | some l => match μ[l]? with
    | some (.lst ys) => sameA ys w.1
    | _ => false
theorem okB_ok {w : Walked} {μ : Sto} (h : okB w μ = true) : okG w μ := by
  unfold okB at h
  unfold okG
  split at h
  · trivial
  · rename_i l e
    split at h
    · rename_i ys q
      rw [q, sameA_eq h]
    · cases h
def lcRun (w : Walked) (ρ0 : Env) (bd : D → Env → Option Env) (c : Cd Bool) (f : Cd Val) : List D → List D → Sto → R (List D)
  | [], acc, μ => .ok acc μ
  | x :: xs, acc, μ => match bd x ρ0 with
    | none => .stuck
    | some ρ1 => match c ρ1 μ with
      | .ok true μ1 => match f ρ1 μ1 with
        | .ok (.d y) μ2 => if okB w μ2 = true then lcRun w ρ0 bd c f xs (acc ++ [y]) μ2 else .stuck
        | _ => .stuck
      | .ok false μ1 => if okB w μ1 = true then lcRun w ρ0 bd c f xs acc μ1 else .stuck
      | _ => .stuck
def cLc (fw : Cd Walked) (bd : D → Env → Option Env) (vs : List Nat) (c : Cd Bool) (f : Cd Val) : Cd Val := fun ρ μ => (fw ρ μ).bind fun w μ1 =>
  if okB w μ1 = true then match lcRun w (wipeE ρ vs) bd c f w.1 [] μ1 with
    | .ok out μ2 => if lim out.length = true then .ok (.d (.list out)) μ2 else .stuck
    | _ => .stuck
  else .stuck
theorem lcRun_len {w : Walked} {ρ0 : Env} {bd : D → Env → Option Env} {c : Cd Bool} {f : Cd Val} {out : List D} {μ2 : Sto} : ∀ {xs acc : List D} {μ : Sto}, lcRun w ρ0 bd c f xs acc μ = .ok out μ2 → acc.length ≤ out.length
  | [], acc, μ, h => by cases h; exact Nat.le_refl _
  | x :: xs, acc, μ, h => by
    unfold lcRun at h
    split at h
    · cases h
    · split at h
      · split at h
        · split at h
          · have := lcRun_len h
            rw [List.length_append] at this
            exact Nat.le_trans (Nat.le_add_right _ _) this
          · cases h
        · cases h
      · split at h
        · exact lcRun_len h
        · cases h
      · cases h
section
variable {C : Ctx} {X : Cx} {W : WX} {pos : Pos} {K : PySem.W.Frag} {tg : Expr}
/-- a target binds -/
def Bd (K : PySem.W.Frag) (vs : List Nat) (g : TG) (bd : D → Env → Option Env) : Prop :=
  ∀ (C : Ctx) (I : Hp) (β : Nat → Addr) (ρ ρ' : Env) (μ : Sto) (σ : L2.St) (v : V) (x : D) (H : Hp) (Q : L2.St → Hp → Prop), Sub I H → ER C K I β ρ μ σ → Rp K I v x → bd x ρ = some ρ' → (∀ σ', ER C K I β ρ' μ σ' → L2.wipe σ' vs = L2.wipe σ vs → Q σ' H) → g v σ H Q
theorem wipe_get {σ : L2.St} : ∀ {vs : List Nat} {i : Nat}, (L2.wipe σ vs)[i]? = if i ∈ vs ∧ i < σ.length then some none else σ[i]?
  | [], i => by simp [L2.wipe]
  | v :: vs, i => by
    unfold L2.wipe
    by_cases hv : v = i
    · subst hv
      by_cases hi : v < σ.length
      · rw [List.getElem?_set_self (by rw [wipe_length]; exact hi), if_pos ⟨by simp, hi⟩]
      · rw [List.getElem?_eq_none (by rw [List.length_set, wipe_length]; omega), if_neg (fun z => hi z.2), List.getElem?_eq_none (by omega)]
    · rw [List.getElem?_set_ne hv, wipe_get]
      have : (i ∈ v :: vs) ↔ i ∈ vs := by simp [Ne.symm hv]
      simp only [this]
theorem wipe_same {σ σ' : L2.St} {vs : List Nat} (hl : σ'.length = σ.length) (h : ∀ i, i ∉ vs → σ'[i]? = σ[i]?) : L2.wipe σ' vs = L2.wipe σ vs := by
  apply List.ext_getElem?
  intro i
  rw [wipe_get, wipe_get, hl]
  by_cases hi : i ∈ vs
  · by_cases h2 : i < σ.length
    · rw [if_pos ⟨hi, h2⟩, if_pos ⟨hi, h2⟩]
    · rw [if_neg (fun z => h2 z.2), if_neg (fun z => h2 z.2), List.getElem?_eq_none (by omega), List.getElem?_eq_none (by omega)]
  · rw [if_neg (fun z => hi z.1), if_neg (fun z => hi z.1)]
    exact h i hi
theorem wipe_wipe {σ : L2.St} {vs : List Nat} : L2.wipe (L2.wipe σ vs) vs = L2.wipe σ vs := wipe_same (wipe_length _ _) fun i hi => by rw [wipe_get, if_neg (fun z => hi z.1)]
def bN (i : Nat) : D → Env → Option Env := fun x ρ => some (ρ.set i (some (.d x)))
def bP (i j : Nat) : D → Env → Option Env := fun x ρ => match x with
  | .tuple [a, b] => some ((ρ.set i (some (.d a))).set j (some (.d b)))
  | _ => none
theorem bd_n {vs : List Nat} {i : Nat} (hi : i ∈ vs) : Bd K vs (gName i) (bN i) := by
  intro C I β ρ ρ' μ σ v x H Q s e r h k
  cases h
  exact k _ (e.set (v := .d x) r) (wipe_same (List.length_set ..) fun j hj => List.getElem?_set_ne (fun z => hj (by rw [← z]; exact hi)))
theorem bd_p {vs : List Nat} {i j : Nat} (hi : i ∈ vs) (hj : j ∈ vs) : Bd K vs (gTup K 2 (gCons (gName i) (gCons (gName j) gNil))) (bP i j) := by
  intro C I β ρ ρ' μ σ v x H Q s e r h k
  unfold bP at h
  split at h
  · rename_i a b
    cases h
    obtain ⟨p, ys, rfl, h1, t1⟩ := r.of_tup
    match ys, t1 with
    | [y1, y2], t1 =>
      refine ⟨p, [y1, y2], rfl, s.seqT h1, rfl, y1, [y2], rfl, y2, [], rfl, rfl, ?_⟩
      refine k _ ((e.set (v := .d a) t1.head.1).set (v := .d b) t1.head.2.head.1) (wipe_same (by rw [List.length_set, List.length_set]) fun m hm => ?_)
      rw [List.getElem?_set_ne (fun z => hm (by rw [← z]; exact hj)), List.getElem?_set_ne (fun z => hm (by rw [← z]; exact hi))]
    | [], t1 => exact nomatch t1.dp
    | [_], t1 => exact absurd t1.length (by simp)
    | _ :: _ :: _ :: _, t1 => exact absurd t1.length (by simp)
  · cases h
def STs (C : Ctx) (X : Cx) (W : WX) (c : Cd Bool) (ifs : List Expr) : Prop := PTs X ifs (tT C X.K W c)
theorem PTs_imp {X : Cx} {e : List Expr} {t t' : TT} (h : PTs X e t) (k : ∀ σ H Q, t' σ H Q → t σ H Q) : PTs X e t' := ⟨fun pins s σ H Q I q => h.run pins s σ H Q I (k σ H Q q)⟩
def cYes : Cd Bool := fun _ μ => .ok true μ
theorem sts_nil : STs C X W cYes [] := PTs_imp pts_nil fun σ H Q h => by
  obtain ⟨I, β, ρ, μ, s, e, h⟩ := h
  exact Res.here s h rfl
theorem sts_one {e : Expr} {c : Cd Bool} (h : ST C X W c e) : STs C X W c [e] := pts_one h
theorem Ext.put {n : Nat} {I : Hp} {β : Nat → Addr} {μ : Sto} {H : Hp} {D : Addr} {o : HO} (hn : n ≤ μ.length) (h : H D = none) : Ext n I β μ H I β μ (upd H D o) where
  imm := Sub.refl _
  dom := fun a e => by
    by_cases ha : a = D
    · subst ha; exact h
    · rw [upd_ne ha] at e; exact e
  bet := fun _ _ => rfl
  len := hn
  fram := fun a u e _ => Sub.new h a u e
  new := fun l h1 h2 => .inr ⟨l, h1, h2, rfl⟩
  imn := fun _ _ e => .inl e
/-- an own place of ours is written -/
theorem Ext.own {n : Nat} {I I1 : Hp} {β β1 : Nat → Addr} {μ μ1 : Sto} {H H1 : Hp} {D : Addr} {o : HO} (x : Ext n I β μ H I1 β1 μ1 H1) (h : H D = none) : Ext n I β μ H I1 β1 μ1 (upd H1 D o) where
  imm := x.imm
  dom := fun a e => by
    by_cases ha : a = D
    · subst ha; exact h
    · rw [upd_ne ha] at e; exact x.dom a e
  bet := x.bet
  len := x.len
  fram := fun a u e hc => by rw [upd_ne (ne_of_none e h)]; exact x.fram a u e hc
  new := x.new
  imn := x.imn
theorem Ext.frz {n : Nat} {I I1 : Hp} {β β1 : Nat → Addr} {μ μ1 : Sto} {H H1 : Hp} {D : Addr} {o : HO} (x : Ext n I β μ H I1 β1 μ1 H1) (h : H D = none) (hi : I1 D = none) : Ext n I β μ H (upd I1 D o) β1 μ1 H1 where
  imm := x.imm.trans (Sub.new hi)
  dom := x.dom
  bet := x.bet
  len := x.len
  fram := x.fram
  new := x.new
  imn := fun a u e => by
    by_cases ha : a = D
    · subst ha; exact .inr (.inl h)
    · rw [upd_ne ha] at e; exact x.imn a u e
theorem okG_wh {I : Hp} {β : Nat → Addr} {μ : Sto} {H : Hp} {w : Walked} (s : SR K I β μ H) (h : okG w μ) : WH K I β w H := by
  refine ⟨s.imm, fun l e => ?_⟩
  unfold okG at h
  rw [e] at h
  exact s.cell l _ h
/-- the state within a comprehension -/
structure LcS (C : Ctx) (K : PySem.W.Frag) (w : Walked) (ρ0 : Env) (σ0 : L2.St) (D : Addr) (acc : List PyData) (I1 : Hp) (β1 : Nat → Addr) (μ1 : Sto) (H1 : Hp) (I : Hp) (β : Nat → Addr) (μ : Sto) (H : Hp) : Prop where
  s : SR K I β μ H
  e : ER C K I β ρ0 μ σ0
  ac : ∃ vs, H D = some (.lst vs) ∧ RpAll K I vs acc
  own : Own I β μ.length D
  ok : okG w μ
  x : Ext μ1.length I1 β1 μ1 H1 I β μ H
theorem lc_imp {iter : Expr} {own : List (Str × Nat)} {g : TG} {fw : Cd Walked} {bd : D → Env → Option Env} {c : Cd Bool} {f : Cd Val} (hi : SI C X W tg fw iter) (hb : Bd X.K (own.map (·.2)) g bd) {σ : L2.St} {H : Hp} {Q : VK} (h : tE C X.K W (cLc fw bd (own.map (·.2)) c f) σ H Q) :
    tLc (tI C X.K W fw) g (tT C X.K WF c) (tE C X.K WF f) (own.map (·.2)) σ H Q := by
  obtain ⟨I, β, ρ, μ, s, e, h⟩ := h
  refine ⟨I, β, ρ, μ, s, e, Res.bind h fun w μ1 I1 β1 H1 J q x1 s1 r1 h1 => ?_⟩
  intro D hD
  split at h1
  · rename_i hok
    split at h1
    · rename_i out μ2 hrun
      split at h1
      · rename_i hlim
        refine ⟨fun i m H' => m = w.1.length - i ∧ i ≤ w.1.length ∧ ∃ I' β' μ' acc, LcS C X.K w (wipeE ρ (own.map (·.2))) (L2.wipe σ (own.map (·.2))) D acc I1 β1 μ1 H1 I' β' μ' H' ∧ lcRun w (wipeE ρ (own.map (·.2))) bd c f (w.1.drop i) acc μ' = .ok out μ2, ⟨_, rfl, Nat.zero_le _, I1, β1, μ1, [], ?_, by simpa using hrun⟩, ?_⟩
        · have ow := s1.not_cell hD
          exact ⟨s1.other ow, (e.ext x1).wipe _, ⟨[], upd_same, .nil⟩, ow, okB_ok hok, Ext.put (Nat.le_refl _) hD⟩
        · rintro i m H' ⟨rfl, him, I', β', μ', acc, S, hr⟩
          have hwb : ∀ l, w.2 = some l → β' l = β1 l := fun l z => S.x.bet l (r1.lt l z)
          have hwh := okG_wh S.s S.ok
          by_cases hlt : i < w.1.length
          · refine .inr ⟨r1.go I' β' H' i S.x.imm hwb hwh hlt, fun H2 => ∃ m', m' < w.1.length - i ∧ (m' = w.1.length - (i + 1) ∧ i + 1 ≤ w.1.length ∧ ∃ I' β' μ' acc, LcS C X.K w (wipeE ρ (own.map (·.2))) (L2.wipe σ (own.map (·.2))) D acc I1 β1 μ1 H1 I' β' μ' H2 ∧ lcRun w (wipeE ρ (own.map (·.2))) bd c f (w.1.drop (i + 1)) acc μ' = .ok out μ2), fun _ z => z, ?_⟩
            intro v H2 hy
            obtain ⟨x, hx⟩ : ∃ x, w.1[i]? = some x := ⟨_, List.getElem?_eq_getElem hlt⟩
            have hdrop : w.1.drop i = x :: w.1.drop (i + 1) := by
              rw [List.drop_eq_getElem_cons hlt]
              congr 1
              rw [List.getElem?_eq_getElem hlt] at hx
              exact Option.some.inj hx
            rw [hdrop] at hr
            unfold lcRun at hr
            -- the state behind the step
            have key : ∃ I2, SR X.K I2 β' μ' H2 ∧ ER C X.K I2 β' (wipeE ρ (own.map (·.2))) μ' (L2.wipe σ (own.map (·.2))) ∧ (∃ vs, H2 D = some (.lst vs) ∧ RpAll X.K I2 vs acc) ∧ Own I2 β' μ'.length D ∧ Ext μ1.length I1 β1 μ1 H1 I2 β' μ' H2 ∧ Rp X.K I2 v x := by
              obtain ⟨vs, hv, tv⟩ := S.ac
              rcases r1.yld I' β' H' i v H2 x S.x.imm hwb hwh hx hy with ⟨rfl, rp⟩ | ⟨p, o, hp, rfl, rp⟩
              · exact ⟨I', S.s, S.e, ⟨vs, hv, tv⟩, S.own, S.x, rp⟩
              · obtain ⟨s', x'⟩ := S.s.lay (o := o) hp
                have hpD : D ≠ p := ne_of_none hv hp
                exact ⟨_, s', S.e.ext x', ⟨vs, by rw [upd_ne hpD]; exact hv, (Sub.new (S.s.imm.fresh hp)).rpAll tv⟩, ⟨by rw [upd_ne hpD]; exact S.own.i, S.own.b⟩, S.x.trans (Nat.le_refl _) (x'.lower S.x.len (Nat.le_refl _)), rp⟩
            obtain ⟨I2, s2, e2, ⟨vs, hv, tv⟩, ow2, xx, rp⟩ := key
            cases hbd : bd x (wipeE ρ (own.map (·.2))) with
            | none => rw [hbd] at hr; cases hr
            | some ρ1 =>
              simp only [hbd] at hr
              refine hb C I2 β' _ ρ1 μ' _ v x H2 _ s2.imm e2 rp hbd fun σ2 e3 hw => ⟨hw.trans wipe_wipe, ?_⟩
              refine ⟨I2, β', ρ1, μ', s2, e3, ?_⟩
              cases hcc : c ρ1 μ' with
              | exc cn pl μ3 => rw [hcc] at hr; cases hr
              | stuck => rw [hcc] at hr; cases hr
              | ok b μ3 =>
                simp only [hcc] at hr
                intro I3 β3 H3 b' x3 s3 rb
                cases rb
                have hv3 : H3 D = some (.lst vs) := x3.fram D _ hv ow2.b
                have ow3 := ow2.ext hv x3
                cases b with
                | false =>
                  refine iteF ?_
                  simp only at hr
                  split at hr
                  · rename_i hok3
                    refine ⟨_, by omega, rfl, by omega, I3, β3, μ3, acc, ⟨s3, e2.ext x3, ⟨vs, hv3, x3.imm.rpAll tv⟩, ow3, (okB_ok hok3), xx.trans (Nat.le_refl _) (x3.lower xx.len (Nat.le_refl _))⟩, hr⟩
                  · cases hr
                | true =>
                  refine iteT ?_
                  simp only at hr
                  refine ⟨I3, β3, ρ1, μ3, s3, e3.ext x3, ?_⟩
                  cases hff : f ρ1 μ3 with
                  | exc cn pl μ4 => rw [hff] at hr; cases hr
                  | stuck => rw [hff] at hr; cases hr
                  | ok a μ4 =>
                    rw [hff] at hr
                    cases a with
                    | loc l => cases hr
                    | exn => cases hr
                    | d y =>
                      simp only at hr
                      split at hr
                      · rename_i hok4
                        intro I4 β4 H4 u x4 s4 ru
                        have hv4 : H4 D = some (.lst vs) := x4.fram D _ hv3 ow3.b
                        have ow4 := ow3.ext hv3 x4
                        have hl := lcRun_len hr
                        rw [List.length_append] at hl
                        have hvl := tv.length
                        refine ⟨vs, hv4, ?_, ?_⟩
                        · have := of_decide_eq_true hlim
                          have z : 100000 < sizeLine := by decide
                          simp at hl
                          omega
                        · refine ⟨_, by omega, rfl, by omega, I4, β4, μ4, acc ++ [y], ⟨s4.other ow4, (e2.ext x3).ext x4, ⟨vs ++ [u], upd_same, ((x4.imm.rpAll (x3.imm.rpAll tv)).app (.cons ru .nil))⟩, ow4, okB_ok hok4, Ext.own ((xx.trans (Nat.le_refl _) (x3.lower xx.len (Nat.le_refl _))).trans (Nat.le_refl _) (x4.lower (Nat.le_trans xx.len x3.len) (Nat.le_refl _))) hD⟩, hr⟩
                      · cases hr
          · have hie : i = w.1.length := Nat.le_antisymm him (Nat.le_of_not_lt hlt)
            subst hie
            refine .inl ⟨r1.stop I' β' H' S.x.imm hwb hwh, ?_⟩
            rw [List.drop_length] at hr
            unfold lcRun at hr
            injection hr with hr1 hr2
            subst hr1; subst hr2
            obtain ⟨vs, hv, tv⟩ := S.ac
            exact h1 _ _ H' (.ref D) (S.x.frz hD S.own.i) (S.s.freeze S.own hv) (Rp.list (SqL.of upd_same) ((Sub.new S.own.i).rpAll tv))
      · exact h1.elim
    · exact h1.elim
  · exact h1.elim
theorem se_lc {elt iter : Expr} {ifs : List Expr} {scope : Scope} {own : List (Str × Nat)} {g : TG} {fw : Cd Walked} {bd : D → Env → Option Env} {c : Cd Bool} {f : Cd Val} (hc : X.calm = true) (hN : X.N.Nodup) (hi : SI C X W tg fw iter) (ok : BlkOk X.N X.env.scope scope own)
    (hg : ∀ (s : Shared) (H : Hp) (B : Addr) (cl : List (Str × Addr)) (fp : List Addr), PG (X.blk s H scope (compEnvC scope cl B X.env) fp) tg g) (hb : Bd X.K (own.map (·.2)) g bd)
    (ht : ∀ (s : Shared) (H : Hp) (B : Addr) (cl : List (Str × Addr)) (fp : List Addr), STs C (X.blk s H scope (compEnvC scope cl B X.env) fp) WF c ifs)
    (he : ∀ (s : Shared) (H : Hp) (B : Addr) (cl : List (Str × Addr)) (fp : List Addr), SE C (X.blk s H scope (compEnvC scope cl B X.env) fp) WF f elt) (hs : ∀ x, foldedSetIterable iter X.env x = pure x := by intro _; rfl) :
    SE C X W (cLc fw bd (own.map (·.2)) c f) (.ListComp elt [⟨tg, iter, ifs, 0⟩] scope pos) := PE_imp (pe_lc (tt := tT C X.K WF c) (te := tE C X.K WF f) hc hN hi ok hg ht he hs) fun σ H Q h => lc_imp hi hb h
end
end FW


set_option Elab.async false
set_option linter.all false
set_option maxRecDepth 100000
set_option maxHeartbeats 1000000
namespace FW
open PySem PySem.Spec PyProof.Rows L2

/-! ### statements -/
def OutOk (C : Ctx) (K : PySem.W.Frag) (W : WX) (D : Ends) (n0 : Nat) (I : Hp) (β : Nat → Addr) (μ : Sto) (H : Hp) : O → Prop
  | .next ρ' μ' => ∀ I' β' σ' H', Ext n0 I β μ H I' β' μ' H' → SR K I' β' μ' H' → ER C K I' β' ρ' μ' σ' → D.nx σ' H'
  | .ret v μ' => ∀ I' β' H' w, Ext n0 I β μ H I' β' μ' H' → SR K I' β' μ' H' → RV C K I' β' μ'.length v w → D.rt w H'
  | .brk ρ' μ' => ∀ I' β' σ' H', Ext n0 I β μ H I' β' μ' H' → SR K I' β' μ' H' → ER C K I' β' ρ' μ' σ' → D.bk σ' H'
  | .cont ρ' μ' => ∀ I' β' σ' H', Ext n0 I β μ H I' β' μ' H' → SR K I' β' μ' H' → ER C K I' β' ρ' μ' σ' → D.ct σ' H'
  | .exc cn pl ρ' μ' => ∀ I' β' σ' H' cls dd, Ext n0 I β μ H I' β' μ' H' → SR K I' β' μ' H' → ER C K I' β' ρ' μ' σ' → ExcAt C K I' cn pl cls dd → W cls (some dd) σ' H'
  | .stuck => False
def tS (C : Ctx) (K : PySem.W.Frag) (W : WX) (f : Sc) : TS := fun D σ H => ∃ n0 I β ρ μ, n0 ≤ μ.length ∧ SR K I β μ H ∧ ER C K I β ρ μ σ ∧ OutOk C K W D n0 I β μ H (f n0 ρ μ)
def SS (C : Ctx) (X : Cx) (W : WX) (f : Sc) (st : Stmt) : Prop := PS X st (tS C X.K W f)
def SSs (C : Ctx) (X : Cx) (W : WX) (f : Sc) (st : List Stmt) : Prop := PSs X st (tS C X.K W f)
section
variable {C : Ctx} {K : PySem.W.Frag} {W : WX} {D : Ends} {n0 : Nat} {σ : L2.St} {I I1 : Hp} {β β1 : Nat → Addr} {ρ : Env} {μ μ1 : Sto} {H H1 : Hp} {α τ : Type}
theorem OutOk.re {o : O} (hn : n0 ≤ μ.length) (x : Ext n0 I β μ H I1 β1 μ1 H1) (h : OutOk C K W D n0 I β μ H o) : OutOk C K W D n0 I1 β1 μ1 H1 o := by
  cases o with
  | next ρ' μ' => exact fun I' β' σ' H' x' s' e' => h I' β' σ' H' (x.trans hn x') s' e'
  | ret v μ' => exact fun I' β' H' w x' s' r' => h I' β' H' w (x.trans hn x') s' r'
  | brk ρ' μ' => exact fun I' β' σ' H' x' s' e' => h I' β' σ' H' (x.trans hn x') s' e'
  | cont ρ' μ' => exact fun I' β' σ' H' x' s' e' => h I' β' σ' H' (x.trans hn x') s' e'
  | exc cn pl ρ' μ' => exact fun I' β' σ' H' cls dd x' s' e' z => h I' β' σ' H' cls dd (x.trans hn x') s' e' z
  | stuck => exact h
theorem OutOk.bind {rel : Rel α τ} {Q1 : τ → Hp → Prop} {r : R α} {g : α → Sto → O} (hn : n0 ≤ μ.length) (e : ER C K I β ρ μ σ) (h : OutOk C K W D n0 I β μ H (lift r ρ g))
    (k : ∀ a μ1 I1 β1 H1 t, r = .ok a μ1 → Ext μ.length I β μ H I1 β1 μ1 H1 → SR K I1 β1 μ1 H1 → n0 ≤ μ1.length → rel I1 β1 μ1.length a t → OutOk C K W D n0 I1 β1 μ1 H1 (g a μ1) → Q1 t H1) : Res C K W σ I β μ H rel Q1 r := by
  cases r with
  | ok a μ' => exact fun I' β' H' t x' s' r' => k a μ' I' β' H' t rfl x' s' (Nat.le_trans hn x'.len) r' (OutOk.re hn (x'.lower hn (Nat.le_refl _)) h)
  | exc cn pl μ' => exact fun I' β' H' cls dd x' s' z => h I' β' σ H' cls dd (x'.lower hn (Nat.le_refl _)) s' (e.ext x') z
  | stuck => exact h
/-- the end of a statement, as the state stands -/
theorem OutOk.here {ρ' : Env} {σ' : L2.St} (hn : n0 ≤ μ.length) (s : SR K I β μ H) (e : ER C K I β ρ' μ σ') (h : OutOk C K W D n0 I β μ H (.next ρ' μ)) : D.nx σ' H := h I β σ' H (Ext.refl hn) s e
end
section
variable {C : Ctx} {X : Cx} {W : WX} {pos : Pos} {K : PySem.W.Frag}
def sSkip : Sc := fun _ ρ μ => .next ρ μ
def sSeq (f g : Sc) : Sc := fun n0 ρ μ => match f n0 ρ μ with
  | .next ρ' μ' => g n0 ρ' μ'
  | o => o
theorem sss_nil : SSs C X W sSkip [] := PSs_imp pss_nil fun D σ H h => by
  obtain ⟨n0, I, β, ρ, μ, hn, s, e, h⟩ := h
  exact OutOk.here hn s e h
theorem ss_pass : SS C X W sSkip (.Pass pos) := PS_imp ps_pass fun D σ H h => by
  obtain ⟨n0, I, β, ρ, μ, hn, s, e, h⟩ := h
  exact OutOk.here hn s e h
theorem ss_doc {x j pos'} : SS C X W sSkip (.Expr (.Constant (.str x) j pos) pos') := PS_imp ps_doc fun D σ H h => by
  obtain ⟨n0, I, β, ρ, μ, hn, s, e, h⟩ := h
  exact OutOk.here hn s e h
theorem sss_cons {st : Stmt} {rest : List Stmt} {f g : Sc} (h1 : SS C X W f st) (h2 : SSs C X W g rest) : SSs C X W (sSeq f g) (st :: rest) := PSs_imp (pss_cons h1 h2) fun D σ H h => by
  obtain ⟨n0, I, β, ρ, μ, hn, s, e, h⟩ := h
  refine ⟨n0, I, β, ρ, μ, hn, s, e, ?_⟩
  unfold sSeq at h
  split at h
  · rename_i ρ' μ' hf
    rw [hf]
    exact fun I' β' σ' H' x' s' e' => ⟨n0, I', β', ρ', μ', x'.len, s', e', OutOk.re hn x' h⟩
  · rename_i o hf
    cases hq : f n0 ρ μ with
    | next ρ' μ' => exact (hf ρ' μ' hq).elim
    | ret v μ' => rw [hq] at h; exact h
    | brk ρ' μ' => rw [hq] at h; exact h
    | cont ρ' μ' => rw [hq] at h; exact h
    | exc cn pl ρ' μ' => rw [hq] at h; exact h
    | stuck => rw [hq] at h; exact h
theorem sss_one {st : Stmt} {f : Sc} (h1 : SS C X W f st) : SSs C X W f [st] := PSs_imp (pss_one h1) fun D σ H h => h
def sSet (i : Nat) (f : Cd Val) : Sc := fun n0 ρ μ => lift (f ρ μ) ρ fun v μ1 => .next (ρ.set i (some v)) μ1
theorem ss_set {i : Nat} {x : Str} {e : Expr} {f : Cd Val} {pos' : Pos} (hN : X.N.Nodup) (hi : X.N[i]? = some x) (hx : Loc X.env.scope x) (he : SE C X W f e) (hs : swapsWith e (some (.Name x pos')) pos.line X.env = pure false := by rfl)
    (hf : X.fn x = true ∨ X.env.scope.names.lookup x = some .local := by first | exact .inl rfl | exact .inr rfl | assumption) : SS C X W (sSet i f) (.Assign [.Name x pos'] e pos) := PS_imp (ps_set hN hi hx he hs hf) fun D σ H h => by
  obtain ⟨n0, I, β, ρ, μ, hn, s, e, h⟩ := h
  exact ⟨I, β, ρ, μ, s, e, OutOk.bind hn e h fun v μ1 I1 β1 H1 w q x1 s1 n1 r1 h1 => OutOk.here n1 s1 ((e.ext x1).set r1) h1⟩
theorem ss_setLc {i : Nat} {y : Str} {py spos : Pos} {elt tg iter : Expr} {ifs : List Expr} {scope : Scope} {own : List (Str × Nat)} {g : TG} {fw : Cd Walked} {bd : PyData → Env → Option Env} {c : Cd Bool} {f : Cd Val} (hc : X.calm = true) (hN : X.N.Nodup) (hy : X.N[i]? = some y) (hyl : X.env.scope.names.lookup y = some .local)
    (hsw : swapsWith (.ListComp elt [⟨tg, iter, ifs, 0⟩] scope pos) (some (.Name y py)) spos.line X.env = pure true) (hi : SI C X W tg fw iter) (ok : BlkOk X.N X.env.scope scope own)
    (hg : ∀ (s : Shared) (H : Hp) (B : Addr) (cl : List (Str × Addr)) (fp : List Addr), PG (X.blk s H scope (compEnvC scope cl B X.env) fp) tg g) (hb : Bd X.K (own.map (·.2)) g bd)
    (ht : ∀ (s : Shared) (H : Hp) (B : Addr) (cl : List (Str × Addr)) (fp : List Addr), STs C (X.blk s H scope (compEnvC scope cl B X.env) fp) WF c ifs)
    (he : ∀ (s : Shared) (H : Hp) (B : Addr) (cl : List (Str × Addr)) (fp : List Addr), SE C (X.blk s H scope (compEnvC scope cl B X.env) fp) WF f elt) (hs : ∀ x, foldedSetIterable iter X.env x = pure x := by intro _; rfl) :
    SS C X W (sSet i (cLc fw bd (own.map (·.2)) c f)) (.Assign [.Name y py] (.ListComp elt [⟨tg, iter, ifs, 0⟩] scope pos) spos) := PS_imp (ps_setLc (tt := tT C X.K WF c) (te := tE C X.K WF f) hc hN hy hyl hsw hi ok hg ht he hs) fun D σ H h => by
  obtain ⟨n0, I, β, ρ, μ, hn, s, e, h⟩ := h
  refine lc_imp hi hb ⟨I, β, ρ, μ, s, e, OutOk.bind hn e h fun v μ1 I1 β1 H1 w q x1 s1 n1 r1 h1 => OutOk.here n1 s1 ((e.ext x1).set r1) h1⟩
def sRet (f : Cd Val) : Sc := fun n0 ρ μ => lift (f ρ μ) ρ fun v μ1 => .ret v μ1
theorem ss_ret {e : Expr} {f : Cd Val} (he : SE C X W f e) : SS C X W (sRet f) (.Return (some e) pos) := PS_imp (ps_ret he) fun D σ H h => by
  obtain ⟨n0, I, β, ρ, μ, hn, s, e, h⟩ := h
  exact ⟨I, β, ρ, μ, s, e, OutOk.bind hn e h fun v μ1 I1 β1 H1 w q x1 s1 n1 r1 h1 => h1 I1 β1 H1 w (Ext.refl n1) s1 r1⟩
def sRetN : Sc := fun n0 ρ μ => .ret (.d .none) μ
theorem ss_retN : SS C X W sRetN (.Return none pos) := PS_imp ps_retN fun D σ H h => by
  obtain ⟨n0, I, β, ρ, μ, hn, s, e, h⟩ := h
  exact h I β H .non (Ext.refl hn) s Rp.non
def sExpr (f : Cd Val) : Sc := fun n0 ρ μ => lift (f ρ μ) ρ fun _ μ1 => .next ρ μ1
theorem ss_expr {e : Expr} {f : Cd Val} (he : SE C X W f e) (hs : swapsWith e none pos.line X.env = pure false := by rfl) : SS C X W (sExpr f) (.Expr e pos) := PS_imp (ps_expr he hs) fun D σ H h => by
  obtain ⟨n0, I, β, ρ, μ, hn, s, e, h⟩ := h
  exact ⟨I, β, ρ, μ, s, e, OutOk.bind hn e h fun v μ1 I1 β1 H1 w q x1 s1 n1 r1 h1 => OutOk.here n1 s1 (e.ext x1) h1⟩
def sIf (t : Cd Bool) (f g : Sc) : Sc := fun n0 ρ μ => lift (t ρ μ) ρ fun b μ1 => match b with
  | true => f n0 ρ μ1
  | false => g n0 ρ μ1
theorem ss_if {c : Expr} {a b : List Stmt} {t : Cd Bool} {f g : Sc} (hc : ST C X W t c) (ha : SSs C X W f a) (hb : SSs C X W g b) : SS C X W (sIf t f g) (.If c a b pos) := PS_imp (ps_if hc ha hb) fun D σ H h => by
  obtain ⟨n0, I, β, ρ, μ, hn, s, e, h⟩ := h
  refine ⟨I, β, ρ, μ, s, e, OutOk.bind hn e h fun v μ1 I1 β1 H1 w q x1 s1 n1 r1 h1 => ?_⟩
  cases r1
  split at h1
  · exact iteT ⟨n0, I1, β1, ρ, μ1, n1, s1, e.ext x1, h1⟩
  · exact iteF ⟨n0, I1, β1, ρ, μ1, n1, s1, e.ext x1, h1⟩
def sBrk : Sc := fun _ ρ μ => .brk ρ μ
def sCont : Sc := fun _ ρ μ => .cont ρ μ
theorem ss_brk : SS C X W sBrk (.Break pos) := PS_imp ps_break fun D σ H h => by
  obtain ⟨n0, I, β, ρ, μ, hn, s, e, h⟩ := h
  exact h I β σ H (Ext.refl hn) s e
theorem ss_cont : SS C X W sCont (.Continue pos) := PS_imp ps_continue fun D σ H h => by
  obtain ⟨n0, I, β, ρ, μ, hn, s, e, h⟩ := h
  exact h I β σ H (Ext.refl hn) s e
/-! a, b = x, y (two locals) -/
def sPar (i j : Nat) (f g : Cd Val) : Sc := fun n0 ρ μ => lift (f ρ μ) ρ fun v μ1 => lift (g ρ μ1) ρ fun u μ2 => .next ((ρ.set i (some v)).set j (some u)) μ2
theorem ss_par {i j : Nat} {x y : Str} {a b : Expr} {f g : Cd Val} {px py pt : Pos} {kt k2 pt2} (hc : X.calm = true) (hN : X.N.Nodup) (hi : X.N[i]? = some x) (hj : X.N[j]? = some y) (hij : i ≠ j)
    (hx : X.env.scope.names.lookup x = some .local) (hy : X.env.scope.names.lookup y = some .local) (ha : SE C X W f a) (hb : SE C X W g b)
    (hw : swappedStores [.Tuple [.Name x px, .Name y py] kt pt] (.Tuple [a, b] k2 pt2) X.env = pure (some [x, y]))
    (hs : swapsWithSole [.Tuple [.Name x px, .Name y py] kt pt] (.Tuple [a, b] k2 pt2) pos.line X.env = pure false := by rfl) (h1 : starEach [a, b] X.env = (false, eval a X.env) :: starEach [b] X.env := by rfl) (h2 : starEach [b] X.env = (false, eval b X.env) :: starEach [] X.env := by rfl) :
    SS C X W (sPar i j f g) (.Assign [.Tuple [.Name x px, .Name y py] kt pt] (.Tuple [a, b] k2 pt2) pos) := PS_imp (ps_par hc hN hi hj hij hx hy (pa_cons ha (pa_cons hb pa_nil h2) h1) hw hs) fun D σ H h => by
  obtain ⟨n0, I, β, ρ, μ, hn, s, e, h⟩ := h
  refine ⟨I, β, ρ, μ, s, e, OutOk.bind hn e h fun v μ1 I1 β1 H1 w q x1 s1 n1 r1 h1 => ?_⟩
  refine ⟨I1, β1, ρ, μ1, s1, e.ext x1, OutOk.bind n1 (e.ext x1) h1 fun u μ2 I2 β2 H2 w2 q2 x2 s2 n2 r2 h2 => ?_⟩
  exact ⟨_, _, rfl, OutOk.here n2 s2 ((((e.ext x1).ext x2).set (r1.mono x2.imm x2.bet x2.len)).set r2) h2⟩
end
end FW


set_option Elab.async false
set_option linter.all false
set_option maxRecDepth 100000
set_option maxHeartbeats 1000000
namespace FW
open PySem PySem.Spec PyProof.Rows L2
section
variable {C : Ctx} {X : Cx} {W : WX} {pos : Pos} {K : PySem.W.Frag}

/-! ### cells are written -/
theorem getElem?_set_eq {α : Type} {l : List α} {i j : Nat} {a b : α} (h : (l.set i a)[j]? = some b) : (i = j ∧ b = a ∧ i < l.length) ∨ (i ≠ j ∧ l[j]? = some b) := by
  by_cases e : i = j
  · subst e
    by_cases hi : i < l.length
    · rw [List.getElem?_set_self hi] at h
      exact .inl ⟨rfl, (Option.some.inj h).symm, hi⟩
    · rw [List.getElem?_eq_none (by rw [List.length_set]; omega)] at h
      cases h
  · rw [List.getElem?_set_ne e] at h
    exact .inr ⟨e, h⟩
theorem SR.put {I : Hp} {β : Nat → Addr} {μ : Sto} {H : Hp} {l : Nat} {xs : List D} {ys : List V} (s : SR K I β μ H) (hl : l < μ.length) (t : RpAll K I ys xs) : SR K I β (μ.set l (.lst xs)) (upd H (β l) (.lst ys)) ∧ Ext μ.length I β μ H I β (μ.set l (.lst xs)) (upd H (β l) (.lst ys)) := by
  have some_at : ∃ o, H (β l) = some o := by
    have q := s.cell l _ (List.getElem?_eq_getElem hl)
    cases hc : μ[l] with
    | lst xs => rw [hc] at q; obtain ⟨ys, h1, _⟩ := q; exact ⟨_, h1⟩
    | dct kvs => rw [hc] at q; exact q.elim
  refine ⟨⟨fun a u e => ?_, fun m hm => ?_, fun a b ha hb => ?_, fun m c hc => ?_⟩, ⟨Sub.refl _, fun a e => ?_, fun _ _ => rfl, by rw [List.length_set]; exact Nat.le_refl _, fun a u e hb => ?_, fun m h1 h2 => ?_, fun _ _ e => .inl e⟩⟩
  · have : a ≠ β l := fun z => by rw [z, s.fr l hl] at e; cases e
    rw [upd_ne this]; exact s.imm a u e
  · rw [List.length_set] at hm; exact s.fr m hm
  · rw [List.length_set] at ha hb; exact s.inj a b ha hb
  · rcases getElem?_set_eq hc with ⟨rfl, rfl, _⟩ | ⟨hne, hc'⟩
    · exact ⟨ys, upd_same, t⟩
    · have hm : m < μ.length := (List.getElem?_eq_some_iff.mp hc').1
      have ne : β m ≠ β l := fun z => hne (s.inj _ _ hm hl z).symm
      have q := s.cell m c hc'
      cases c with
      | lst zs => obtain ⟨vs, h1, h2⟩ := q; exact ⟨vs, by rw [upd_ne ne]; exact h1, h2⟩
      | dct kvs => exact q
  · by_cases ha : a = β l
    · subst ha; rw [upd_same] at e; cases e
    · rw [upd_ne ha] at e; exact e
  · rw [upd_ne (fun z => hb l hl z.symm)]; exact e
  · rw [List.length_set] at h2; exact absurd h2 (Nat.not_lt.mpr h1)
/-- a new cell -/
theorem SR.alloc {I : Hp} {β : Nat → Addr} {μ : Sto} {H : Hp} {p : Addr} {xs : List D} {ys : List V} (s : SR K I β μ H) (hp : H p = none) (t : RpAll K I ys xs) :
    ∃ β', SR K I β' (μ ++ [.lst xs]) (upd H p (.lst ys)) ∧ Ext μ.length I β μ H I β' (μ ++ [.lst xs]) (upd H p (.lst ys)) ∧ β' μ.length = p := by
  have ow := s.not_cell hp
  obtain ⟨β', bl, bn⟩ : ∃ β' : Nat → Addr, (∀ m, m < μ.length → β' m = β m) ∧ β' μ.length = p :=
    ⟨fun m => if m = μ.length then p else β m, fun m hm => by show (if m = μ.length then p else β m) = β m; rw [if_neg (Nat.ne_of_lt hm)], by show (if μ.length = μ.length then p else β μ.length) = p; rw [if_pos rfl]⟩
  refine ⟨β', ⟨fun a u e => ?_, fun m hm => ?_, fun a b ha hb => ?_, fun m c hc => ?_⟩, ⟨Sub.refl _, fun a e => ?_, bl, by rw [List.length_append]; exact Nat.le_add_right _ _, fun a u e hb => Sub.new hp a u e, fun m h1 h2 => ?_, fun _ _ e => .inl e⟩, bn⟩
  · exact Sub.new hp a u (s.imm a u e)
  · rw [List.length_append, List.length_singleton] at hm
    by_cases q : m = μ.length
    · rw [q, bn]; exact ow.i
    · rw [bl m (by omega)]; exact s.fr m (by omega)
  · rw [List.length_append, List.length_singleton] at ha hb
    by_cases qa : a = μ.length
    · by_cases qb : b = μ.length
      · rw [qa, qb]; exact fun _ => rfl
      · rw [qa, bn, bl b (by omega)]
        exact fun z => (ow.b b (by omega) z.symm).elim
    · by_cases qb : b = μ.length
      · rw [qb, bn, bl a (by omega)]
        exact fun z => (ow.b a (by omega) z).elim
      · rw [bl a (by omega), bl b (by omega)]
        exact s.inj a b (by omega) (by omega)
  · by_cases q : m < μ.length
    · rw [List.getElem?_append_left q] at hc
      have z := s.cell m c hc
      rw [bl m q]
      cases c with
      | lst zs => obtain ⟨vs, h1, h2⟩ := z; exact ⟨vs, by rw [upd_ne (ow.b m q)]; exact h1, h2⟩
      | dct kvs => exact z
    · have hm : m < (μ ++ [Cell.lst xs]).length := (List.getElem?_eq_some_iff.mp hc).1
      rw [List.length_append, List.length_singleton] at hm
      have e : m = μ.length := by omega
      subst e
      rw [List.getElem?_append_right (Nat.le_refl _), Nat.sub_self] at hc
      cases hc
      rw [bn]
      exact ⟨ys, upd_same, t⟩
  · by_cases ha : a = p
    · subst ha; rw [upd_same] at e; cases e
    · rw [upd_ne ha] at e; exact e
  · rw [List.length_append, List.length_singleton] at h2
    have e : m = μ.length := by omega
    subst e
    rw [bn]
    exact .inl hp
/-! x = [a, b, ..]: a new cell -/
def sNew (i : Nat) (f : Cd (List Val)) : Sc := fun n0 ρ μ => lift (f ρ μ) ρ fun vs μ1 => match dats vs with
  | some xs => if lim xs.length = true then .next (ρ.set i (some (.loc μ1.length))) (μ1 ++ [.lst xs]) else .stuck
  | none => .stuck
theorem OutOk.alloc {D : Ends} {n0 i : Nat} {σ : L2.St} {I : Hp} {β : Nat → Addr} {ρ : Env} {μ : Sto} {H : Hp} {p : Addr} {xs : List PyData} {ys : List V} (hn : n0 ≤ μ.length) (s : SR K I β μ H) (e : ER C K I β ρ μ σ) (hp : H p = none) (t : RpAll K I ys xs)
    (h : OutOk C K W D n0 I β μ H (.next (ρ.set i (some (.loc μ.length))) (μ ++ [.lst xs]))) : D.nx (σ.set i (some (.ref p))) (upd H p (.lst ys)) := by
  obtain ⟨β', s', x', hb⟩ := s.alloc hp t
  exact h I β' _ _ (x'.lower hn (Nat.le_refl _)) s' ((e.ext x').set (v := .loc μ.length) ⟨by rw [hb], by rw [List.length_append]; exact Nat.lt_succ_self _⟩)
theorem ss_new {i : Nat} {x : Str} {es : List Expr} {f : Cd (List Val)} {pos' p2 : Pos} (hN : X.N.Nodup) (hi : X.N[i]? = some x) (hx : Loc X.env.scope x) (he : SA C X W f es) (hs : swapsWith (.List es p2) (some (.Name x pos')) pos.line X.env = pure false := by rfl)
    (hf : X.fn x = true ∨ X.env.scope.names.lookup x = some .local := by first | exact .inl rfl | exact .inr rfl | assumption) : SS C X W (sNew i f) (.Assign [.Name x pos'] (.List es p2) pos) := PS_imp (ps_set hN hi hx (pe_lst he) hs hf) fun D σ H h => by
  obtain ⟨n0, I, β, ρ, μ, hn, s, e, h⟩ := h
  refine ⟨I, β, ρ, μ, s, e, OutOk.bind hn e h fun vs μ1 I1 β1 H1 w q x1 s1 n1 r1 h1 => ?_⟩
  split at h1
  · rename_i xs hx
    split at h1
    · rename_i hl
      have rr := dats_rp r1 hx
      exact ⟨by rw [rr.length]; exact lim_size hl, fun p hp => OutOk.alloc n1 s1 (e.ext x1) hp rr h1⟩
    · exact h1.elim
  · exact h1.elim
/-! x = list(e): a new cell -/
def sNewL (i : Nat) (f : Cd Val) : Sc := fun n0 ρ μ => lift (f ρ μ) ρ fun v μ1 => match rd v μ1 with
  | some (.list xs) => .next (ρ.set i (some (.loc μ1.length))) (μ1 ++ [.lst xs])
  | some (.tuple xs) => .next (ρ.set i (some (.loc μ1.length))) (μ1 ++ [.lst xs])
  | _ => .stuck
theorem ss_newL {i : Nat} {x : Str} {e : Expr} {f : Cd Val} {pos' p2 p3 : Pos} (hN : X.N.Nodup) (hi : X.N[i]? = some x) (hx : Loc X.env.scope x) (he : SE C X W f e) (hg : Gl X "list") (hm : X.mg "list" = none) (hst : starEach [e] X.env = (false, eval e X.env) :: starEach [] X.env := by rfl) (hpl : (backTo p3 (starEach [] X.env)).any (·.1) = false := by rfl)
    (hs : swapsWith (.Call (.Name "list" p2) [e] [] p3) (some (.Name x pos')) pos.line X.env = pure false := by rfl)
    (hf : X.fn x = true ∨ X.env.scope.names.lookup x = some .local := by first | exact .inl rfl | exact .inr rfl | assumption) : SS C X W (sNewL i f) (.Assign [.Name x pos'] (.Call (.Name "list" p2) [e] [] p3) pos) :=
  PS_imp (ps_set hN hi hx (pe_callTy call_list_of hg hm (by decide +kernel) (pa_cons he pa_nil hst) (by decide) (by decide) hst hpl) hs hf) fun D σ H h => by
  obtain ⟨n0, I, β, ρ, μ, hn, s, e, h⟩ := h
  refine ⟨I, β, ρ, μ, s, e, OutOk.bind hn e h fun v μ1 I1 β1 H1 w q x1 s1 n1 r1 h1 => ?_⟩
  split at h1
  · rename_i xs hx
    obtain ⟨a, ys, rfl, g1, t1⟩ := (r1.rd s1 hx).of_list s1.imm
    exact ⟨a, ys, rfl, .inl g1, fun p hp => OutOk.alloc n1 s1 (e.ext x1) hp t1 h1⟩
  · rename_i xs hx
    obtain ⟨a, ys, rfl, g1, t1⟩ := (r1.rd s1 hx).of_tup
    exact ⟨a, ys, rfl, .inr (s1.imm.seqT g1), fun p hp => OutOk.alloc n1 s1 (e.ext x1) hp t1 h1⟩
  · exact h1.elim
/-! x[i] = e on a cell -/
def sPut (fo fi fe : Cd Val) : Sc := fun n0 ρ μ => lift (fe ρ μ) ρ fun v μ1 => lift (fo ρ μ1) ρ fun o μ2 => lift (fi ρ μ2) ρ fun k μ3 => match o, rd k μ3, v with
  | .loc l, some (.int j), .d x => match μ3[l]? with
    | some (.lst xs) => match ixN xs.length j with
      | some m => .next ρ (μ3.set l (.lst (xs.set m x)))
      | none => .stuck
    | _ => .stuck
  | _, _, _ => .stuck
theorem RpAll.set {I : Hp} {v : V} {d : D} (r : Rp K I v d) : ∀ {vs : List V} {ds : List D} (i : Nat), RpAll K I vs ds → RpAll K I (vs.set i v) (ds.set i d)
  | [], [], _, h => h
  | [], _ :: _, _, h => nomatch h.dp
  | _ :: _, [], _, h => nomatch h.dp
  | _ :: _, _ :: _, 0, h => .cons r h.head.2
  | _ :: _, _ :: _, i + 1, h => .cons h.head.1 (RpAll.set r i h.head.2)
theorem ss_put {o i e : Expr} {fo fi fe : Cd Val} {pos2 : Pos} (he : SE C X W fe e) (ho : SE C X W fo o) (hi : SE C X W fi i)
    (ha : ∀ v, assign (.Subscript o i pos2) X.env v = (do
      let ov ← holding [v] (eval o X.env)
      let iv ← holding [v, ov] (eval i X.env)
      standAt pos2
      holding [v, ov, iv] (setItem ov iv v)
      release [v, ov, iv] []) := by intro _; rfl)
    (hs : swapsWithSole [.Subscript o i pos2] e pos.line X.env = pure false := by rfl) (hw : swappedStores [.Subscript o i pos2] e X.env = pure none := by rfl)
    (h1 : (assignEach [.Subscript o i pos2] X.env).map (·.2) = [assign (.Subscript o i pos2) X.env] := by rfl) : SS C X W (sPut fo fi fe) (.Assign [.Subscript o i pos2] e pos) := PS_imp (ps_asg he (pg_sub ho hi set_list ha) hs hw h1) fun D σ H h => by
  obtain ⟨n0, I, β, ρ, μ, hn, s, e, h⟩ := h
  refine ⟨I, β, ρ, μ, s, e, OutOk.bind hn e h fun v μ1 I1 β1 H1 w q x1 s1 n1 r1 h1 => ?_⟩
  refine ⟨I1, β1, ρ, μ1, s1, e.ext x1, OutOk.bind n1 (e.ext x1) h1 fun o μ2 I2 β2 H2 w2 q2 x2 s2 n2 r2 h2 => ?_⟩
  refine ⟨I2, β2, ρ, μ2, s2, (e.ext x1).ext x2, OutOk.bind n2 ((e.ext x1).ext x2) h2 fun k μ3 I3 β3 H3 w3 q3 x3 s3 n3 r3 h3 => ?_⟩
  split at h3
  · rename_i l j x hj
    split at h3
    · rename_i xs hc
      split at h3
      · rename_i m hm
        have r1' : Rp X.K I3 w x := x3.imm.rp (x2.imm.rp r1)
        have r2' := r2.mono x3.imm x3.bet x3.len
        obtain ⟨rfl, hl⟩ := r2'
        obtain ⟨ys, g1, t1⟩ := s3.cell l _ hc
        refine ⟨β3 l, ys, j, m, rfl, (r3.rd s3 hj).of_int, g1, by rw [t1.length]; exact hm, ?_⟩
        obtain ⟨s', x'⟩ := s3.put hl (t1.set r1' m)
        exact h3 I3 β3 σ _ (x'.lower n3 (Nat.le_refl _)) s' ((((e.ext x1).ext x2).ext x3).ext x')
      · exact h3.elim
    · exact h3.elim
  · exact h3.elim
/-! x.append(e) -/
def sApp (fo fe : Cd Val) : Sc := fun n0 ρ μ => lift (fo ρ μ) ρ fun o μ1 => match o with
  | .loc l => match μ1[l]? with
    | some (.lst _) => lift (fe ρ μ1) ρ fun v μ2 => match v, μ2[l]? with
      | .d x, some (.lst xs) => if lim (xs.length + 1) = true then .next ρ (μ2.set l (.lst (xs ++ [x]))) else .stuck
      | _, _ => .stuck
    | _ => .stuck
  | _ => .stuck
theorem ss_app {o e : Expr} {fo fe : Cd Val} {apos cpos : Pos} (ho : SE C X W fo o) (he : SE C X W fe e)
    (hbase : attributeBase o "append" X.env (eval o X.env) = eval o X.env := by rfl)
    (hfew : ((backTo cpos (starEach [e] X.env)).all (fun x => !x.1) && (backToKw cpos (keywordEach [] X.env)).all (fun x => x.1.isSome)
      && decide ([e].length + ([] : List Keyword).length + (if ([] : List Keyword).isEmpty then 0 else 1) < 30)) = true := by rfl)
    (hline : (apos.endLine == cpos.line) = true := by rfl) (hst : starEach [e] X.env = (false, eval e X.env) :: starEach [] X.env := by rfl) (hplain : (backTo cpos (starEach [] X.env)).any (·.1) = false := by rfl)
    (hs : swapsWith (.Call (.Attribute o "append" apos) [e] [] cpos) none pos.line X.env = pure false := by rfl) : SS C X W (sApp fo fe) (.Expr (.Call (.Attribute o "append" apos) [e] [] cpos) pos) :=
  PS_imp (ps_expr (pe_bm PySem.F.plainAttrs_list PySem.F.slot_list_append PySem.F.type_list_append mt_append ho (pa_cons he pa_nil hst) hbase hfew hline hst hplain) hs) fun D σ H h => by
  obtain ⟨n0, I, β, ρ, μ, hn, s, e, h⟩ := h
  refine ⟨I, β, ρ, μ, s, e, OutOk.bind hn e h fun o μ1 I1 β1 H1 w q x1 s1 n1 r1 h1 => ?_⟩
  cases o with
  | d x => exact h1.elim
  | exn => exact h1.elim
  | loc l =>
    obtain ⟨rfl, hl⟩ := r1
    cases hc : μ1[l]? with
    | none => simp only [hc] at h1; exact h1.elim
    | some c =>
      have q0 := s1.cell l c hc
      cases c with
      | dct kvs => exact q0.elim
      | lst xs0 =>
        simp only [hc] at h1
        obtain ⟨ys0, g0, t0⟩ := q0
        refine ⟨.inl ⟨rfl, ys0, SqL.of g0⟩, I1, β1, ρ, μ1, s1, e.ext x1, OutOk.bind n1 (e.ext x1) h1 fun v μ2 I2 β2 H2 w2 q2 x2 s2 n2 r2 h2 => ?_⟩
        split at h2
        · rename_i x xs hc2
          split at h2
          · rename_i hlim
            obtain ⟨ys, g1, t1⟩ := s2.cell l _ hc2
            have hl2 : l < μ2.length := Nat.lt_of_lt_of_le hl x2.len
            have eb : β1 l = β2 l := (x2.bet l hl).symm
            obtain ⟨s', x'⟩ := s2.put hl2 (t1.app (.cons r2 .nil))
            refine ⟨β1 l, ys, w2, rfl, rfl, by rw [eb]; exact g1, ?_, ?_⟩
            · have := lim_size hlim
              have z := t1.length
              omega
            · rw [eb]
              exact h2 I2 β2 σ _ (x'.lower n2 (Nat.le_refl _)) s' (((e.ext x1).ext x2).ext x')
          · exact h2.elim
        · exact h2.elim
end
end FW


set_option Elab.async false
set_option linter.all false
set_option maxRecDepth 100000
set_option maxHeartbeats 1000000
namespace FW
open PySem PySem.Spec PyProof.Rows L2
section
variable {C : Ctx} {X : Cx} {W : WX} {pos : Pos} {K : PySem.W.Frag}

/-! ### while -/
def whN (c : Cd Bool) (b : Sc) : Nat → Sc
  | 0, _, _, _ => .stuck
  | k + 1, n0, ρ, μ => lift (c ρ μ) ρ fun t μ1 => match t with
    | false => .next ρ μ1
    | true => match b n0 ρ μ1 with
      | .next ρ2 μ2 => whN c b k n0 ρ2 μ2
      | .cont ρ2 μ2 => whN c b k n0 ρ2 μ2
      | .brk ρ2 μ2 => .next ρ2 μ2
      | o => o
theorem whN_more {c : Cd Bool} {b : Sc} : ∀ {k : Nat} {n0 : Nat} {ρ : Env} {μ : Sto}, whN c b k n0 ρ μ ≠ .stuck → whN c b (k + 1) n0 ρ μ = whN c b k n0 ρ μ
  | 0, n0, ρ, μ, h => (h rfl).elim
  | k + 1, n0, ρ, μ, h => by
    have e1 : whN c b (k + 1 + 1) n0 ρ μ = lift (c ρ μ) ρ fun t μ1 => match t with
      | false => .next ρ μ1
      | true => match b n0 ρ μ1 with
        | .next ρ2 μ2 => whN c b (k + 1) n0 ρ2 μ2
        | .cont ρ2 μ2 => whN c b (k + 1) n0 ρ2 μ2
        | .brk ρ2 μ2 => .next ρ2 μ2
        | o => o := rfl
    have e2 : whN c b (k + 1) n0 ρ μ = lift (c ρ μ) ρ fun t μ1 => match t with
      | false => .next ρ μ1
      | true => match b n0 ρ μ1 with
        | .next ρ2 μ2 => whN c b k n0 ρ2 μ2
        | .cont ρ2 μ2 => whN c b k n0 ρ2 μ2
        | .brk ρ2 μ2 => .next ρ2 μ2
        | o => o := rfl
    rw [e2] at h
    rw [e1, e2]
    cases hc : c ρ μ with
    | stuck => rfl
    | exc cn pl μ' => rfl
    | ok t μ1 =>
      rw [hc] at h
      cases t with
      | false => rfl
      | true =>
        simp only [lift] at h ⊢
        cases hb : b n0 ρ μ1 with
        | next ρ2 μ2 => rw [hb] at h; exact whN_more h
        | cont ρ2 μ2 => rw [hb] at h; exact whN_more h
        | brk _ _ => rfl
        | ret _ _ => rfl
        | exc _ _ _ _ => rfl
        | stuck => rfl
theorem whN_le {c : Cd Bool} {b : Sc} {k : Nat} {n0 : Nat} {ρ : Env} {μ : Sto} (h : whN c b k n0 ρ μ ≠ .stuck) : ∀ d, whN c b (k + d) n0 ρ μ = whN c b k n0 ρ μ
  | 0 => rfl
  | d + 1 => by
    have ih := whN_le h d
    have z : whN c b (k + d) n0 ρ μ ≠ .stuck := by rw [ih]; exact h
    exact (whN_more z).trans ih
theorem whN_same {c : Cd Bool} {b : Sc} {j k : Nat} {n0 : Nat} {ρ : Env} {μ : Sto} (h1 : whN c b j n0 ρ μ ≠ .stuck) (h2 : whN c b k n0 ρ μ ≠ .stuck) : whN c b j n0 ρ μ = whN c b k n0 ρ μ := by
  rcases Nat.le_total j k with h | h
  · obtain ⟨d, rfl⟩ := Nat.le.dest h
    exact (whN_le h1 d).symm
  · obtain ⟨d, rfl⟩ := Nat.le.dest h
    exact whN_le h2 d
/-- turns enough -/
def fuel : Nat := 1000000000000000000000000000000
def sWh (c : Cd Bool) (b : Sc) : Sc := whN c b fuel
theorem sWh_of {c : Cd Bool} {b : Sc} {k : Nat} {n0 : Nat} {ρ : Env} {μ : Sto} (hk : k ≤ fuel) (h : whN c b k n0 ρ μ ≠ .stuck) : sWh c b n0 ρ μ = whN c b k n0 ρ μ := by
  obtain ⟨d, e⟩ := Nat.le.dest hk
  unfold sWh
  rw [← e]
  exact whN_le h d
theorem ss_wh {c : Expr} {body : List Stmt} {t : Cd Bool} {f : Sc} (hp : PassesOwn (model X.prog X.w) X.A X.env X.xe) (hc : ST C X W t c) (hb : SSs C X W f body) : SS C X W (sWh t f) (.While c body [] pos) := PS_imp (ps_while hp hc hb) fun D σ H h => by
  obtain ⟨n0, I, β, ρ, μ, hn, s, e, h⟩ := h
  refine ⟨fun m σ' H' => ∃ I' β' ρ' μ', Ext n0 I β μ H I' β' μ' H' ∧ SR X.K I' β' μ' H' ∧ ER C X.K I' β' ρ' μ' σ' ∧ OutOk C X.K W D n0 I' β' μ' H' (whN t f m n0 ρ' μ'), ⟨fuel, I, β, ρ, μ, Ext.refl hn, s, e, h⟩, ?_⟩
  rintro m σ1 H1 ⟨I1, β1, ρ1, μ1, x1, s1, e1, h1⟩
  cases m with
  | zero => exact h1.elim
  | succ m =>
    refine ⟨I1, β1, ρ1, μ1, s1, e1, OutOk.bind x1.len e1 h1 fun b μ2 I2 β2 H2 b' q x2 s2 n2 r2 h2 => ?_⟩
    cases r2
    have x12 : Ext n0 I β μ H I2 β2 μ2 H2 := x1.trans hn (x2.lower x1.len (Nat.le_refl _))
    cases b with
    | false => exact iteF (OutOk.here n2 s2 (e1.ext x2) h2)
    | true =>
      refine iteT ⟨fun σ' H' => ∃ m', m' < m + 1 ∧ ∃ I' β' ρ' μ', Ext n0 I β μ H I' β' μ' H' ∧ SR X.K I' β' μ' H' ∧ ER C X.K I' β' ρ' μ' σ' ∧ OutOk C X.K W D n0 I' β' μ' H' (whN t f m' n0 ρ' μ'), fun _ _ z => z, n0, I2, β2, ρ1, μ2, n2, s2, e1.ext x2, ?_⟩
      cases hf : f n0 ρ1 μ2 with
      | next ρ3 μ3 =>
        rw [hf] at h2
        exact fun I' β' σ' H' x' s' e' => ⟨m, Nat.lt_succ_self _, I', β', ρ3, μ3, x12.trans hn x', s', e', OutOk.re n2 x' h2⟩
      | cont ρ3 μ3 =>
        rw [hf] at h2
        exact fun I' β' σ' H' x' s' e' => ⟨m, Nat.lt_succ_self _, I', β', ρ3, μ3, x12.trans hn x', s', e', OutOk.re n2 x' h2⟩
      | brk ρ3 μ3 => rw [hf] at h2; exact h2
      | ret v μ3 => rw [hf] at h2; exact h2
      | exc cn pl ρ3 μ3 => rw [hf] at h2; exact h2
      | stuck => rw [hf] at h2; exact h2.elim
/-! ### for -/
theorem rvs_get {I : Hp} {β : Nat → Addr} {n : Nat} : ∀ {vs : List Val} {ws : List V} {i : Nat} {v : Val}, RVs C K I β n vs ws → vs[i]? = some v → ∃ w, ws[i]? = some w ∧ RV C K I β n v w
  | _, _, _, _, .nil, e => by simp at e
  | _, _, 0, _, .cons r _, e => by simp at e; subst e; exact ⟨_, rfl, r⟩
  | _, _, i + 1, v, .cons _ t, e => by
    obtain ⟨u, h1, h2⟩ := rvs_get (i := i) t (by simpa using e)
    exact ⟨u, by simpa using h1, h2⟩
def forRun (bd : D → Env → Option Env) (b : Sc) (n0 : Nat) : List D → Env → Sto → O
  | [], ρ, μ => .next ρ μ
  | x :: xs, ρ, μ => match bd x ρ with
    | none => .stuck
    | some ρ1 => match b n0 ρ1 μ with
      | .next ρ2 μ2 => forRun bd b n0 xs ρ2 μ2
      | .cont ρ2 μ2 => forRun bd b n0 xs ρ2 μ2
      | .brk ρ2 μ2 => .next ρ2 μ2
      | o => o
def sFor (fw : Cd Walked) (bd : D → Env → Option Env) (b : Sc) : Sc := fun n0 ρ μ => lift (fw ρ μ) ρ fun w μ1 => match w.2 with
  | none => forRun bd b n0 w.1 ρ μ1
  | some _ => .stuck
theorem ss_for {tg iter : Expr} {body : List Stmt} {g : TG} {fw : Cd Walked} {vs : List Nat} {bd : D → Env → Option Env} {f : Sc} (hp : PassesOwn (model X.prog X.w) X.A X.env X.xe) (hc : X.calm = true) (hi : SI C X W tg fw iter) (hg : PG X tg g) (hb : Bd X.K vs g bd) (hbody : SSs C X W f body)
    (hs : ∀ x, foldedSetIterable iter X.env x = pure x := by intro _; rfl) : SS C X W (sFor fw bd f) (.For tg iter body [] pos) := PS_imp (ps_for hp hc hi hg hbody hs) fun D σ H h => by
  obtain ⟨n0, I, β, ρ, μ, hn, s, e, h⟩ := h
  refine ⟨I, β, ρ, μ, s, e, OutOk.bind hn e h fun w μ1 I1 β1 H1 J q x1 s1 n1 r1 h1 => ?_⟩
  obtain ⟨xs, gd⟩ := w
  cases gd with
  | some l => exact h1.elim
  | none =>
    simp only at h1
    refine ⟨fun i m σ' H' => m = xs.length - i ∧ i ≤ xs.length ∧ ∃ I' β' ρ' μ', Ext n0 I1 β1 μ1 H1 I' β' μ' H' ∧ SR X.K I' β' μ' H' ∧ ER C X.K I' β' ρ' μ' σ' ∧ OutOk C X.K W D n0 I' β' μ' H' (forRun bd f n0 (xs.drop i) ρ' μ'), ⟨_, rfl, Nat.zero_le _, I1, β1, ρ, μ1, Ext.refl n1, s1, e.ext x1, h1⟩, ?_⟩
    rintro i m σ' H' ⟨rfl, him, I', β', ρ', μ', x', s', e', h'⟩
    have hwh : WH X.K I' β' (xs, none) H' := ⟨s'.imm, fun l z => nomatch z⟩
    by_cases hlt : i < xs.length
    · refine .inr ⟨r1.go I' β' H' i x'.imm (fun l z => nomatch z) hwh hlt, fun σ2 H2 => ∃ m', m' < xs.length - i ∧ (m' = xs.length - (i + 1) ∧ i + 1 ≤ xs.length ∧ ∃ I' β' ρ' μ', Ext n0 I1 β1 μ1 H1 I' β' μ' H2 ∧ SR X.K I' β' μ' H2 ∧ ER C X.K I' β' ρ' μ' σ2 ∧ OutOk C X.K W D n0 I' β' μ' H2 (forRun bd f n0 (xs.drop (i + 1)) ρ' μ')), fun _ _ z => z, ?_⟩
      intro v H2 hy
      obtain ⟨x, hx⟩ : ∃ x, xs[i]? = some x := ⟨_, List.getElem?_eq_getElem hlt⟩
      have hdrop : xs.drop i = x :: xs.drop (i + 1) := by
        rw [List.drop_eq_getElem_cons hlt]
        congr 1
        rw [List.getElem?_eq_getElem hlt] at hx
        exact Option.some.inj hx
      rw [hdrop] at h'
      have key : ∃ I2, SR X.K I2 β' μ' H2 ∧ ER C X.K I2 β' ρ' μ' σ' ∧ Ext μ'.length I' β' μ' H' I2 β' μ' H2 ∧ Rp X.K I2 v x := by
        rcases r1.yld I' β' H' i v H2 x x'.imm (fun l z => nomatch z) hwh hx hy with ⟨rfl, rp⟩ | ⟨p, o, hp, rfl, rp⟩
        · exact ⟨I', s', e', Ext.refl (Nat.le_refl _), rp⟩
        · obtain ⟨s2, x2⟩ := s'.lay (o := o) hp
          exact ⟨_, s2, e'.ext x2, x2, rp⟩
      obtain ⟨I2, s2, e2, x2, rp⟩ := key
      have x2' := x2.lower x'.len (Nat.le_refl _)
      have h2 := OutOk.re x'.len x2' h'
      unfold forRun at h2
      cases hbd : bd x ρ' with
      | none => rw [hbd] at h2; exact h2.elim
      | some ρ1 =>
        simp only [hbd] at h2
        refine hb C I2 β' ρ' ρ1 μ' σ' v x H2 _ s2.imm e2 rp hbd fun σ2 e3 _ => ?_
        refine ⟨n0, I2, β', ρ1, μ', x'.len, s2, e3, ?_⟩
        have x12 := x'.trans n1 x2'
        cases hf : f n0 ρ1 μ' with
        | next ρ3 μ3 =>
          rw [hf] at h2
          exact fun I' β' σ' H' x' s' e' => ⟨_, by omega, rfl, by omega, I', β', ρ3, μ3, x12.trans n1 x', s', e', OutOk.re x2'.len x' h2⟩
        | cont ρ3 μ3 =>
          rw [hf] at h2
          exact fun I' β' σ' H' x' s' e' => ⟨_, by omega, rfl, by omega, I', β', ρ3, μ3, x12.trans n1 x', s', e', OutOk.re x2'.len x' h2⟩
        | brk ρ3 μ3 => rw [hf] at h2; exact h2
        | ret v μ3 => rw [hf] at h2; exact h2
        | exc cn pl ρ3 μ3 => rw [hf] at h2; exact h2
        | stuck => rw [hf] at h2; exact h2.elim
    · have hie : i = xs.length := Nat.le_antisymm him (Nat.le_of_not_lt hlt)
      subst hie
      rw [List.drop_length] at h'
      exact .inl ⟨r1.stop I' β' H' x'.imm (fun l z => nomatch z) hwh, OutOk.here x'.len s' e' h'⟩
/-! ### the call of a def -/
def fin (n : Nat) (v : Val) (μ : Sto) : R Val := match v with
  | .d x => .ok (.d x) (μ.take n)
  | .loc l => if l < n then .ok (.loc l) (μ.take n) else match μ[l]? with
    | some (.lst xs) => .ok (.d (.list xs)) (μ.take n)
    | _ => .stuck
  | .exn => .stuck
/-- a new cell is handed back as such -/
def finK (n : Nat) (v : Val) (μ : Sto) : R Val := match v with
  | .loc l => if l < n then .stuck else match μ[l]? with
    | some (.lst xs) => .ok (.loc n) (μ.take n ++ [.lst xs])
    | _ => .stuck
  | _ => .stuck
def ending (fn : Nat → Val → Sto → R Val) (n : Nat) : O → R Val
  | .next _ μ => fn n (.d .none) μ
  | .ret v μ => fn n v μ
  | .exc cn pl _ μ => .exc cn pl (μ.take n)
  | _ => .stuck
abbrev Fn := List Val → Sto → R Val
def runFn (fn : Nat → Val → Sto → R Val) (slots : Nat) (b : Sc) : Fn := fun vs μ => ending fn μ.length (b μ.length (vs.map some ++ List.replicate (slots - vs.length) none) μ)
/-- the promise -/
def spF (C : Ctx) (K : PySem.W.Frag) (n : Nat) (F : Fn) : Sp := fun ws H Q E => ∃ I β vs μ, SR K I β μ H ∧ RVs C K I β μ.length vs ws ∧ vs.length = n ∧ Res C K (fun cls d _ H => E cls d H) [] I β μ H (RV C K) Q (F vs μ)
/-- dropping cells -/
theorem Ext.cut {n : Nat} {I I1 : Hp} {β β1 : Nat → Addr} {μ μ1 : Sto} {H H1 : Hp} (x : Ext n I β μ H I1 β1 μ1 H1) (hn : n = μ.length) : Ext n I β μ H I1 β1 (μ1.take n) H1 where
  imm := x.imm
  dom := x.dom
  bet := x.bet
  len := by rw [List.length_take]; exact Nat.le_min.mpr ⟨Nat.le_refl _, x.len⟩
  fram := x.fram
  new := fun l h1 h2 => by
    rw [List.length_take] at h2
    exact absurd h1 (Nat.not_le.mpr (Nat.lt_of_lt_of_le h2 (Nat.min_le_left _ _)))
  imn := x.imn
theorem SR.cut {I : Hp} {β : Nat → Addr} {μ : Sto} {H : Hp} (s : SR K I β μ H) (n : Nat) : SR K I β (μ.take n) H where
  imm := s.imm
  fr := fun l hl => s.fr l (Nat.lt_of_lt_of_le hl (by rw [List.length_take]; exact Nat.min_le_right _ _))
  inj := fun l m hl hm => s.inj l m (Nat.lt_of_lt_of_le hl (by rw [List.length_take]; exact Nat.min_le_right _ _)) (Nat.lt_of_lt_of_le hm (by rw [List.length_take]; exact Nat.min_le_right _ _))
  cell := fun l c h => by
    refine s.cell l c ?_
    have hl : l < (μ.take n).length := (List.getElem?_eq_some_iff.mp h).1
    rw [List.length_take] at hl
    rw [List.getElem?_take, if_pos (by omega)] at h
    exact h
theorem ER.start {I : Hp} {β : Nat → Addr} {μ : Sto} {N : List Str} {vs : List Val} {ws : List V} (hC : C.ed = none) (r : RVs C K I β μ.length vs ws) : ER C K I β (vs.map some ++ List.replicate (N.length - vs.length) none) μ (L2.start N ws) where
  len := by
    have := Paired.length r
    unfold L2.start
    rw [List.length_append, List.length_append, List.length_map, List.length_map, List.length_replicate, List.length_replicate, this]
  get := fun i v h => by
    have hl := Paired.length r
    unfold L2.start
    by_cases hi : i < vs.length
    · rw [List.getElem?_append_left (by rw [List.length_map]; exact hi), List.getElem?_map] at h
      rw [List.getElem?_append_left (by rw [List.length_map]; omega), List.getElem?_map]
      cases q : vs[i]? with
      | none => rw [q] at h; cases h
      | some v' =>
        rw [q] at h
        obtain rfl : v' = v := by simpa using h
        obtain ⟨w, h1, h2⟩ := rvs_get r q
        exact ⟨w, by rw [h1]; rfl, h2⟩
    · rw [List.getElem?_append_right (by rw [List.length_map]; omega)] at h
      have := (List.getElem?_eq_some_iff.mp h)
      obtain ⟨h1, h2⟩ := this
      rw [List.getElem_replicate] at h2
      cases h2
  ex := fun dd cn pl h => by rw [hC] at h; cases h
end
end FW


set_option Elab.async false
set_option linter.all false
set_option maxRecDepth 100000
set_option maxHeartbeats 1000000
namespace FW
open PySem PySem.Spec PyProof.Rows L2
section
variable {C : Ctx} {X : Cx} {W : WX} {pos : Pos} {K : PySem.W.Frag}
/-! ### a def keeps its promise -/
/-- how a result is handed back -/
def FinOk (fn : Nat → Val → Sto → R Val) : Prop := ∀ (C : Ctx) (K : PySem.W.Frag) (W : WX) (I : Hp) (β : Nat → Addr) (μ : Sto) (H : Hp) (Q : VK) (v : Val) (μ1 : Sto) (I1 : Hp) (β1 : Nat → Addr) (H1 : Hp) (w : V),
  Res C K W [] I β μ H (RV C K) Q (fn μ.length v μ1) → Ext μ.length I β μ H I1 β1 μ1 H1 → SR K I1 β1 μ1 H1 → RV C K I1 β1 μ1.length v w → Q w H1
theorem fin_ok : FinOk fin := by
  intro C K W I β μ H Q v μ1 I1 β1 H1 w h x s r
  unfold fin at h
  cases v with
  | d y => exact h I1 β1 H1 w (x.cut rfl) (s.cut _) r
  | exn => exact h.elim
  | loc l =>
    obtain ⟨rfl, hl⟩ := r
    simp only at h
    split at h
    · rename_i hlt
      exact h I1 β1 H1 _ (x.cut rfl) (s.cut _) ⟨rfl, by rw [List.length_take]; exact Nat.lt_min.mpr ⟨hlt, hl⟩⟩
    · rename_i hge
      have hge := Nat.le_of_not_lt hge
      split at h
      · rename_i xs hc
        obtain ⟨ys, g1, t1⟩ := s.cell l _ hc
        have hnone : H (β1 l) = none := by
          rcases x.new l hge hl with z | ⟨m, h1, h2, _⟩
          · exact z
          · exact absurd h2 (Nat.not_lt.mpr h1)
        have ow : Own I1 β1 (μ1.take μ.length).length (β1 l) := ⟨s.fr l hl, fun m hm z => by
          rw [List.length_take] at hm
          have : m = l := s.inj m l (by omega) hl z
          omega⟩
        exact h _ β1 H1 _ ((x.cut rfl).frz hnone ow.i) ((s.cut _).freeze ow g1) (Rp.list (SqL.of upd_same) ((Sub.new ow.i).rpAll t1))
      · exact h.elim
theorem finK_ok : FinOk finK := by
  intro C K W I β μ H Q v μ1 I1 β1 H1 w h x s r
  unfold finK at h
  cases v with
  | d y => exact h.elim
  | exn => exact h.elim
  | loc l =>
    obtain ⟨rfl, hl⟩ := r
    simp only at h
    split at h
    · exact h.elim
    · rename_i hge
      have hge := Nat.le_of_not_lt hge
      split at h
      · rename_i xs hc
        have hq := s.cell l _ hc
        have hnone : H (β1 l) = none := by
          rcases x.new l hge hl with z | ⟨m, h1, h2, _⟩
          · exact z
          · exact absurd h2 (Nat.not_lt.mpr h1)
        have tl : (μ1.take μ.length).length = μ.length := by rw [List.length_take]; exact Nat.min_eq_left x.len
        obtain ⟨β', bl, bn⟩ : ∃ β' : Nat → Addr, (∀ m, m < μ.length → β' m = β1 m) ∧ β' μ.length = β1 l :=
          ⟨fun m => if m = μ.length then β1 l else β1 m, fun m hm => by show (if m = μ.length then β1 l else β1 m) = β1 m; rw [if_neg (Nat.ne_of_lt hm)], by show (if μ.length = μ.length then β1 l else β1 μ.length) = β1 l; rw [if_pos rfl]⟩
        have ll : (μ1.take μ.length ++ [Cell.lst xs]).length = μ.length + 1 := by rw [List.length_append, tl]; rfl
        refine h I1 β' H1 (.ref (β1 l)) ⟨x.imm, x.dom, fun m hm => (bl m hm).trans (x.bet m hm), by rw [ll]; exact Nat.le_succ _, x.fram, fun m h1 h2 => ?_, x.imn⟩ ⟨s.imm, fun m hm => ?_, fun a b ha hb => ?_, fun m c hm => ?_⟩ ⟨by rw [bn], by rw [ll]; exact Nat.lt_succ_self _⟩
        · rw [ll] at h2
          have e : m = μ.length := by omega
          subst e
          rw [bn]; exact .inl hnone
        · rw [ll] at hm
          by_cases q : m = μ.length
          · rw [q, bn]; exact s.fr l hl
          · rw [bl m (by omega)]; exact s.fr m (by have := x.len; omega)
        · rw [ll] at ha hb
          have hx := x.len
          by_cases qa : a = μ.length
          · by_cases qb : b = μ.length
            · rw [qa, qb]; exact fun _ => rfl
            · rw [qa, bn, bl b (by omega)]
              intro z
              have := s.inj l b hl (by omega) z
              omega
          · by_cases qb : b = μ.length
            · rw [qb, bn, bl a (by omega)]
              intro z
              have := s.inj a l (by omega) hl z
              omega
            · rw [bl a (by omega), bl b (by omega)]
              exact s.inj a b (by omega) (by omega)
        · by_cases q : m < μ.length
          · rw [List.getElem?_append_left (by rw [tl]; exact q), List.getElem?_take, if_pos q] at hm
            rw [bl m q]
            exact s.cell m c hm
          · have hm2 : m < (μ1.take μ.length ++ [Cell.lst xs]).length := (List.getElem?_eq_some_iff.mp hm).1
            rw [ll] at hm2
            have e : m = μ.length := by omega
            subst e
            rw [List.getElem?_append_right (by rw [tl]; exact Nat.le_refl _), tl, Nat.sub_self] at hm
            cases hm
            rw [bn]
            exact hq
      · exact h.elim
theorem fn_ok {P : Program} {w : World} {mg : Str → Option Value} {base : Heap} {x qual : Str} {st : Stmt} {f : Addr} {fd : FuncData} {N ps : List Str} {k : Nat} {b : Sc} {fn : Nat → Val → Sto → R Val} (F : L2.Fun K x qual st f fd) (S : FnScope N ps (defScope st)) (hC : C.ed = none) (hfn : FinOk fn) (hk : N.length = n)
    (hbody : ∀ (cdv : Value) (A : Around) (outer : List PySem.Env) (s : Shared) (H : Hp) (E : XK), Room k (A.deeper (envOfC qual (defScope st) s.heap.objs.size f cdv)) → SSs C (cxOf (L2.CX P w) P w K mg base N qual (defScope st) f cdv A outer s H E) (fun cls d _ H => E cls d H) b (defBody st)) :
    FnOk P w K mg base (L2.CX P w) (k + 1) f fd ps (spF C K ps.length (runFn fn n b)) := by
  subst hk
  refine F.okX S (fun vs H Q E h => ?_) (fun cdv A outer s H vs Q E hr hsp => ⟨_, hbody cdv A outer s H E hr, ?_⟩)
  · obtain ⟨I, β, as, μ, _, r, hl, _⟩ := h
    rw [← hl]
    exact (Paired.length r).symm
  · obtain ⟨I, β, as, μ, s', r, hl, h⟩ := hsp
    refine ⟨μ.length, I, β, _, μ, Nat.le_refl _, s', ER.start hC r, ?_⟩
    unfold runFn at h
    cases ho : b μ.length (as.map some ++ List.replicate (N.length - as.length) none) μ with
    | next ρ1 μ1 =>
      rw [ho] at h
      exact fun I1 β1 σ1 H1 x1 s1 e1 => hfn C K _ I β μ H Q (.d .none) μ1 I1 β1 H1 .non h x1 s1 Rp.non
    | ret v μ1 =>
      rw [ho] at h
      exact fun I1 β1 H1 w x1 s1 r1 => hfn C K _ I β μ H Q v μ1 I1 β1 H1 w h x1 s1 r1
    | brk ρ1 μ1 => rw [ho] at h; exact h.elim
    | cont ρ1 μ1 => rw [ho] at h; exact h.elim
    | exc cn pl ρ1 μ1 =>
      rw [ho] at h
      exact fun I1 β1 σ1 H1 cls dd x1 s1 e1 z => h I1 β1 H1 cls dd (x1.cut rfl) (s1.cut _) z
    | stuck => rw [ho] at h; exact h.elim
/-- a def that is never entered: level 0 -/
theorem fn_none {P : Program} {w : World} {mg : Str → Option Value} {base : Heap} {f : Addr} {fd : FuncData} {ps : List Str} {k : Nat} : FnOk P w K mg base (L2.CX P w) k f fd ps (spF C K ps.length (fun _ _ => .stuck)) :=
  ⟨fun vs H Q E h => by obtain ⟨I, β, as, μ, _, r, hl, z⟩ := h; exact z.elim, fun A outer s H args us vs Q E _ _ _ _ h => by obtain ⟨I, β, as, μ, _, r, hl, z⟩ := h; exact z.elim⟩
/-! ### its call -/
def notExn : Val → Bool
  | .exn => false
  | _ => true
def cCall (n : Nat) (F : Fn) (g : Cd (List Val)) : Cd Val := fun ρ μ => (g ρ μ).bind fun vs μ1 => if vs.length = n ∧ vs.all notExn = true then match F vs μ1 with
    | .ok v μ2 => if notExn v = true then .ok v μ2 else .stuck
    | o => o
  else .stuck
theorem RV.other {C C' : Ctx} {I : Hp} {β : Nat → Addr} {n : Nat} {v : Val} {w : V} (h : RV C K I β n v w) (e : notExn v = true) : RV C' K I β n v w := by
  cases v with
  | d x => exact h
  | loc l => exact h
  | exn => cases e
theorem RVs.other {C C' : Ctx} {I : Hp} {β : Nat → Addr} {n : Nat} : ∀ {vs : List Val} {ws : List V}, RVs C K I β n vs ws → vs.all notExn = true → RVs C' K I β n vs ws
  | [], _, .nil, _ => .nil
  | v :: vs, _, .cons r t, e => by
    rw [List.all_cons, Bool.and_eq_true] at e
    exact .cons (r.other e.1) (RVs.other t e.2)
theorem se_call {C0 : Ctx} {n k : Nat} {Φ : Fn} {f : Addr} {fd : FuncData} {ps : List Str} {x : Str} {p : Pos} {e : Expr} {es : List Expr} {g : Cd (List Val)} (F : FnOk X.prog X.w X.K X.mg X.base (L2.CX X.prog X.w) k f fd ps (spF C0 X.K n Φ)) (hr : Room k X.A) (hg : Gl X x) (hm : X.mg x = some (.ref f)) (hk : PySem.W.keepIn X.K (.ref f) = true) (hb : Binds X.K fd ps []) (hca : C.ca = C0.ca) (tk : Takes X W)
    (ha : SA C X W g (e :: es)) (hdb : (x == ("__debug__" : Str)) = false := by decide) (he : starEach (e :: es) X.env = (false, eval e X.env) :: starEach es X.env := by rfl) (hpl : (backTo pos (starEach es X.env)).any (·.1) = false := by rfl) :
    SE C X W (cCall n Φ g) (.Call (.Name x p) (e :: es) [] pos) := PE_imp (pe_callSD (E := WE W) F hr hg hm hk hb .nil (fun σ => passAt tk σ) ha hdb he hpl) fun σ H Q h => by
  obtain ⟨I, β, ρ, μ, s, e, h⟩ := h
  refine ⟨I, β, ρ, μ, s, e, Res.bind h fun vs μ1 I1 β1 H1 ws q x1 s1 r1 h1 => ?_⟩
  split at h1
  · rename_i hl
    refine ⟨I1, β1, vs, μ1, s1, by rw [List.append_nil]; exact r1.other hl.2, hl.1, ?_⟩
    cases hF : Φ vs μ1 with
    | ok v μ2 =>
      rw [hF] at h1
      simp only at h1
      split at h1
      · rename_i hv
        exact fun I' β' H' t x' s' r' => h1 I' β' H' t x' s' (r'.other hv)
      · exact h1.elim
    | exc cn pl μ2 =>
      rw [hF] at h1
      exact fun I' β' H' cls dd x' s' z => h1 I' β' H' cls dd x' s' ⟨by rw [hca]; exact z.1, z.2⟩
    | stuck => rw [hF] at h1; exact h1
  · exact h1.elim
/-! ### raise -/
/-- a class whose making is known -/
def tMkX (cn : Str) (A : Addr) (ta : TA) : L2.St → Hp → XK → Prop := fun σ H Q => ta σ H fun vs H1 => ∃ v, vs = [v] ∧ ∀ d, H1 d = none → Q (.ref A) (some d) (upd H1 d (.xd [("place", v), ("name", .str cn)]))
def sRaise (cn : Str) (f : Cd Val) : Sc := fun n0 ρ μ => lift (f ρ μ) ρ fun v μ1 => match v with
  | .d x => .exc cn x ρ μ1
  | _ => .stuck
theorem ss_raise {cn : Str} {A : Addr} {a : Expr} {f : Cd Val} {x : Str} {p p2' : Pos} (hc : X.calm = true) (tk : Takes X W) (hca : C.ca cn = some A) (ha : SE C X W f a)
    (hmk : ∀ {ta : TA}, PA X [a] ta → PMk X (.Call (.Name x p) [a] [] p2') (tMkX cn A ta)) (hst : starEach [a] X.env = (false, eval a X.env) :: starEach [] X.env := by rfl) :
    SS C X W (sRaise cn f) (.Raise (some (.Call (.Name x p) [a] [] p2')) none pos) := PS_imp (ps_raise hc tk (hmk (pa_cons ha pa_nil hst))) fun D σ H h => by
  obtain ⟨n0, I, β, ρ, μ, hn, s, e, h⟩ := h
  refine ⟨I, β, ρ, μ, s, e, OutOk.bind hn e h fun v μ1 I1 β1 H1 w q x1 s1 n1 r1 h1 => ?_⟩
  cases v with
  | loc l => exact h1.elim
  | exn => exact h1.elim
  | d y =>
    refine ⟨w, rfl, fun d hd => ?_⟩
    obtain ⟨s2, x2⟩ := s1.lay (o := .xd [("place", w), ("name", .str cn)]) hd
    exact h1 _ β1 σ _ _ d (x2.lower n1 (Nat.le_refl _)) s2 ((e.ext x1).ext x2) ⟨⟨A, hca, rfl⟩, w, upd_same, (Sub.new (s1.imm.fresh hd)).rp r1⟩
end
end FW


set_option Elab.async false
set_option linter.all false
set_option maxRecDepth 100000
set_option maxHeartbeats 1000000
namespace L2
open PySem PySem.Spec PyProof.Rows
/-- what the clauses wish, names allowed -/
def wMany2 (K : PySem.W.Frag) (Wout : WX) (D : Ends) : List (Value × Option Nat × (Addr → Value → Option Addr → TS)) → WX
  | [] => Wout
  | (c, none, ts) :: r => fun cls d σ H => ∃ b, PySem.W.exmOne K cls c = some b ∧ (b = true → ∀ a, H a = none → ts a cls d D σ H) ∧ (b = false → wMany2 K Wout D r cls d σ H)
  | (c, some i, ts) :: r => fun cls d σ H => ∃ b, PySem.W.exmOne K cls c = some b ∧ (b = true → ∀ a, H a = none → ts a cls d { nx := fun σ' H' => D.nx (σ'.set i none) H', rt := D.rt, bk := fun σ' H' => D.bk (σ'.set i none) H', ct := fun σ' H' => D.ct (σ'.set i none) H' } (σ.set i (some (.ref a))) H) ∧ (b = false → wMany2 K Wout D r cls d σ H)
inductive HdsOk2 (X : Cx) : List ExceptHandler → List (Value × Option Nat × (Addr → Value → Option Addr → TS)) → Prop
  | nil : HdsOk2 X [] []
  | cons {x : Str} {c : Value} {ts : Addr → Value → Option Addr → TS} {b₀ : Stmt} {suite : List Stmt} {np pos' : Pos} {hds : List ExceptHandler} {l : List (Value × Option Nat × (Addr → Value → Option Addr → TS))} (hc : Names X x c)
      (hsu : ∀ (a : Addr) (oe : Obj) (cls : Value) (d : Option Addr) (pn : List (Addr × Obj)), Zc cls d oe → (∃ vs, oe.data = .fields vs) → PSs (X.suite a ((a, oe) :: pn)) (b₀ :: suite) (ts a cls d)) (r : HdsOk2 X hds l) :
      HdsOk2 X (.ExceptHandler (some (.Name x np)) none (b₀ :: suite) pos' :: hds) ((c, none, ts) :: l)
  | as {x n : Str} {i : Nat} {c : Value} {ts : Addr → Value → Option Addr → TS} {b₀ : Stmt} {suite : List Stmt} {np pos' : Pos} {hds : List ExceptHandler} {l : List (Value × Option Nat × (Addr → Value → Option Addr → TS))} (hi : X.N[i]? = some n) (hln : X.env.kindOf n = some .local) (hc : Names X x c)
      (hsu : ∀ (a : Addr) (oe : Obj) (cls : Value) (d : Option Addr) (pn : List (Addr × Obj)), Zc cls d oe → (∃ vs, oe.data = .fields vs) → PSs (X.suite a ((a, oe) :: pn)) (b₀ :: suite) (ts a cls d)) (r : HdsOk2 X hds l) :
      HdsOk2 X (.ExceptHandler (some (.Name x np)) (some n) (b₀ :: suite) pos' :: hds) ((c, some i, ts) :: l)
section
variable {X : Cx} {body : List Stmt} {h₀ : ExceptHandler} {hds : List ExceptHandler} {l : List (Value × Option Nat × (Addr → Value → Option Addr → TS))} {pos : Pos} {tb : WX → TS} {Wout : WX}
theorem ps_try_many2 (hs : X.stack = X.env :: X.outer) (hf : X.env.frame = some X.env.locals) (hN : X.N.Nodup) (tk : Takes X Wout)
    (hb : ∀ (W : WX) (pn : List (Addr × Obj)) (xe : Value → Shared → Prop), Takes (X.tr pn xe) W → PassesOwn (model X.prog X.w) X.A X.env xe → PSs (X.tr pn xe) body (tb W))
    (hh : HdsOk2 X (h₀ :: hds) l) : PS X (.Try body (h₀ :: hds) [] [] pos) (fun D σ H => tb (wMany2 X.K Wout D l) D σ H) := by
  refine ⟨fun pins s σ H D I h => ?_⟩
  have ok := I.ok
  have hfr : X.A.frames = some (X.env :: X.outer) := by rw [ok.frames, hs]
  refine wpAny_Try_except ?_
  refine wpAny_mono ((hb (wMany2 X.K Wout D l) (X.pn ++ pins) (fun e s₁ => wpAny (model X.prog X.w) X.A (noteFrame e X.env) (fun _ s₂ => wpAny (model X.prog X.w) X.A (setFlight e none) (fun _ s₃ =>
    wpAny (model X.prog X.w) X.A (handleBy e X.env (h₀ :: hds)) (SP X pins D) X.xe s₃) X.xe s₂) X.xe s₁) (fun u s' xx => ?_) PassesOwn.looking).run [] s σ H D (I.toTry _) h) (fun f s1 hsp => ?_) (fun e s1 he => he)
  · -- the catch
    obtain ⟨a, B, sI, pins', σ', H', cls, d, rfl, J', nb, up, sky, na, os, ag, w⟩ := xx
    have J : Inv X pins σ' H' sI := J'.ofTry ok
    have sky' : Sky B (X.env :: X.outer) a (Zc cls d) X.env.locals s'.heap := by rw [← hs]; exact sky
    show wpAny (model X.prog X.w) X.A (noteFrame (.ref a) X.env) _ _ _
    refine Sky.land Zc.steady hfr hf sky' fun h3 fl3 up3 => ?_
    have J3 : Inv X pins σ' H' { s' with heap := h3 } := J.landed nb fl3.1 (up.trans up3) os ag
    obtain ⟨oe3, vs3, he3, hz3, hd3⟩ := fl3.there
    have notFr : ∀ {h : Heap} {o : Obj} {vs : Array Value}, h.FunFrames B (X.env :: X.outer) → h.get? a = some o → o.data = .fields vs → a ∉ frs (X.env :: X.outer) := fun {h o vs} ff e dd hm => by
      obtain ⟨_, o', e', hnf⟩ := ff.mem hm
      rw [e] at e'; cases e'
      exact hnf _ dd
    have nfr := notFr fl3.2.2.1 he3 hd3
    have nL : a ≠ X.env.locals := fun z => nfr (List.mem_filterMap.mpr ⟨X.env, List.mem_cons_self, by rw [hf, z]⟩)
    have nF : a ∉ X.fs := fun hm => by
      obtain ⟨e, he, q⟩ := List.mem_filterMap.mp hm
      exact nfr (List.mem_filterMap.mpr ⟨e, List.mem_cons_of_mem _ he, q⟩)
    have S3 := J3.suite he3 hd3 na nL nF
    have LT : PySem.W.Looks (model X.prog X.w) h3 (typeOf (.ref a)) cls := fun A Q E s k q => wpAny_typeOf_ref (k _ _ he3) (by rw [hz3.1]; exact q)
    have test : ∀ {x : Str} {c : Value} {np : Pos} {Q : Value → Shared → Prop} {E : Value → Shared → Prop}, Names X x c → Q c { s' with heap := h3 } → wpAny (model X.prog X.w) (X.A.mark (some (.ref a))) (eval (.Name x np) X.env) Q E { s' with heap := h3 } := fun {x c np Q E} hc q => by
      obtain ⟨hg, hdbg, hm | ⟨hm, hv, hnn⟩⟩ := hc
      · exact ld_glob (X := X.suite a ((a, oe3) :: (X.pn ++ pins))) S3 hg hm q hdbg
      · exact ld_blt (X := X.suite a ((a, oe3) :: (X.pn ++ pins))) S3 hg hm hv q hnn hdbg
    have go : ∀ {hds' : List ExceptHandler} {l' : List (Value × Option Nat × (Addr → Value → Option Addr → TS))}, HdsOk2 X hds' l' → wMany2 X.K Wout D l' cls d σ' H' →
        wpAny (model X.prog X.w) X.A (handleBy (.ref a) X.env hds') (SP X pins D) X.xe { s' with heap := h3 } := by
      intro hds' l' hk
      induction hk with
      | nil =>
        intro w
        refine wpAny_handleBy_nil ?_
        obtain ⟨k1, k2, k3, oe, vs, T, oT, ts', he, hz, hd, h1, hr⟩ := id fl3
        unfold PySem.passOn
        refine wpAny_bind (wpAny_field he hd h1 ?_)
        rw [if_neg (show ¬ ((Value.ref T == Value.none) = true) from by simp)]
        have fin : wpAny (model X.prog X.w) X.A (setFlight (.ref a) X.env.frame) (fun _ s4 => wpAny (model X.prog X.w) X.A (throw (.ref a) : Sem Flow) (SP X pins D) X.xe s4) X.xe { s' with heap := h3 } := by
          rw [hf]
          refine HandSPX.setFlight_upZ fl3 fun h4 hh4 up4 => wpAny_throw (tk _ _ ?_)
          exact ⟨a, B, sI, pins, σ', H', cls, d, rfl, J, nb, (up.trans up3).trans up4, .inr (.inr (by rw [hs]; exact hh4)), na, os, ag, w⟩
        first
          | exact wpAny_bind (wpAny_pure (wpAny_bind fin))
          | exact wpAny_bind fin
      | @cons x c ts b₀ suite np pos' hds2 l2 hc hsu r ih =>
        intro w
        obtain ⟨b, hb1, hyes, hno⟩ := w
        refine wpAny_handleBy_cons (codeAny_handlers_test ?_) (by intro q; cases q)
        have LM := PySem.W.exm_one (M := model X.prog X.w) (J3.kIn) LT hb1
        refine test hc (LM.here ?_)
        cases b with
        | true =>
          refine codeAny_handlers_suite ?_
          refine HandSPX.lands_againZ fl3 fun h4 fl4 up4 => ?_
          have J4 : Inv X pins σ' H' { s' with heap := h4 } := J.landed nb fl4.1 ((up.trans up3).trans up4) os ag
          obtain ⟨oe4, vs4, he4, hz4, hd4⟩ := fl4.there
          have S4 := J4.suite he4 hd4 na nL nF
          refine wpAny_mono ((hsu a oe4 cls d (X.pn ++ pins) hz4 ⟨_, hd4⟩).run [] _ _ H' _ S4 (hyes rfl a na)) (fun f s6 hsp => ?_) (fun _ _ z => False.elim z)
          cases f with
          | next =>
            obtain ⟨σ6, H6, S6, q6⟩ := hsp
            exact ⟨_, _, S6.unsuite ok, q6⟩
          | brk =>
            obtain ⟨σ6, H6, S6, q6⟩ := hsp
            exact ⟨_, _, S6.unsuite ok, q6⟩
          | cont =>
            obtain ⟨σ6, H6, S6, q6⟩ := hsp
            exact ⟨_, _, S6.unsuite ok, q6⟩
          | ret u =>
            obtain ⟨v6, σ6, H6, S6, r6, q6⟩ := hsp
            exact ⟨_, _, _, S6.unsuite ok, r6, q6⟩
        | false =>
          show wpAny _ X.A (handleBy (.ref a) X.env hds2) _ _ _
          exact ih (hno rfl)
      | @as x n i c ts b₀ suite np pos' hds2 l2 hi hln hc hsu r ih =>
        intro w
        obtain ⟨b, hb1, hyes, hno⟩ := w
        refine wpAny_handleBy_cons (codeAny_handlers_test ?_) (by intro q; cases q)
        have LM := PySem.W.exm_one (M := model X.prog X.w) (J3.kIn) LT hb1
        refine test hc (LM.here ?_)
        cases b with
        | true =>
          refine codeAny_handlers_suite_as ?_
          refine HandSPX.lands_againZ fl3 fun h4 fl4 up4 => ?_
          have J4 : Inv X pins σ' H' { s' with heap := h4 } := J.landed nb fl4.1 ((up.trans up3).trans up4) os ag
          obtain ⟨oe4, vs4, he4, hz4, hd4⟩ := fl4.there
          have S4 := J4.suite he4 hd4 na nL nF
          refine store_ok (X := X.suite a ((a, oe4) :: (X.pn ++ pins))) (v := .ref a) S4 hN hi (.inl hln) rfl (fun s5 S5 => ?_) (.inr hln)
          refine wpAny_mono ((hsu a oe4 cls d (X.pn ++ pins) hz4 ⟨_, hd4⟩).run [] s5 _ H' _ S5 (hyes rfl a na)) (fun f s6 hsp => ?_) (fun _ _ z => False.elim z)
          have end_ : ∀ {σ6 : L2.St} {H6 : Hp} {Q : Shared → Prop}, Inv (X.suite a ((a, oe4) :: (X.pn ++ pins))) [] σ6 H6 s6 → (∀ s7, Inv X pins (σ6.set i none) H6 s7 → Q s7) →
              wpAny (model X.prog X.w) X.A (do bindName X.env n .none; unbindBehindTheSuite X.env n pos') (fun _ s7 => Q s7) X.xe s6 := fun {σ6 H6 Q} S6 hq => gone_ok (S6.unsuite ok) hN hi hln hq
          cases f with
          | next =>
            obtain ⟨σ6, H6, S6, q6⟩ := hsp
            exact end_ S6 fun s7 J7 => ⟨_, _, J7, q6⟩
          | brk =>
            obtain ⟨σ6, H6, S6, q6⟩ := hsp
            exact end_ S6 fun s7 J7 => ⟨_, _, J7, q6⟩
          | cont =>
            obtain ⟨σ6, H6, S6, q6⟩ := hsp
            exact end_ S6 fun s7 J7 => ⟨_, _, J7, q6⟩
          | ret u =>
            obtain ⟨v6, σ6, H6, S6, r6, q6⟩ := hsp
            exact end_ S6 fun s7 J7 => ⟨_, _, _, J7, r6, q6⟩
        | false =>
          show wpAny _ X.A (handleBy (.ref a) X.env hds2) _ _ _
          exact ih (hno rfl)
    exact go hh w
  · cases f with
    | next =>
      obtain ⟨σ', H', J', q⟩ := hsp
      exact wpAny_execs_nil ⟨σ', H', J'.ofTry ok, q⟩
    | brk =>
      obtain ⟨σ', H', J', q⟩ := hsp
      exact ⟨σ', H', J'.ofTry ok, q⟩
    | cont =>
      obtain ⟨σ', H', J', q⟩ := hsp
      exact ⟨σ', H', J'.ofTry ok, q⟩
    | ret u =>
      obtain ⟨v, σ', H', J', r, q⟩ := hsp
      exact ⟨v, σ', H', J'.ofTry ok, r, q⟩
end
end L2
namespace FW
open PySem PySem.Spec PyProof.Rows L2
section
variable {C : Ctx} {X : Cx} {W : WX} {pos : Pos} {K : PySem.W.Frag}
def subX (cn c : Str) : Bool := cn == c || c == "EvensplitsError"
abbrev Hd := Str × Option Nat × (Str → D → Sc)
/-- only what is handed back from a suite goes on -/
def retO : O → O
  | .ret v μ => if notExn v = true then .ret v μ else .stuck
  | _ => .stuck
def envOk (ρ : Env) : Bool := ρ.all fun o => match o with
  | some v => notExn v
  | none => true
def catchX : List Hd → Str → D → Sc
  | [], cn, pl, _, ρ, μ => .exc cn pl ρ μ
  | (c, none, h) :: r, cn, pl, n0, ρ, μ => if subX cn c = true then (if envOk ρ = true then retO (h cn pl n0 ρ μ) else .stuck) else catchX r cn pl n0 ρ μ
  | (c, some i, h) :: r, cn, pl, n0, ρ, μ => if subX cn c = true then (if envOk ρ = true then retO (h cn pl n0 (ρ.set i (some .exn)) μ) else .stuck) else catchX r cn pl n0 ρ μ
def sTry (b : Sc) (hds : List Hd) : Sc := fun n0 ρ μ => match b n0 ρ μ with
  | .exc cn pl ρ' μ' => catchX hds cn pl n0 ρ' μ'
  | o => o
/-- the suite's context -/
abbrev Ctx.of (C : Ctx) (a dd : Addr) (cn : Str) (pl : D) : Ctx := ⟨C.ca, a, some (dd, cn, pl)⟩
def tSu (C : Ctx) (K : PySem.W.Frag) (h : Str → D → Sc) : Addr → Value → Option Addr → TS := fun a cls d D σ H => ∃ cn pl dd, d = some dd ∧ (∃ A, C.ca cn = some A ∧ cls = .ref A) ∧ tS (C.of a dd cn pl) K WF (h cn pl) D σ H
/-- a suite -/
def SSu (C : Ctx) (X : Cx) (h : Str → D → Sc) (suite : List Stmt) : Prop := ∀ (a : Addr) (oe : Obj) (A dd : Addr) (cn : Str) (pl : D) (pn : List (Addr × Obj)), C.ca cn = some A → Zc (.ref A) (some dd) oe → (∃ vs, oe.data = .fields vs) → SSs (C.of a dd cn pl) (X.suite a ((a, oe) :: pn)) WF (h cn pl) suite
inductive SHds (C : Ctx) (X : Cx) : List Hd → List ExceptHandler → Prop
  | nil : SHds C X [] []
  | cons {x : Str} {Ac : Addr} {h : Str → D → Sc} {b₀ : Stmt} {suite : List Stmt} {np pos' : Pos} {hds : List ExceptHandler} {l : List Hd} (hc : Names X x (.ref Ac)) (hx : ∀ cn A, C.ca cn = some A → PySem.W.exmOne X.K (.ref A) (.ref Ac) = some (subX cn x)) (hsu : SSu C X h (b₀ :: suite)) (r : SHds C X l hds) :
      SHds C X ((x, none, h) :: l) (.ExceptHandler (some (.Name x np)) none (b₀ :: suite) pos' :: hds)
  | as {x n : Str} {i : Nat} {Ac : Addr} {h : Str → D → Sc} {b₀ : Stmt} {suite : List Stmt} {np pos' : Pos} {hds : List ExceptHandler} {l : List Hd} (hi : X.N[i]? = some n) (hln : X.env.kindOf n = some .local) (hc : Names X x (.ref Ac)) (hx : ∀ cn A, C.ca cn = some A → PySem.W.exmOne X.K (.ref A) (.ref Ac) = some (subX cn x)) (hsu : SSu C X h (b₀ :: suite)) (r : SHds C X l hds) :
      SHds C X ((x, some i, h) :: l) (.ExceptHandler (some (.Name x np)) (some n) (b₀ :: suite) pos' :: hds)
theorem SSu.ps {h : Str → D → Sc} {suite : List Stmt} (q : SSu C X h suite) (a : Addr) (oe : Obj) (cls : Value) (d : Option Addr) (pn : List (Addr × Obj)) (z : Zc cls d oe) (f : ∃ vs, oe.data = .fields vs) : PSs (X.suite a ((a, oe) :: pn)) suite (tSu C X.K h a cls d) :=
  ⟨fun pins s σ H D I t => by
    obtain ⟨cn, pl, dd, rfl, ⟨A, hA, rfl⟩, t⟩ := t
    exact (q a oe A dd cn pl pn hA z f).run pins s σ H D I t⟩
theorem ER.suite {I : Hp} {β : Nat → Addr} {ρ : Env} {μ : Sto} {σ : L2.St} {a dd : Addr} {cn : Str} {pl : D} (e : ER C K I β ρ μ σ) (h : envOk ρ = true) (x : XdAt K I cn pl dd) : ER (C.of a dd cn pl) K I β ρ μ σ where
  len := e.len
  get := fun i v hv => by
    obtain ⟨w, h1, h2⟩ := e.get i v hv
    have hm : some v ∈ ρ := List.mem_of_getElem? hv
    have := List.all_eq_true.mp h _ hm
    exact ⟨w, h1, h2.other this⟩
  ex := fun dd' cn' pl' z => by cases z; exact x
theorem shds_ok : ∀ {l : List Hd} {hds : List ExceptHandler}, SHds C X l hds → ∃ l', HdsOk2 X hds l' ∧ ∀ {D : Ends} {n0 : Nat} {I : Hp} {β : Nat → Addr} {ρ : Env} {μ : Sto} {σ : L2.St} {H : Hp} {cn : Str} {pl : PyData} {cls : Value} {dd : Addr}, n0 ≤ μ.length → SR X.K I β μ H → ER C X.K I β ρ μ σ → ExcAt C X.K I cn pl cls dd → OutOk C X.K W D n0 I β μ H (catchX l cn pl n0 ρ μ) → wMany2 X.K W D l' cls (some dd) σ H
  | _, _, .nil => ⟨[], .nil, fun {D n0 I β ρ μ σ H cn pl cls dd} hn s e z h => h I β σ H cls dd (Ext.refl hn) s e z⟩
  | _, _, @SHds.cons _ _ x Ac h b₀ suite np pos' hds l hc hx hsu r => by
    obtain ⟨l', h1, h2⟩ := shds_ok r
    refine ⟨(.ref Ac, none, tSu C X.K h) :: l', .cons hc (fun a oe cls d pn z f => hsu.ps a oe cls d pn z f) h1, fun {D n0 I β ρ μ σ H cn pl cls dd} hn s e z o => ?_⟩
    obtain ⟨⟨A, hA, rfl⟩, xd⟩ := id z
    refine ⟨subX cn x, hx cn A hA, fun hb a ha => ?_, fun hb => ?_⟩
    · unfold catchX at o
      rw [if_pos hb] at o
      split at o
      · rename_i ho
        refine ⟨cn, pl, dd, rfl, ⟨A, hA, rfl⟩, n0, I, β, ρ, μ, hn, s, e.suite ho xd, ?_⟩
        cases hq : h cn pl n0 ρ μ with
        | ret v μ' =>
          rw [hq] at o
          by_cases hv : notExn v = true
          · rw [show retO (.ret v μ') = .ret v μ' from if_pos hv] at o
            exact fun I' β' H' w x' s' r' => o I' β' H' w x' s' (r'.other hv)
          · rw [show retO (.ret v μ') = .stuck from if_neg hv] at o
            exact o.elim
        | next _ _ => rw [hq] at o; exact o.elim
        | brk _ _ => rw [hq] at o; exact o.elim
        | cont _ _ => rw [hq] at o; exact o.elim
        | exc _ _ _ _ => rw [hq] at o; exact o.elim
        | stuck => rw [hq] at o; exact o.elim
      · exact o.elim
    · unfold catchX at o
      rw [if_neg (by rw [hb]; exact Bool.false_ne_true)] at o
      exact h2 hn s e z o
  | _, _, @SHds.as _ _ x n i Ac h b₀ suite np pos' hds l hi hln hc hx hsu r => by
    obtain ⟨l', h1, h2⟩ := shds_ok r
    refine ⟨(.ref Ac, some i, tSu C X.K h) :: l', .as hi hln hc (fun a oe cls d pn z f => hsu.ps a oe cls d pn z f) h1, fun {D n0 I β ρ μ σ H cn pl cls dd} hn s e z o => ?_⟩
    obtain ⟨⟨A, hA, rfl⟩, xd⟩ := id z
    refine ⟨subX cn x, hx cn A hA, fun hb a ha => ?_, fun hb => ?_⟩
    · unfold catchX at o
      rw [if_pos hb] at o
      split at o
      · rename_i ho
        refine ⟨cn, pl, dd, rfl, ⟨A, hA, rfl⟩, n0, I, β, _, μ, hn, s, (e.suite (a := a) ho xd).set (v := .exn) rfl, ?_⟩
        cases hq : h cn pl n0 (ρ.set i (some .exn)) μ with
        | ret v μ' =>
          rw [hq] at o
          by_cases hv : notExn v = true
          · rw [show retO (.ret v μ') = .ret v μ' from if_pos hv] at o
            exact fun I' β' H' w x' s' r' => o I' β' H' w x' s' (r'.other hv)
          · rw [show retO (.ret v μ') = .stuck from if_neg hv] at o
            exact o.elim
        | next _ _ => rw [hq] at o; exact o.elim
        | brk _ _ => rw [hq] at o; exact o.elim
        | cont _ _ => rw [hq] at o; exact o.elim
        | exc _ _ _ _ => rw [hq] at o; exact o.elim
        | stuck => rw [hq] at o; exact o.elim
      · exact o.elim
    · unfold catchX at o
      rw [if_neg (by rw [hb]; exact Bool.false_ne_true)] at o
      exact h2 hn s e z o
theorem ss_try {body : List Stmt} {h₀ : ExceptHandler} {hds : List ExceptHandler} {l : List Hd} {f : Sc} (hs : X.stack = X.env :: X.outer) (hf : X.env.frame = some X.env.locals) (hN : X.N.Nodup) (tk : Takes X W)
    (hb : ∀ (W' : WX) (pn : List (Addr × Obj)) (xe : Value → Shared → Prop), Takes (X.tr pn xe) W' → PassesOwn (model X.prog X.w) X.A X.env xe → SSs C (X.tr pn xe) W' f body) (hh : SHds C X l (h₀ :: hds)) : SS C X W (sTry f l) (.Try body (h₀ :: hds) [] [] pos) := by
  obtain ⟨l', h1, h2⟩ := shds_ok (W := W) hh
  refine PS_imp (ps_try_many2 (tb := fun W' => tS C X.K W' f) hs hf hN tk hb h1) fun D σ H h => ?_
  obtain ⟨n0, I, β, ρ, μ, hn, s, e, h⟩ := h
  refine ⟨n0, I, β, ρ, μ, hn, s, e, ?_⟩
  unfold sTry at h
  cases hq : f n0 ρ μ with
  | exc cn pl ρ' μ' =>
    rw [hq] at h
    exact fun I' β' σ' H' cls dd x' s' e' z => h2 x'.len s' e' z (OutOk.re hn x' h)
  | next _ _ => rw [hq] at h; exact h
  | ret _ _ => rw [hq] at h; exact h
  | brk _ _ => rw [hq] at h; exact h
  | cont _ _ => rw [hq] at h; exact h
  | stuck => rw [hq] at h; exact h
/-! e.place, e.name within a suite -/
def cXf (i : Nat) (x : D) : Cd Val := fun ρ μ => match ρ[i]? with
  | some (some .exn) => .ok (.d x) μ
  | _ => .stuck
theorem se_xf {i : Nat} {n f : Str} {x : D} {a A dd : Addr} {oe : Obj} {cn : Str} {pl : D} {pn : List (Addr × Obj)} {np pos : Pos} (hN : X.N[i]? = some n) (hv : Vis X.env.scope n) (T : XfC X.K A) (hno : PySem.W.findIn X.K (.ref A) f = some none) (z : Zc (.ref A) (some dd) oe) (hf : ∃ vs, oe.data = .fields vs)
    (hx : ∀ I v, Rp X.K I v pl → ∃ u, List.lookup f [(("place" : Str), v), (("name" : Str), V.str cn)] = some u ∧ Rp X.K I u x)
    (hd : (n == ("__debug__" : Str)) = false := by decide) (hcd : (n == ("__classdict__" : Str)) = false := by decide)
    (hb : attributeBase (.Name n np) f X.env (eval (.Name n np) X.env) = eval (.Name n np) X.env := by rfl) :
    SE (C.of a dd cn pl) (X.suite a ((a, oe) :: pn)) WF (cXf i x) (.Attribute (.Name n np) f pos) := PE_imp (pe_xf T hno z hf (pe_var (X := X.suite a ((a, oe) :: pn)) hN hv hd hcd) hb) fun σ H Q h => by
  obtain ⟨I, β, ρ, μ, s, e, h⟩ := h
  unfold cXf at h
  split at h
  · rename_i hi
    obtain ⟨w, h1, rfl⟩ := e.get i .exn hi
    obtain ⟨v, h3, h4⟩ := e.ex dd cn pl rfl
    obtain ⟨u, h5, h6⟩ := hx I v h4
    exact ⟨.ref a, h1, rfl, rfl, dd, _, u, rfl, s.imm _ _ h3, h5, Res.here s h h6⟩
  · exact h.elim
end
end FW


set_option Elab.async false
set_option linter.all false
set_option maxRecDepth 100000
set_option maxHeartbeats 4000000
namespace PySem
namespace FX
open PySem.W PySem.Calls PyProof.Rows PySem.HandSPX
/-! ### an error class over ValueError, its __init__ by super(), and heirs of it -/
def iA (p1 p2 : Pos) : Arguments := { posonlyargs := [], args := [{ arg := "self", annotation := none, pos := p1 }, { arg := "place", annotation := none, pos := p2 }], vararg := none, kwonlyargs := [], kw_defaults := [], kwarg := none, defaults := [] }
def iS : Scope := { kind := .function, names := [(PySem.Str.ofString "self", .local), (PySem.Str.ofString "place", .local), (PySem.Str.ofString "__class__", .free), (PySem.Str.ofString "super", .globalImplicit)], isGenerator := false, isCoroutine := false, more := [] }
def supS (p0 p1 p2 p3 p4 p5 : Pos) : Stmt := .Expr (.Call (.Attribute (.Call (.Name "super" p0) [] [] p1) "__init__" p2) [.Name "place" p3] [] p4) p5
def plS (q1 q2 q3 q4 : Pos) : Stmt := .Assign [.Attribute (.Name "self" q1) "place" q2] (.Name "place" q3) q4
def nmS (cn : Str) (k : Nat) (r1 r2 r3 r4 : Pos) : Stmt := .Assign [.Attribute (.Name "self" r1) "name" r2] (.Constant (.str cn) k r3) r4
abbrev vei : String := "ValueError.__init__"
section
variable {prog : Program} {w : World} {A : Around} {E : Value → Shared → Prop} {h : Heap} {g : Array GenState} {d : Drawn} {t : Nat} {os : OsState}
variable {nm q : Str} {C N : Addr} {bs bm : List Value} {hdct : Bool} {sn : List Str} {sub : List Value} {ab : Bool} {col : Option Bool} {dd : Option Addr} {k0 k1 k2 k3 k5 : Option Value}
theorem call_mw {u e t0 : Addr} {rest : List Value} {Q : Value → Shared → Prop}
    (hC : h.get? C = some (excClassObj nm q C N bs bm hdct sn sub ab col dd k0 k1 k2 k3 k5 "ValueError.__new__")) (he : h.get? e = some (HandSPX.excO C t0)) (hu : h.get? u = some (kxs_mw vei e)) (hrest : rest.length ≤ sizeLine)
    (hq : ∀ h' t1, (∀ b o, b ≠ e → h.get? b = some o → h'.get? b = some o) → h'.get? e = some (HandSPX.excO C t1) → Q .none ⟨h', g, d, t, os⟩) :
    wpAny (model prog w) A (call (.ref u) rest) Q E ⟨h, g, d, t, os⟩ := by
  refine wpAny_call (codeAny_of_tree ?_)
  show wpAny _ A.in1 (callAny (.ref u) ⟨rest, []⟩) _ _ _
  simp only [callAny]
  refine wpAny_bind (wpAny_load hu ?_)
  simp only [kxs_mw, show (Value.type "method-wrapper" == Value.type "method" || Value.type "method-wrapper" == Value.type "builtin_function_or_method" || Value.type "method-wrapper" == Value.type "method-wrapper") = true by decide, if_true]
  refine W.KFB.if_so (by decide) ?_
  refine wpAny_bind (ESX.check_bound F.excBase_ValueError hC he rfl ?_)
  refine wpAny_bind (wpAny_pure (wpAny_pure ?_))
  refine ⟨Code.quiet_builtin _ (by decide +kernel), codeAny_builtin F.excBase_ValueError.initEntry ?_⟩
  rw [Around.under_plainId F.excBase_ValueError.init.plain _]
  wp_walk
  refine hq _ h.objs.size (fun b o hb ho => ?_) ?_
  · rw [Heap.get?_update_other _ _ (Ne.symm hb)]
    exact Heap.get?_push_of_some _ ho
  · rw [Heap.get?_update_self _ (Heap.get?_push_of_some _ he) rfl]
    rfl
end
section
open Builtin Builtin.ObjectAttr
variable {prog : Program} {w : World} {A : Around} {E : Value → Shared → Prop} {R : Result → Shared → Prop} {hp : Heap} {g : Array GenState} {d : Drawn} {t : Nat} {os : OsState}
/-- self.name = v where the dict is there -/
theorem osa_old {K : W.Frag} {name : Str} {tk : Tok} {v : Value} {x C dx : Addr} {fv : Array Value} {cd : ClassData} {m0 : Str → Option Value} {nl : List Str}
    (X : K.In hp) (hx : hp.get? x = some { cls := .ref C, dict := some dx, data := .fields fv }) (hns : hp.Ns1 dx m0) (hw : Within m0 nl) (hz : nl.length ≤ 1000) (hcd : W.clsIn K C = some cd) (hm : refsVE cd.mro = true) (hh : cd.hasDict = true)
    (ha : W.findIn K (.ref C) name = some none)
    (hq : ∀ h' tk', (∀ b o, b ≠ dx → hp.get? b = some o → h'.get? b = some o) → h'.Ns1 dx (fun y => if y = name then some v else m0 y) → R (.ok (.ret .none)) ⟨h', g, d, tk', os⟩) :
    codeAny (model prog w) A (.call (.builtin "object.__setattr__") ⟨[.ref x, .str name tk, v], []⟩) R ⟨hp, g, d, t, os⟩ := by
  obtain ⟨oD, esD, epD, hoD, hdD, _⟩ := hns.count hw
  have I : W.InstAt hp x { cls := .ref C, dict := some dx, data := .fields fv } C (some oD) := ⟨hx, rfl, rfl, hoD⟩
  have SF := F.store_object
  have ne := refsVE_ne hm
  have hob : cd.mro.contains (.type "object") = true := (refsVE_contains "object" _ hm).trans (by decide +kernel)
  have sub : W.Looks (model prog w) hp (isInstance (.ref x) (.type "object")) true := I.type.andThen (W.looks_mroIn X (by unfold W.mroIn; rw [hcd, Option.bind_some, if_neg (by rw [ne]; decide), hob]))
  refine codeAny_call_builtin SF.slot.plain SF.entry (@W.check_slot (model prog w) _ _ ⟨hp, g, d, t, os⟩ "object.__setattr__" "object" "__setattr__" (.ref x) [.str name tk, v] [] _ SF.kind SF.split sub (SF.args (.ref x) (.str name tk) v) ?_)
  have hmr : W.Looks (model prog w) hp (mroOf (.ref C)) cd.mro := (W.looks_clsIn X hcd).andThen .now
  have L3 : W.Looks (model prog w) hp (storeTaker? none) none := .now
  have hcls : W.Looks (model prog w) hp (classData C) cd := W.looks_clsIn X hcd
  rw [W.osa_eq, refuse_eq]
  refine wpAny_bind (wpAny_bind (I.type.at (wpAny_bind (hmr.at ?_))))
  rw [refsVE_pass _ _ hm]
  refine wpAny_pure (wpAny_bind (I.type.at (wpAny_bind ((W.looks_findIn X ha).at (wpAny_bind (L3.at ?_))))))
  show wpAny _ _ (storeInOwnDict (.ref x) (.ref C) (.str name tk) name v false) _ _ _
  obtain ⟨nm, bs, mro, ns, qn, hd, sn, sb, ab, col, del⟩ := cd
  dsimp only at hh
  subst hh
  unfold storeInOwnDict ownDictForStores
  repeat (first | with_reducible refine ESX.store_in_old hns hw hz ?_ | with_reducible refine wpAny_loadPart_at hx ?_ | with_reducible refine hcls.at ?_ | wp_step)
  intro h' tk' hn' hs
  exact hq h' tk' (fun b o hb ho => (hs.2 b hb).trans ho) hn'
end
/-! ### the facts -/
/-- the __init__ at f of the class at D -/
structure InitF (prog : Program) (K : Frag) (f D : Addr) (qual : Str) (body : List Stmt) : Prop where
  ex : ∃ (oc : Value) (od : Option Addr) (kV doc pm : Value) (an : Option Addr) (ct : Value) (osl : Array (Option Value)) (cda cc : Addr) (p1 p2 : Pos) (ccl : Value) (cdd : Option Addr) (vs : Array Value) (ccs : Array (Option Value)) (file : Str) (tf : Tok) (cl : Value) (cld : Option Addr) (csl : Array (Option Value)),
    K.lookup f = some ⟨oc, od, .func (ksFn "__init__" qual (iA p1 p2) body iS .none kV doc pm an (.ref cda) ct cc), osl⟩ ∧ codeIn K (.ref cda) qual = true ∧
    K.lookup cda = some ⟨ccl, cdd, .fields vs, ccs⟩ ∧ vs[2]? = some (.str file tf) ∧ ((prog.main.file : Str) == file) = true ∧ K.lookup cc = some ⟨cl, cld, .cell (some (.ref D)), csl⟩
  cls : ∃ cd, clsIn K D = some cd
/-- the class at C of what is made; CB: the base class; B: the base's __init__ -/
structure ExcF (K : Frag) (C CB fB : Addr) : Prop where
  cls : ∃ nm q N bs bm sn sub ab col dd k0 k1 k2 k3 k5, K.lookup C = some (excClassObj nm q C N bs bm true sn sub ab col dd k0 k1 k2 k3 k5 "ValueError.__new__") ∧ refsVE bm = true
  sa : findIn K (.ref C) "__setattr__" = some (some (.builtin "object.__setattr__"))
  noP : findIn K (.ref C) "place" = some none
  noN : findIn K (.ref C) "name" = some none
  mB : mroIn K C (.ref CB) = some true
  spB : ks_superIn K C CB "__init__" = some (some (.builtin vei))
  sVE : subIn K (.ref C) (.type "ValueError") = some true
/-- what the world around says -/
structure Wd (prog : Program) (K : Frag) (mg : Str → Option Value) : Prop where
  sup : mg "super" = none
  top : (prog.main.scope.names.lookup ("super" : Str)).isSome = false
  any : nsIn K cStatics "thirdparty.any" = some none
structure At (mg : Str → Option Value) (h : Heap) : Prop where
  g : h.Ns mainGlobals mg
  b : ∃ mb, h.Ns builtinsNs mb ∧ mb "super" = some (.type "super")
theorem At.keeps {mg : Str → Option Value} {h h' : Heap} (a : At mg h) (k : ∀ b o, h.get? b = some o → h'.get? b = some o) : At mg h' :=
  ⟨a.g.keeps k, let ⟨mb, h1, h2⟩ := a.b; ⟨mb, h1.keeps k, h2⟩⟩
theorem ns_keeps {h h' : Heap} {L : Addr} {m : Str → Option Value} (n : h.Ns L m) (k : ∀ b o, h.get? b = some o → h'.get? b = some o) : h'.Ns L m := n.keeps k
theorem one_size (v : Value) : [v].length ≤ sizeLine := by
  rw [sizeLine_eq]
  exact (by decide : 1 ≤ 16777216)
theorem kept_but {K : Frag} {h h' : Heap} {x : Addr} (X : K.In h) (hx : K.lookup x = none) (k : ∀ b o, b ≠ x → h.get? b = some o → h'.get? b = some o) : K.In h' := fun a o e =>
  k a o (fun z => by rw [z, hx] at e; cases e) (X a o e)
/-- what __init__ leaves of a fresh exception at x -/
structure InitEnd (h h' : Heap) (x C dx t1 : Addr) (v : Value) (cn : Str) : Prop where
  keep : ∀ b o, b ≠ x → h.get? b = some o → h'.get? b = some o
  obj : h'.get? x = some { cls := .ref C, dict := some dx, data := .fields #[.ref t1, .none, .none, .none, .bool false, .none] }
  dbig : h.objs.size ≤ dx
  dne : dx ≠ x
  ns : ∃ tk, h'.Ns1 dx (fun y => if y = "name" then some (.str cn tk) else if y = "place" then some v else none)
section
variable {prog : Program} {w : World} {A : Around} {E : Value → Shared → Prop} {R : Result → Shared → Prop} {s : Shared} {K : Frag} {mg : Str → Option Value} {C CB fB : Addr}
/-- super() in an __init__ -/
theorem sup_node {f D cda cc x L : Addr} {ox : Obj} {odx : Option Obj} {qual : Str} {body body' : List Stmt} {oc kV doc pm ct ccl cl : Value} {od an cdd cld : Option Addr} {osl ccs csl : Array (Option Value)} {p1 p2 p0 pp : Pos} {vs : Array Value} {file : Str} {tf : Tok} {m : Str → Option Value} {cdD : ClassData} {whole : Sem Value} {Q : Value → Shared → Prop}
    (W' : Wd prog K mg) (X : K.In s.heap) (a : At mg s.heap) (hn : s.heap.Ns L m) (hv : m "self" = some (.ref x)) (I : InstAt s.heap x ox C odx)
    (hf : K.lookup f = some ⟨oc, od, .func (ksFn "__init__" qual (iA p1 p2) body iS .none kV doc pm an (.ref cda) ct cc), osl⟩)
    (hcode : K.lookup cda = some ⟨ccl, cdd, .fields vs, ccs⟩) (hvs : vs[2]? = some (.str file tf)) (hfile : ((prog.main.file : Str) == file) = true) (hcell : K.lookup cc = some ⟨cl, cld, .cell (some (.ref D)), csl⟩) (hD : clsIn K D = some cdD) (hsub : mroIn K C (.ref D) = some true)
    (h : ∀ h', h'.get? s.heap.objs.size = some (ks_superObj D x C) → (∀ y o, s.heap.get? y = some o → h'.get? y = some o) → Q (.ref s.heap.objs.size) { s with heap := h' }) :
    _root_.PySem.wpAt (model prog w) A (.func body' (ksEnv qual iS L f (.ref cda) cc)) (attributeBase (.Call (.Name "super" p0) [] [] pp) "__init__" (ksEnv qual iS L f (.ref cda) cc) whole) Q E s := by
  obtain ⟨hh, g, d, t, os⟩ := s
  obtain ⟨oD, hD1, hD2⟩ : ∃ oD, hh.get? D = some oD ∧ oD.data = .cls cdD := by
    unfold clsIn at hD
    split at hD
    · rename_i c d cd' sl ho
      cases hD
      exact ⟨_, X _ _ ho, rfl⟩
    · cases hD
  obtain ⟨mb, hb1, hb2⟩ := a.b
  refine ks_wpAt_super_base (env := ksEnv qual iS L f (.ref cda) cc) (ar := { arg := "self", annotation := none, pos := p1 }) (by rfl) (by rfl) (by decide) rfl (X _ _ hf) rfl rfl rfl (X _ _ hcode) rfl hvs hfile W'.top ?_
  refine ks_loadName_global (by rfl) (by rfl) (loadGlobal_builtin (env := ksEnv qual iS L f (.ref cda) cc) a.g W'.sup hb1 hb2 ⟨rfl, ?_⟩)
  refine wpAny_loadName_free (by rfl) (by rfl) (by rfl) ⟨_, X _ _ hcell, rfl⟩ ?_
  refine wpAny_loadName_local (by rfl) (by rfl) hn hv ?_
  refine ks_wpAny_isType_cls hD1 hD2 ⟨rfl, ?_⟩
  refine ks_wpAny_call_super hD1 hD2 I.at_ I.cls (fun c e => ?_) (looks_mroIn X hsub) (fun h' e k => ?_)
  · have := I.no
    unfold notCls at this
    rw [e] at this
    exact Bool.noConfusion this
  · exact h _ e k
end
end FX
end PySem


set_option Elab.async false
set_option linter.all false
set_option maxRecDepth 100000
set_option maxHeartbeats 4000000
namespace PySem
namespace FX
open PySem.W PySem.Calls PyProof.Rows PySem.HandSPX
section
variable {prog : Program} {w : World} {A : Around} {E : Value → Shared → Prop} {R : Result → Shared → Prop} {s : Shared} {K : Frag} {mg : Str → Option Value} {C CB fB : Addr}
abbrev supE (p0 p1 p2 p3 p4 : Pos) : Expr := .Call (.Attribute (.Call (.Name "super" p0) [] [] p1) "__init__" p2) [.Name "place" p3] [] p4
/-- the call stands on one line -/
def SupOk (p0 p1 p2 p3 p4 : Pos) : Prop := ∀ env : PySem.Env, ∃ pl : Sem Bool, eval (supE p0 p1 p2 p3 p4) env = (do
      let ov ← attributeBase (.Call (.Name "super" p0) [] [] p1) "__init__" env (eval (.Call (.Name "super" p0) [] [] p1) env)
      standAt p2.atName
      let (f, first) ← holding [ov] (getMethod ov "__init__" pl)
      callWith p4 f first (backTo p4 (starEach [.Name "place" p3] env)) [])
example : SupOk ⟨5, 8, 5, 13⟩ ⟨5, 8, 5, 15⟩ ⟨5, 8, 5, 24⟩ ⟨5, 25, 5, 30⟩ ⟨5, 8, 5, 31⟩ := fun env => ⟨_, rfl⟩
theorem inst0 {h : Heap} {x C t0 : Addr} (hx : h.get? x = some (excO C t0)) : InstAt h x (excO C t0) C none := ⟨hx, rfl, rfl, trivial⟩
/-- the arguments of super().__init__(place) -/
theorem arg1 {L : Addr} {env : Env} {m : Str → Option Value} {p3 pos : Pos} {v : Value} {Q : List Value → Shared → Prop} {M : Model} (hn : s.heap.Ns env.locals m) (hv : m "place" = some v) (hk : env.scope.kind = .function) (hl : env.kindOf "place" = some .local) (h : Q [v] s) :
    wpAny M A (spliced (backTo pos (starEach [.Name "place" p3] env))) Q E s :=
  wpAny_items_cons (ESX.ldL hn hv (wpAny_items_nil h) hk hl) rfl
/-- ValueError's own __init__, by super() -/
theorem sup_own {f D cda cc x t0 L : Addr} {qual : Str} {body body' : List Stmt} {oc kV doc pm ct ccl cl : Value} {od an cdd cld : Option Addr} {osl ccs csl : Array (Option Value)} {p1 p2 p0 pp p3 p4 p5 p6 : Pos} {vs : Array Value} {file : Str} {tf : Tok} {m : Str → Option Value} {cdD : ClassData} {v : Value} {Q : Flow → Shared → Prop}
    (W' : Wd prog K mg) (so : SupOk p0 pp p3 p4 p5) (T : ExcF K C D fB) (X : K.In s.heap) (a : At mg s.heap) (hn : s.heap.Ns L m) (hv : m "self" = some (.ref x)) (hp : m "place" = some v) (hx : s.heap.get? x = some (excO C t0))
    (hf : K.lookup f = some ⟨oc, od, .func (ksFn "__init__" qual (iA p1 p2) body iS .none kV doc pm an (.ref cda) ct cc), osl⟩)
    (hcode : K.lookup cda = some ⟨ccl, cdd, .fields vs, ccs⟩) (hvs : vs[2]? = some (.str file tf)) (hfile : ((prog.main.file : Str) == file) = true) (hcell : K.lookup cc = some ⟨cl, cld, .cell (some (.ref D)), csl⟩) (hD : clsIn K D = some cdD)
    (h : ∀ h' t1 tk, (∀ b o, b ≠ x → s.heap.get? b = some o → h'.get? b = some o) → h'.get? x = some (excO C t1) → Q .next { s with heap := h', toks := tk }) :
    _root_.PySem.wpAt (model prog w) A (.func body' (ksEnv qual iS L f (.ref cda) cc)) (exec (supS p0 pp p3 p4 p5 p6) (ksEnv qual iS L f (.ref cda) cc)) Q E s := by
  obtain ⟨hh, g, d, t, os⟩ := s
  obtain ⟨pl, hpl⟩ := so (ksEnv qual iS L f (.ref cda) cc)
  refine ks_wpAt_Expr_any (ks_wpAt_MethodCall (sup_node W' X a hn hv (inst0 hx) hf hcode hvs hfile hcell hD T.mB fun h1 hso k1 => ?_) hpl) (by rfl)
  have X1 := X.keeps k1
  obtain ⟨nm, q, N, bs, bm, sn, sub, ab, col, dd, k0, kk1, k2, k3, k5, hC, hbm⟩ := T.cls
  have hcl : clsIn K C = some { name := nm, bases := bs, mro := .ref C :: bm, ns := N, qualname := q, hasDict := true, slotNames := sn, subclasses := sub, abstract := ab, collection := col, hasDel := false } := by unfold clsIn; rw [hC] <;> rfl
  have hsp := T.spB
  unfold ks_superIn at hsp
  rw [hcl] at hsp
  have hI : Looks (model prog w) h1 (isInstance (.ref x) (.type "ValueError")) true := (inst0 (k1 _ _ hx)).type.andThen (looks_subIn X1 T.sVE)
  refine kxs_getMethod kxs_ValueError hso (looks_opaque X1 W'.any) (l₀ := .ref C :: bm) ?_ rfl X1 hsp hI (ks_ne X1 (inst0 (k1 _ _ hx)) hcl) (by decide) ?_
  · exact fun A Q E s k q => wpAny_bind ((looks_clsIn X1 hcl) A _ E s k (wpAny_pure q))
  · have ku : ∀ b o, h1.get? b = some o → (h1.push (kxs_mw vei x)).get? b = some o := fun b o e => Heap.get?_push_of_some _ e
    have hmw : (h1.push (kxs_mw vei x)).get? h1.objs.size = some (kxs_mw vei x) := Heap.get?_push_size _ rfl
    refine kxs_callWith (i := vei) (x := x) (by rfl) (evalArgs_plain (arg1 (L := L) ((hn.keeps k1).keeps ku) hp (by rfl) (by rfl) ⟨hmw, ?_⟩))
    refine call_mw (X1.keeps ku _ _ hC) (ku _ _ (k1 _ _ hx)) hmw (one_size v) fun h' t1 kk e' => ?_
    exact h h' t1 _ (fun b o hb e => kk b o hb (ku _ _ (k1 _ _ e))) e'
/-- self.name = '..' where the dict stands -/
theorem name_store {L x dx t1 : Addr} {env : PySem.Env} {cn : Str} {k : Nat} {r1 r2 r3 r4 : Pos} {m : Str → Option Value} {m0 : Str → Option Value} {nl : List Str} {Q : Flow → Shared → Prop}
    (T : ExcF K C CB fB) (X : K.In s.heap) (hL : env.locals = L) (hn : s.heap.Ns L m) (hv : m "self" = some (.ref x)) (hk : env.scope.kind = .function) (hl : env.kindOf "self" = some .local)
    (hx : s.heap.get? x = some { cls := .ref C, dict := some dx, data := .fields #[.ref t1, .none, .none, .none, .bool false, .none] }) (hd : s.heap.Ns1 dx m0) (hw : Within m0 nl) (hz : nl.length ≤ 1000) (hs : swapsWith (.Constant (.str cn) k r3) (some (.Attribute (.Name "self" r1) "name" r2)) r4.line env = pure false)
    (h : ∀ h' tk tv, (∀ b o, b ≠ dx → s.heap.get? b = some o → h'.get? b = some o) → h'.Ns1 dx (fun y => if y = "name" then some (.str cn tv) else m0 y) → Q .next { s with heap := h', toks := tk }) :
    wpAny (model prog w) A (exec (nmS cn k r1 r2 r3 r4) env) Q E s := by
  subst hL
  refine plainObj_wpAny_Assign_Attribute ?_ hs
  refine Calls.Constant_str (ESX.ldL hn hv ?_ hk hl)
  obtain ⟨nm, q, N, bs, bm, sn, sub, ab, col, dd, k0, kk1, k2, k3, k5, hC, hbm⟩ := T.cls
  have hcl : clsIn K C = some { name := nm, bases := bs, mro := .ref C :: bm, ns := N, qualname := q, hasDict := true, slotNames := sn, subclasses := sub, abstract := ab, collection := col, hasDel := false } := by unfold clsIn; rw [hC] <;> rfl
  obtain ⟨oD, esD, epD, hoD, hdD, _⟩ := hd.count hw
  obtain ⟨hh, g, d, t, os⟩ := s
  refine set_plain (s := ⟨hh, g, d, t + 1, os⟩) X (od := some oD) ⟨hx, rfl, rfl, hoD⟩ T.sa ?_
  exact osa_old X hx hd hw hz hcl (show refsVE (.ref C :: bm) = true from hbm) rfl T.noN fun h' tk' kk e => h h' tk' _ kk e
/-- the base's __init__ -/
theorem base_init {cnB : Str} {qual : Str} {p0 pp p3 p4 p5 p6 q1 q2 q3 q4 r1 r2 r3 r4 : Pos} {k : Nat} {x t0 : Addr} {v : Value}
    (W' : Wd prog K mg) (so : SupOk p0 pp p3 p4 p5) (T : ExcF K C CB fB) (IB : InitF prog K fB CB qual [supS p0 pp p3 p4 p5 p6, plS q1 q2 q3 q4, nmS cnB k r1 r2 r3 r4]) (X : K.In s.heap) (hlim : s.heap.NoLimit) (a : At mg s.heap) (hx : s.heap.get? x = some (excO C t0)) (hnx : K.lookup x = none) (hroom : A.depth < recursionLimit)
    (hq : ∀ h' tk dx t1, InitEnd s.heap h' x C dx t1 v cnB → R (.ok (.ret .none)) { s with heap := h', toks := tk }) :
    codeAny (model prog w) A (.call (.ref fB) ⟨[.ref x, v], []⟩) R s := by
  obtain ⟨⟨oc, od, kV, doc, pm, an, ct, osl, cda, cc, p1, p2, ccl, cdd, vs, ccs, file, tf, cl, cld, csl, hf, hcd, hcode, hvs, hfile, hcell⟩, cdD, hD⟩ := IB
  obtain ⟨nm, q, N, bs, bm, sn, sub, ab, col, dd, k0, kk1, k2, k3, k5, hC, hbm⟩ := id T.cls
  have hcl : clsIn K C = some { name := nm, bases := bs, mro := .ref C :: bm, ns := N, qualname := q, hasDict := true, slotNames := sn, subclasses := sub, abstract := ab, collection := col, hasDel := false } := by unfold clsIn; rw [hC] <;> rfl
  refine ks_codeAny_call_defAt (fd := ksFn "__init__" qual (iA p1 p2) [supS p0 pp p3 p4 p5 p6, plS q1 q2 q3 q4, nmS cnB k r1 r2 r3 r4] iS .none kV doc pm an (.ref cda) ct cc) (body := [supS p0 pp p3 p4 p5 p6, plS q1 q2 q3 q4, nmS cnB k r1 r2 r3 r4]) (binds := [("self", .ref x), ("place", v)]) hroom (X _ _ hf) rfl hlim (codeRec_of X hcd) rfl (BindsTo.of_eq rfl) (show ∀ z ∈ iS.names, z.2 ≠ .cell by decide) (show ∀ z ∈ [(("self" : Str), Value.ref x), ("place", v)], iS.names.lookup z.1 = some .local from fun z hz => by rcases List.mem_cons.mp hz with rfl | hz; exact (by decide : iS.names.lookup ("self" : Str) = some .local); rcases List.mem_cons.mp hz with rfl | hz; exact (by decide : iS.names.lookup ("place" : Str) = some .local); cases hz) (fun h0 hn k0 => ?_) rfl rfl rfl
  obtain ⟨hh, g, d, t, os⟩ := s
  have X0 : K.In h0 := X.keeps k0
  have hv1 : (([("self", .ref x), ("place", v)] : List (Str × Value)).reverse.lookup ("self" : Str)) = some (Value.ref x) := by rfl
  have hv2 : (([("self", .ref x), ("place", v)] : List (Str × Value)).reverse.lookup ("place" : Str)) = some v := by rfl
  have hxL : hh.objs.size ≠ x := Nat.ne_of_gt (Heap.lt_size hx)
  have hLt := hn.lt
  refine ks_wpAt_execs_cons (sup_own (s := ⟨h0, g, d, _, os⟩) (L := hh.objs.size) W' so T X0 (a.keeps k0) hn hv1 hv2 (k0 _ _ hx) hf hcode hvs hfile hcell hD fun h1 t1 tk1 k1 e1 => ?_)
  refine wpAt_of_wpAny ?_
  show wpAny _ _ (execs _ _) _ _ _
  have X1 : K.In h1 := kept_but X0 hnx k1
  have hn1 : h1.Ns hh.objs.size (([("self", .ref x), ("place", v)] : List (Str × Value)).reverse.lookup ·) := by
    obtain ⟨oL, es, ep, hL, r⟩ := hn
    exact ⟨oL, es, ep, k1 _ _ hxL hL, r⟩
  refine wpAny_execs_cons (plainObj_wpAny_Assign_Attribute ?_ (by rfl))
  refine ESX.ldL hn1 hv2 (ESX.ldL hn1 hv1 ?_ (by rfl) (by rfl)) (by rfl) (by rfl)
  refine set_plain (s := ⟨h1, g, d, tk1, os⟩) X1 (od := none) (inst0 e1) T.sa ?_
  refine exc_osa X1 e1 hcl (show refsVE (.ref C :: bm) = true from hbm) rfl T.noP (fun h3 tk3 dx k3 dn dne hx3 hn3 => ?_)
  have X3 : K.In h3 := kept_but X1 hnx k3
  have hn3' : h3.Ns hh.objs.size (([("self", .ref x), ("place", v)] : List (Str × Value)).reverse.lookup ·) := by
    obtain ⟨oL, es, ep, hL, r⟩ := hn1
    exact ⟨oL, es, ep, k3 _ _ hxL hL, r⟩
  have big1 : hh.objs.size < h1.objs.size := by
    obtain ⟨oL, es, ep, hL, _⟩ := hn1
    exact Heap.lt_size hL
  have bigx : hh.objs.size ≤ dx := Nat.le_trans (Nat.le_of_lt big1) dn
  refine wpAny_execs_cons (name_store (s := ⟨h3, g, d, tk3, os⟩) (L := hh.objs.size) (nl := ["place"]) T X3 rfl hn3' hv1 (by rfl) (by rfl) hx3 hn3 (Within.cons "place" v Within.nil) (by decide) (by rfl) fun h4 tk4 tv k4 hn4 => ?_)
  refine wpAny_execs_nil (hq h4 tk4 dx t1 ⟨fun b o hb e => ?_, ?_, ?_, dne, ?_⟩)
  · have hbd : b ≠ dx := by
      have e0 : hh.get? b = some o := e
      exact Nat.ne_of_lt (Nat.lt_of_lt_of_le (Heap.lt_size e0) bigx)
    exact k4 b o hbd (k3 b o hb (k1 b o hb (k0 b o e)))
  · exact k4 _ _ (Ne.symm dne) hx3
  · exact bigx
  · exact ⟨tv, hn4⟩
end
end FX
end PySem


set_option Elab.async false
set_option linter.all false
set_option maxRecDepth 100000
set_option maxHeartbeats 4000000
namespace PySem
namespace FX
open PySem.W PySem.Calls PyProof.Rows PySem.HandSPX
/-- an heir's own facts: C the class, fI its __init__, CB the base, fB its __init__ -/
structure HeirF (prog : Program) (K : Frag) (C fI CB fB : Addr) (cn cnB : Str) : Prop where
  exc : ExcF K C CB fB
  iC : findIn K (.ref C) "__init__" = some (some (.ref fI))
  tI : typeIn K (.ref fI) = some (.type "function")
  tB : typeIn K (.ref fB) = some (.type "function")
  fnB : fnIn K fB = true
  mC : mroIn K C (.ref C) = some true
  spC : ks_superIn K C C "__init__" = some (some (.ref fB))
  kC : keepIn K (.ref C) = true
  exC : subIn K (.ref C) (.type "BaseException") = some true
  tyC : typeIn K (.ref C) = some (.type "type")
  own : ∃ (qual : Str) (p0 pp p3 p4 p5 p6 r1 r2 r3 r4 : Pos) (k : Nat), SupOk p0 pp p3 p4 p5 ∧ InitF prog K fI C qual [supS p0 pp p3 p4 p5 p6, nmS cn k r1 r2 r3 r4]
  base : ∃ (qual : Str) (p0 pp p3 p4 p5 p6 q1 q2 q3 q4 r1 r2 r3 r4 : Pos) (k : Nat), SupOk p0 pp p3 p4 p5 ∧ InitF prog K fB CB qual [supS p0 pp p3 p4 p5 p6, plS q1 q2 q3 q4, nmS cnB k r1 r2 r3 r4]
/-- a made one -/
structure OwnMade (h h' : Heap) (e C d : Addr) (v : Value) (cn : Str) : Prop where
  keep : ∀ b o, h.get? b = some o → h'.get? b = some o
  new : h.objs.size ≤ e
  obj : ∃ oe vs, h'.get? e = some oe ∧ oe.cls = .ref C ∧ oe.dict = some d ∧ oe.data = .fields vs ∧ vs[1]? = some .none
  dbig : h.objs.size ≤ d
  dne : d ≠ e
  ns : ∃ tk, h'.Ns1 d (fun y => if y = "name" then some (.str cn tk) else if y = "place" then some v else none)
section
variable {prog : Program} {w : World} {A : Around} {E : Value → Shared → Prop} {R : Result → Shared → Prop} {s : Shared} {K : Frag} {mg : Str → Option Value} {C CB fI fB : Addr} {cn cnB : Str}
theorem two_names (a b : Value) : Within (fun y : Str => if y = "name" then some a else if y = "place" then some b else none) ["name", "place"] := by
  intro y hy
  by_cases h : y = "name"
  · subst h; exact List.mem_cons_self
  · by_cases h2 : y = "place"
    · subst h2; exact List.mem_cons_of_mem _ List.mem_cons_self
    · simp only [h, h2, if_false] at hy
      exact absurd rfl hy
/-- an heir's __init__ -/
theorem sub_init {x t0 : Addr} {v : Value}
    (W' : Wd prog K mg) (T : HeirF prog K C fI CB fB cn cnB) (X : K.In s.heap) (hlim : s.heap.NoLimit) (a : At mg s.heap) (hx : s.heap.get? x = some (excO C t0)) (hnx : K.lookup x = none) (hroom : A.depth + 1 < recursionLimit)
    (hq : ∀ h' tk dx t1, InitEnd s.heap h' x C dx t1 v cn → R (.ok (.ret .none)) { s with heap := h', toks := tk }) :
    codeAny (model prog w) A (.call (.ref fI) ⟨[.ref x, v], []⟩) R s := by
  obtain ⟨qual, p0, pp, p3, p4, p5, p6, r1, r2, r3, r4, k, so, IB⟩ := T.own
  obtain ⟨qualB, p0', pp', p3', p4', p5', p6', q1', q2', q3', q4', r1', r2', r3', r4', k', so', IB'⟩ := T.base
  obtain ⟨⟨oc, od, kV, doc, pm, an, ct, osl, cda, cc, p1, p2, ccl, cdd, vs, ccs, file, tf, cl, cld, csl, hf, hcd, hcode, hvs, hfile, hcell⟩, cdD, hD⟩ := IB
  obtain ⟨nm, q, N, bs, bm, sn, sub, ab, col, dd, k0, kk1, k2, k3, k5, hC, hbm⟩ := id T.exc.cls
  have hcl : clsIn K C = some { name := nm, bases := bs, mro := .ref C :: bm, ns := N, qualname := q, hasDict := true, slotNames := sn, subclasses := sub, abstract := ab, collection := col, hasDel := false } := by unfold clsIn; rw [hC] <;> rfl
  refine ks_codeAny_call_defAt (fd := ksFn "__init__" qual (iA p1 p2) [supS p0 pp p3 p4 p5 p6, nmS cn k r1 r2 r3 r4] iS .none kV doc pm an (.ref cda) ct cc) (body := [supS p0 pp p3 p4 p5 p6, nmS cn k r1 r2 r3 r4]) (binds := [("self", .ref x), ("place", v)]) (Nat.lt_of_succ_lt hroom) (X _ _ hf) rfl hlim (codeRec_of X hcd) rfl (BindsTo.of_eq rfl) (show ∀ z ∈ iS.names, z.2 ≠ .cell by decide) (show ∀ z ∈ [(("self" : Str), Value.ref x), ("place", v)], iS.names.lookup z.1 = some .local from fun z hz => by rcases List.mem_cons.mp hz with rfl | hz; exact (by decide : iS.names.lookup ("self" : Str) = some .local); rcases List.mem_cons.mp hz with rfl | hz; exact (by decide : iS.names.lookup ("place" : Str) = some .local); cases hz) (fun h0 hn k0 => ?_) rfl rfl rfl
  obtain ⟨hh, g, d, t, os⟩ := s
  have X0 : K.In h0 := X.keeps k0
  have hv1 : (([("self", .ref x), ("place", v)] : List (Str × Value)).reverse.lookup ("self" : Str)) = some (Value.ref x) := by rfl
  have hv2 : (([("self", .ref x), ("place", v)] : List (Str × Value)).reverse.lookup ("place" : Str)) = some v := by rfl
  have hxL : hh.objs.size ≠ x := Nat.ne_of_gt (Heap.lt_size hx)
  have hlim0 : h0.NoLimit := Heap.NoLimit.keeps hlim k0
  obtain ⟨pl, hpl⟩ := so (ksEnv qual iS hh.objs.size fI (.ref cda) cc)
  refine ks_wpAt_execs_cons (ks_wpAt_Expr_any (ks_wpAt_MethodCall (sup_node (s := ⟨h0, g, d, _, os⟩) W' X0 (a.keeps k0) hn hv1 (inst0 (k0 _ _ hx)) hf hcode hvs hfile hcell hD T.mC fun h1 hso k1 => ?_) hpl) (by rfl))
  have X1 := X0.keeps k1
  have hsp := T.spC
  unfold ks_superIn at hsp
  rw [hcl] at hsp
  obtain ⟨of, hof, hofc⟩ : ∃ of, h1.get? fB = some of ∧ of.cls = .type "function" := by
    have ht' : (K.lookup fB).map (·.cls) = some (.type "function") := T.tB
    cases z : K.lookup fB with
    | none => rw [z] at ht'; cases ht'
    | some of => rw [z] at ht'; exact ⟨of, X1 _ _ z, Option.some.inj ht'⟩
  have k01 : ∀ b o, hh.get? b = some o → h1.get? b = some o := fun b o e => k1 b o (k0 b o e)
  refine ks_wpAny_getMethod_super hso (looks_opaque X1 W'.any) (l₀ := .ref C :: bm) ?_ rfl X1 hsp hof hofc (ks_ne X1 (inst0 (k01 _ _ hx)) hcl) (by decide) ?_
  · exact fun A Q E s k q => wpAny_bind ((looks_clsIn X1 hcl) A _ E s k (wpAny_pure q))
  have ku : ∀ b o, h1.get? b = some o → (h1.push { cls := .type "method", data := .fields #[.ref fB, .ref x] }).get? b = some o := fun b o e => Heap.get?_push_of_some _ e
  have hm : (h1.push { cls := .type "method", data := .fields #[.ref fB, .ref x] }).get? h1.objs.size = some (methodObj (.ref fB) (.ref x)) := Heap.get?_push_size _ rfl
  have ku' : ∀ b o, hh.get? b = some o → (h1.push { cls := .type "method", data := .fields #[.ref fB, .ref x] }).get? b = some o := fun b o e => ku b o (k01 b o e)
  refine callWith_of (P := MethP K h1.objs.size fB (.ref x)) (by rfl) (keeps_M T.fnB) (evalArgs_plain (arg1 (L := hh.objs.size) ((hn.keeps k1).keeps ku) hv2 (by rfl) (by rfl) ⟨⟨hm, X1.keeps ku⟩, ?_⟩))
  refine wpAny_call (method_call hm (base_init W' so' T.exc IB' (X1.keeps ku) (hlim.keeps ku') (a.keeps ku') (ku' _ _ hx) hnx hroom fun h2 tk2 dx t1 e2 => ?_))
  refine wpAt_of_wpAny ?_
  have hn2 : h2.Ns hh.objs.size (([("self", .ref x), ("place", v)] : List (Str × Value)).reverse.lookup ·) := by
    obtain ⟨oL, es, ep, hL, r⟩ := hn
    exact ⟨oL, es, ep, e2.keep _ _ hxL (ku _ _ (k1 _ _ hL)), r⟩
  obtain ⟨tk', hns⟩ := e2.ns
  refine wpAny_execs_cons (name_store (s := ⟨h2, g, d, tk2, os⟩) (L := hh.objs.size) (nl := ["name", "place"]) T.exc (kept_but (X1.keeps ku) hnx e2.keep) rfl hn2 hv1 (by rfl) (by rfl) e2.obj hns (two_names _ _) (by decide) (by rfl) fun h4 tk4 tv k4 hn4 => ?_)
  have bigx : hh.objs.size ≤ dx := by
    have q1 : hh.objs.size < (h1.push { cls := .type "method", data := .fields #[.ref fB, .ref x] }).objs.size := by
      obtain ⟨oL, es, ep, hL, r⟩ := hn
      exact Heap.lt_size (ku _ _ (k1 _ _ hL))
    exact Nat.le_trans (Nat.le_of_lt q1) e2.dbig
  refine wpAny_execs_nil (hq h4 tk4 dx t1 ⟨fun b o hb e => ?_, ?_, bigx, e2.dne, tv, ?_⟩)
  · have hbd : b ≠ dx := Nat.ne_of_lt (Nat.lt_of_lt_of_le (Heap.lt_size e) bigx)
    exact k4 b o hbd (e2.keep b o hb (ku' b o e))
  · exact k4 _ _ (Ne.symm e2.dne) e2.obj
  · have : (fun y : Str => if y = "name" then some (Value.str cn tv) else if y = "name" then some (.str cnB tk') else if y = "place" then some v else none) = (fun y : Str => if y = "name" then some (Value.str cn tv) else if y = "place" then some v else none) := by
      funext y
      by_cases h : y = "name"
      · simp only [h, if_true]
      · simp only [h, if_false]
    rw [← this]
    exact hn4
/-- C(v) -/
theorem made (W' : Wd prog K mg) (T : HeirF prog K C fI CB fB cn cnB) {v : Value} (X : K.In s.heap) (hlim : s.heap.NoLimit) (a : At mg s.heap) (hroom : A.depth + 2 < recursionLimit)
    (hq : ∀ h' tk e d, OwnMade s.heap h' e C d v cn → R (.ok (.ret (.ref e))) { s with heap := h', toks := tk }) :
    codeAny (model prog w) A (.call (.ref C) ⟨[v], []⟩) R s := by
  obtain ⟨nm, q, N, bs, bm, sn, sub, ab, col, dd, k0, k1, k2, k3, k5, hC, hbm⟩ := T.exc.cls
  obtain ⟨hp, g, dr, tk, os⟩ := s
  have k : ∀ b o, hp.get? b = some o → ((hp.push (kdv_tup [v])).push (excO C hp.objs.size)).get? b = some o := fun b o e => Heap.get?_push_of_some _ (Heap.get?_push_of_some _ e)
  have hget : ((hp.push (kdv_tup [v])).push (excO C hp.objs.size)).get? (hp.objs.size + 1) = some (excO C hp.objs.size) := by heap_get
  have hnx : K.lookup (hp.objs.size + 1) = none := by
    cases e : K.lookup (hp.objs.size + 1) with
    | none => rfl
    | some o =>
      have z : hp.get? (hp.objs.size + 1) = some o := X _ _ e
      exact absurd (Nat.lt_of_succ_lt (Heap.lt_size z)) (Nat.lt_irrefl _)
  refine call_own F.excBase_ValueError (fun X => refsVE_contains X bm hbm) (X _ _ hC) (looks_findIn X T.iC) (fun self => bind_fn X self T.tI) (one_size v) ?_
  refine sub_init (s := ⟨(hp.push (kdv_tup [v])).push (excO C hp.objs.size), g, dr, tk, os⟩) W' T (X.keeps k) (hlim.keeps k) (a.keeps k) hget hnx ?_ fun h' tk' dx t1 ⟨k', hx, dn, dne, hns⟩ => ?_
  · show A.depth + 1 + 1 < recursionLimit
    exact hroom
  · have old : ∀ b o, hp.get? b = some o → h'.get? b = some o := fun b o e => k' b o (Nat.ne_of_lt (Nat.lt_succ_of_lt (Heap.lt_size e))) (k b o e)
    have z : hp.objs.size + 1 + 1 ≤ dx := by
      first
        | (simpa only [Heap.size_push] using dn)
        | exact dn
        | (have q := dn; rw [Heap.size_push, Heap.size_push] at q; exact q)
    exact ⟨rfl, hq h' tk' (hp.objs.size + 1) dx ⟨old, Nat.le_succ _, ⟨_, _, hx, rfl, rfl, rfl, rfl⟩, Nat.le_trans (Nat.le_trans (Nat.le_succ _) (Nat.le_succ _)) z, dne, hns⟩⟩
/-- the root itself -/
structure RootF (prog : Program) (K : Frag) (CB fB : Addr) (cnB : Str) : Prop where
  exc : ExcF K CB CB fB
  iC : findIn K (.ref CB) "__init__" = some (some (.ref fB))
  tB : typeIn K (.ref fB) = some (.type "function")
  kC : keepIn K (.ref CB) = true
  exC : subIn K (.ref CB) (.type "BaseException") = some true
  tyC : typeIn K (.ref CB) = some (.type "type")
  base : ∃ (qual : Str) (p0 pp p3 p4 p5 p6 q1 q2 q3 q4 r1 r2 r3 r4 : Pos) (k : Nat), SupOk p0 pp p3 p4 p5 ∧ InitF prog K fB CB qual [supS p0 pp p3 p4 p5 p6, plS q1 q2 q3 q4, nmS cnB k r1 r2 r3 r4]
theorem made_root (W' : Wd prog K mg) (T : RootF prog K CB fB cnB) {v : Value} (X : K.In s.heap) (hlim : s.heap.NoLimit) (a : At mg s.heap) (hroom : A.depth + 2 < recursionLimit)
    (hq : ∀ h' tk e d, OwnMade s.heap h' e CB d v cnB → R (.ok (.ret (.ref e))) { s with heap := h', toks := tk }) :
    codeAny (model prog w) A (.call (.ref CB) ⟨[v], []⟩) R s := by
  obtain ⟨nm, q, N, bs, bm, sn, sub, ab, col, dd, k0, k1, k2, k3, k5, hC, hbm⟩ := T.exc.cls
  obtain ⟨qualB, p0', pp', p3', p4', p5', p6', q1', q2', q3', q4', r1', r2', r3', r4', k', so', IB'⟩ := T.base
  obtain ⟨hp, g, dr, tk, os⟩ := s
  have k : ∀ b o, hp.get? b = some o → ((hp.push (kdv_tup [v])).push (excO CB hp.objs.size)).get? b = some o := fun b o e => Heap.get?_push_of_some _ (Heap.get?_push_of_some _ e)
  have hget : ((hp.push (kdv_tup [v])).push (excO CB hp.objs.size)).get? (hp.objs.size + 1) = some (excO CB hp.objs.size) := by heap_get
  have hnx : K.lookup (hp.objs.size + 1) = none := by
    cases e : K.lookup (hp.objs.size + 1) with
    | none => rfl
    | some o =>
      have z : hp.get? (hp.objs.size + 1) = some o := X _ _ e
      exact absurd (Nat.lt_of_succ_lt (Heap.lt_size z)) (Nat.lt_irrefl _)
  refine call_own F.excBase_ValueError (fun X => refsVE_contains X bm hbm) (X _ _ hC) (looks_findIn X T.iC) (fun self => bind_fn X self T.tB) (one_size v) ?_
  refine base_init (s := ⟨(hp.push (kdv_tup [v])).push (excO CB hp.objs.size), g, dr, tk, os⟩) W' so' T.exc IB' (X.keeps k) (hlim.keeps k) (a.keeps k) hget hnx ?_ fun h' tk' dx t1 ⟨k', hx, dn, dne, hns⟩ => ?_
  · show A.depth + 1 < recursionLimit
    omega
  · have old : ∀ b o, hp.get? b = some o → h'.get? b = some o := fun b o e => k' b o (Nat.ne_of_lt (Nat.lt_succ_of_lt (Heap.lt_size e))) (k b o e)
    have z : hp.objs.size + 1 + 1 ≤ dx := by
      first
        | (simpa only [Heap.size_push] using dn)
        | exact dn
        | (have q := dn; rw [Heap.size_push, Heap.size_push] at q; exact q)
    exact ⟨rfl, hq h' tk' (hp.objs.size + 1) dx ⟨old, Nat.le_succ _, ⟨_, _, hx, rfl, rfl, rfl, rfl⟩, Nat.le_trans (Nat.le_trans (Nat.le_succ _) (Nat.le_succ _)) z, dne, hns⟩⟩
/-- what is asked of a class that is raised -/
structure MadeF (prog : Program) (K : Frag) (mg : Str → Option Value) (C : Addr) (cn : Str) : Prop where
  kC : keepIn K (.ref C) = true
  exC : subIn K (.ref C) (.type "BaseException") = some true
  tyC : typeIn K (.ref C) = some (.type "type")
  go : ∀ (w : World) (A : Around) (R : Result → Shared → Prop) (s : Shared) (v : Value), K.In s.heap → s.heap.NoLimit → At mg s.heap → A.depth + 2 < recursionLimit → (∀ h' tk e d, OwnMade s.heap h' e C d v cn → R (.ok (.ret (.ref e))) { s with heap := h', toks := tk }) → codeAny (model prog w) A (.call (.ref C) ⟨[v], []⟩) R s
theorem MadeF.heir (W' : Wd prog K mg) (T : HeirF prog K C fI CB fB cn cnB) : MadeF prog K mg C cn := ⟨T.kC, T.exC, T.tyC, fun w A R s v X hl a hr hq => made W' T X hl a hr hq⟩
theorem MadeF.root (W' : Wd prog K mg) (T : RootF prog K CB fB cnB) : MadeF prog K mg CB cnB := ⟨T.kC, T.exC, T.tyC, fun w A R s v X hl a hr hq => made_root W' T X hl a hr hq⟩
end
end FX
end PySem
namespace FW
open PySem PySem.Spec PyProof.Rows L2
theorem relO_xd {v : V} {v' : Value} {cn : Str} {tk : Tok} (r : RelV v v') (f : Str) : RelO (List.lookup f [(("place" : Str), v), ("name", .str cn)]) (if f = "name" then some (.str cn tk) else if f = "place" then some v' else none) := by
  by_cases hw : f = "place"
  · subst hw
    rw [if_neg (by decide), if_pos rfl]
    have q : List.lookup ("place" : Str) [(("place" : Str), v), ("name", .str cn)] = some v := by simp [List.lookup]
    rw [q]
    exact r
  · have qw : (f == ("place" : Str)) = false := by simpa using hw
    by_cases hn : f = "name"
    · subst hn
      rw [if_pos rfl]
      have q : List.lookup ("name" : Str) [(("place" : Str), v), ("name", .str cn)] = some (.str cn) := by simp [List.lookup, qw]
      rw [q]
      exact ⟨tk, rfl⟩
    · rw [if_neg hn, if_neg hw]
      have qn : (f == ("name" : Str)) = false := by simpa using hn
      have q2 : List.lookup f [(("place" : Str), v), ("name", .str cn)] = none := by simp [List.lookup, qw, qn]
      rw [q2]
      trivial
section
variable {X : Cx} {C : Addr} {cn x : Str}
theorem pmk_own {a : Expr} {ta : TA} {p pos : Pos} {k : Nat} (T : PySem.FX.MadeF X.prog X.K X.mg C cn) (gC : X.mg x = some (.ref C)) (hr : Room k X.A) (ha : PA X [a] ta) (hg : Gl X x := by rfl) (hnd : (x == ("__debug__" : Str)) = false := by decide)
    (he : starEach (a :: []) X.env = (false, eval a X.env) :: starEach [] X.env := by rfl) (hpl : (backTo pos (starEach [] X.env)).any (·.1) = false := by rfl) :
    PMk X (.Call (.Name x p) [a] [] pos) (tMkX cn C ta) := by
  intro pins s σ H Q I h
  refine wpAny_Call_Name_kw (ld_glob I hg gC ?_ hnd)
  refine PySem.W.callWith_K (h₀ := X.base) I.ok.mod.kin T.kC (thn (ha.run pos pins s σ H _ I h) fun us s1 hh => ?_) he hpl
  obtain ⟨vs, H1, I1, r1, v, ev, q1⟩ := hh
  subst ev
  refine ⟨I1.kIn, ?_⟩
  cases r1 with
  | cons rv rn =>
    rename_i v' us'
    cases rn
    show wpAny _ _ (call (.ref C) [v']) _ _ _
    have hlim := I1.nolimit
    have hk1 := I1.bk
    have hat : PySem.FX.At X.mg X.base := ⟨I1.mod.glob, let ⟨mb, h1, h2⟩ := I1.mod.blt; ⟨mb, h1, (h2 _ (by decide)).trans (by first | rfl | decide +kernel)⟩⟩
    obtain ⟨hp, g, dr, tk, os⟩ := s1
    refine wpAny_call (T.go _ _ _ _ _ I1.kIn hlim ((PySem.FX.At.keeps hat) hk1) (by have := hr.dp; omega) fun h' tk' e d M => ?_)
    show MkP X pins σ Q (.ref e) ⟨h', g, dr, tk', os⟩
    obtain ⟨oe, fv, hoe, hc, hd, hdat, h1⟩ := M.obj
    obtain ⟨tk0, hns⟩ := M.ns
    obtain ⟨G', g1, g2⟩ := restrict h' fun b => decide (b ≠ e)
    have gk : ∀ b, b ≠ e → G'.get? b = h'.get? b := fun b hb => g1 b (decide_eq_true hb)
    have ge : G'.get? e = none := g2 e (by simp)
    have old : ∀ b o, hp.get? b = some o → G'.get? b = some o := fun b o q => (gk b (Nat.ne_of_lt (Nat.lt_of_lt_of_le (Heap.lt_size q) M.new))).trans (M.keep b o q)
    have ob : ObjOk X.prog X.w (upd H1 d (.xd [(("place" : Str), v), ("name", .str cn)])) G' d (.xd [(("place" : Str), v), ("name", .str cn)]) :=
      ⟨_, hns.at (fun o q => (gk d M.dne).trans q), fun f => relO_xd rv f⟩
    have J : Inv X pins σ (upd H1 d (.xd [(("place" : Str), v), ("name", .str cn)])) ⟨G', g, dr, tk', os⟩ := I1.laid (t' := tk') old M.dbig ob
    refine ⟨e, oe, fv, ⟨G', g, dr, tk', os⟩, _, .ref C, some d, rfl, J, fun b o q => ?_, ge, hoe, ⟨hc, hd⟩, hdat, h1, ?_, rfl, I1.bare, raises_own T.exC T.tyC, q1 d (I1.hok.fresh M.dbig)⟩
    · by_cases hb : b = e
      · have q' : G'.get? b = some o := q
        rw [hb, ge] at q'; cases q'
      · exact (gk b hb).symm.trans q
    · rw [upd_ne (Ne.symm M.dne)]
      exact I1.hok.fresh M.new
end
end FW


set_option Elab.async false
set_option linter.all false
set_option maxRecDepth 100000
set_option maxHeartbeats 4000000
namespace FW
open PySem PySem.Spec PyProof.Rows L2
/-! ### list * int -/
theorem list_mulW (l : Addr) (items : Array Value) (n : Nat) (sl : Array (Option Value)) (x : Int) (u : Tok) (hc0 : ¬(!Builtin.List.listFitsIndex x) = true) (hc1 : ¬items.size * x.toNat > (2 ^ 63 - 1) / 8) (hc2 : ¬Builtin.List.listTooLong (items.size * x.toNat) = true) :
    Meets (Builtin.«list.__mul__» ⟨[.ref l, .int x u], []⟩) (fun _ R s => s.heap.get? l = some { cls := .type "list", dict := none, data := .seq items n, slots := sl } ∧ R (.ok (.ret (Value.ref s.heap.objs.size))) { s with heap := s.heap.push { cls := Value.type "list", data := Data.seq (List.foldl (fun x1 x2 => x1 ++ x2) #[] (List.replicate (if items.isEmpty = true then 0 else x.toNat) items)) }, toks := s.toks }) :=
  .of_wp fun prog w A R s h => by
    obtain ⟨hp, g, d, tk, os⟩ := s; obtain ⟨hl, h⟩ := h
    have hsz := PySem.AutoListH.joined_fits hc2
    wp_walk; refine wpAny_ite_false (decide_eq_false (Nat.not_lt.mpr hsz)) ?_; wp_walk; exact ⟨_, rfl, h⟩
theorem int_rmulW (a : Int) (t : Tok) (l : Addr) (items : Array Value) (n : Nat) (sl : Array (Option Value)) :
    Meets (Builtin.«int.__rmul__» ⟨[.int a t, .ref l], []⟩) (fun _ R s => s.heap.get? l = some { cls := .type "list", dict := none, data := .seq items n, slots := sl } ∧ R (.ok (.ret Value.notImplemented)) s) :=
  .of_wp fun prog w A R s h => by obtain ⟨hp, g, d, tk, os⟩ := s; obtain ⟨hl, h⟩ := h; wp_walk; exact ⟨_, rfl, h⟩
def rRepL (K : PySem.W.Frag) : R2 := fun x y H Q => ∃ l k xs, x = .ref l ∧ y = .int k ∧ SqL K H l xs ∧ -1000 ≤ k ∧ k ≤ 1000 ∧ xs.length ≤ 1000 ∧
  ∀ p, H p = none → Q (.ref p) (upd H p (.lst (List.replicate k.toNat xs).flatten))
section
variable {X : Cx}
theorem op_repL : OpR X (binaryOp .Mult) (rRepL X.K) := by
  intro pins s σ H x y v u Q I rx ry h
  obtain ⟨l, k, xs, rfl, rfl, hH, h1, h2, hz, q⟩ := h
  cases rx
  obtain ⟨t, rfl⟩ := ry
  obtain ⟨its, r, ⟨o, n, e, c1, c2, c3⟩, z⟩ := I.list hH
  have hl : xs.length = its.length := r.length
  obtain ⟨cls, dd, data, sl⟩ := o
  dsimp only at c1 c2 c3
  subst c1; subst c2; subst c3
  have hkn : k.toNat ≤ 1000 := by omega
  have hmul : xs.length * k.toNat ≤ 1000 * 1000 := Nat.mul_le_mul hz hkn
  have hlen : its.toArray.size * k.toNat ≤ sizeLine := by
    rw [List.size_toArray, ← hl, sizeLine_eq]
    exact Nat.le_trans hmul (by decide)
  have hcap : ¬ its.toArray.size * k.toNat > (2 ^ 63 - 1) / 8 := by
    have : (sizeLine : Nat) ≤ (2 ^ 63 - 1) / 8 := by decide
    omega
  have hfit : ¬ (!Builtin.List.listFitsIndex k) = true := by
    rw [fitsIndex_both (by omega) (by omega)]
    exact Bool.false_ne_true
  have hlong : ¬ Builtin.List.listTooLong (its.toArray.size * k.toNat) = true := by
    rw [notLongL hlen]
    exact Bool.false_ne_true
  have hnew : List.foldl (fun x1 x2 => x1 ++ x2) #[] (List.replicate (if its.toArray.isEmpty = true then 0 else k.toNat) its.toArray) = (List.replicate k.toNat its).flatten.toArray := by
    have f0 : ∀ m : Nat, List.foldl (fun x1 x2 => x1 ++ x2) #[] (List.replicate m its.toArray) = (List.replicate m its).flatten.toArray := fun m => by
      have := foldl_rep its m []
      rw [List.nil_append] at this
      exact this
    rw [f0]
    cases its with
    | nil => simp
    | cons a r' => rw [if_neg (by simp)]
  refine wpAny_binaryOp_repeat_ref (T := "list") (U := "int") (by decide) ⟨_, e, rfl⟩ (fun s' => typeIs_int s' k t) noFill_list_mul PySem.F.fills_int_mul PySem.F.slot_int_rmul repeat_list PySem.F.slot_int_index.lookup
    (call_meets PySem.F.slot_int_rmul (typeIs_int s k t) PySem.F.entry_int_rmul (PySem.F.args_int_rmul_2 _ _) (int_rmulW k t l its.toArray n sl)
      ⟨e, rfl, ⟨_, e, rfl⟩, call_meets PySem.F.slot_list_mul ⟨_, e, rfl⟩ PySem.F.entry_list_mul (PySem.F.args_list_mul_2 _ _) (list_mulW l its.toArray n sl k t hfit hcap hlong) ⟨e, ?_⟩⟩)
  rw [hnew]
  exact ⟨.ref _, _, I.lnew (t' := s.toks) (r.rep k.toNat) (by rw [PyProof.Rows.lm_len_rep_flat, Nat.mul_comm, sizeLine_eq]; exact Nat.le_trans hmul (by decide)), rfl, q _ I.fresh⟩
end
def dMulB (x y : D) : Option D := match x with
  | .list _ => dRepL x y
  | _ => dMulA x y
section
variable {K : PySem.W.Frag} {X : Cx}
theorem ser_repL : Ser K (rRepL K) dRepL := by
  intro I H v u x y z Q s hx hy hz d
  unfold dRepL at hz
  split at hz
  · rename_i xs k
    split at hz
    · rename_i hl
      cases hz
      have hl := of_decide_eq_true hl
      obtain ⟨a, vs, rfl, h1, t1⟩ := hx.of_list s
      exact ⟨a, k, vs, rfl, hy.of_int, h1, hl.1, hl.2.1, by rw [t1.length]; exact hl.2.2, d.lst s (t1.rep _)⟩
    · cases hz
  · cases hz
theorem ser_mulB : Ser K (fun x y H Q => rRepL K x y H Q ∨ (rI CMul (fun i j => .int (i * j)) x y H Q ∨ rRepA K x y H Q)) dMulB := by
  intro I H v u x y z Q s hx hy hz d
  unfold dMulB at hz
  split at hz
  · exact .inl (ser_repL I H v u _ y z Q s hx hy hz d)
  · exact .inr (ser_mulA I H v u x y z Q s hx hy hz d)
theorem op_mulB : OpR X (binaryOp .Mult) (fun x y H Q => rRepL X.K x y H Q ∨ (rI CMul (fun i j => .int (i * j)) x y H Q ∨ rRepA X.K x y H Q)) := OpR.or op_repL op_mulA
/-! floor division of any sign -/
def dDivN : D → D → Option D
  | .int i, .int j => if divOk j = true then some (.int (i / j)) else if decide (j < 0 ∧ -1073741824 < j) = true then some (.int (i.fdiv j)) else none
  | _, _ => none
theorem ser_divN : Ser K (fun x y H Q => rI CDivW (fun i j => .int (i / j)) x y H Q ∨ rI CDivN (fun i j => .int (i.fdiv j)) x y H Q) dDivN := by
  intro I H v u x y z Q s hx hy hz d
  unfold dDivN at hz
  split at hz
  · rename_i i j
    split at hz
    · rename_i hl
      exact .inl (ser_div I H v u (.int i) (.int j) z Q s hx hy (by show (if divOk j = true then _ else _) = _; rw [if_pos hl]; exact hz) d)
    · split at hz
      · rename_i hl
        cases hz
        have hl := of_decide_eq_true hl
        exact .inr ⟨_, _, hx.of_int, hy.of_int, ⟨by omega, by omega⟩, d.1 _ Rp.int⟩
      · cases hz
  · cases hz
theorem op_divN : OpR X (binaryOp .FloorDiv) (fun x y H Q => rI CDivW (fun i j => .int (i / j)) x y H Q ∨ rI CDivN (fun i j => .int (i.fdiv j)) x y H Q) := OpR.or op_fdivW op_fdivN
/-! >= of ints or of tuples of ints -/
end
section
variable {C : Ctx} {X : Cx} {W : WX} {pos : Pos} {K : PySem.W.Frag}
/-! ### a list display that is written on: a new cell -/
def cLstC (f : Cd (List Val)) : Cd Val := fun ρ μ => (f ρ μ).bind fun vs μ1 => match dats vs with
  | some xs => if lim xs.length = true then .ok (.loc μ1.length) (μ1 ++ [.lst xs]) else .stuck
  | none => .stuck
theorem Res.alloc {W : WX} {σ : L2.St} {I : Hp} {β : Nat → Addr} {μ : Sto} {H : Hp} {Q : VK} {p : Addr} {xs : List PyData} {ys : List V} (s : SR K I β μ H) (hp : H p = none) (t : RpAll K I ys xs) (h : Res C K W σ I β μ H (RV C K) Q (.ok (.loc μ.length) (μ ++ [.lst xs]))) : Q (.ref p) (upd H p (.lst ys)) := by
  obtain ⟨β', s2, x2, e2⟩ := s.alloc hp t
  exact h I β' (upd H p (.lst ys)) (.ref p) x2 s2 ⟨by rw [e2], by simp⟩
theorem se_lstC {es : List Expr} {f : Cd (List Val)} (h : SA C X W f es) : SE C X W (cLstC f) (.List es pos) := PE_imp (pe_lst h) fun σ H Q h => by
  obtain ⟨I, β, ρ, μ, s, e, h⟩ := h
  refine ⟨I, β, ρ, μ, s, e, Res.bind h fun vs μ1 I1 β1 H1 ws q x1 s1 r1 h1 => ?_⟩
  split at h1
  · rename_i xs hd
    split at h1
    · rename_i hl
      have t := dats_rp r1 hd
      exact ⟨by rw [t.length]; exact lim_size hl, fun p hp => Res.alloc s1 hp t h1⟩
    · exact h1.elim
  · exact h1.elim
end
end FW


set_option Elab.async false
set_option linter.all false
set_option maxRecDepth 100000
set_option maxHeartbeats 4000000
namespace FW
open PySem PySem.Spec PyProof.Rows L2
/-! ### comprehensions of two clauses -/
def lc2Run (w : Walked) (ρ0 : Env) (bd : D → Env → Option Env) (c : Cd Bool) (fw1 : Cd Walked) (bd1 : D → Env → Option Env) (vs1 : List Nat) (c1 : Cd Bool) (f : Cd Val) : List D → List D → Sto → R (List D)
  | [], acc, μ => .ok acc μ
  | x :: xs, acc, μ => match bd x ρ0 with
    | none => .stuck
    | some ρ1 => match c ρ1 μ with
      | .ok true μ1 => match fw1 ρ1 μ1 with
        | .ok w1 μ2 => if okB w1 μ2 = true then match lcRun w1 (wipeE ρ1 vs1) bd1 c1 f w1.1 acc μ2 with
            | .ok acc' μ3 => if okB w μ3 = true then lc2Run w ρ0 bd c fw1 bd1 vs1 c1 f xs acc' μ3 else .stuck
            | _ => .stuck
          else .stuck
        | _ => .stuck
      | .ok false μ1 => if okB w μ1 = true then lc2Run w ρ0 bd c fw1 bd1 vs1 c1 f xs acc μ1 else .stuck
      | _ => .stuck
def cLc2 (fw : Cd Walked) (bd : D → Env → Option Env) (vs : List Nat) (c : Cd Bool) (fw1 : Cd Walked) (bd1 : D → Env → Option Env) (vs1 : List Nat) (c1 : Cd Bool) (f : Cd Val) : Cd Val := fun ρ μ => (fw ρ μ).bind fun w μ1 =>
  if okB w μ1 = true then match lc2Run w (wipeE ρ vs) bd c fw1 bd1 vs1 c1 f w.1 [] μ1 with
    | .ok out μ2 => if lim out.length = true then .ok (.d (.list out)) μ2 else .stuck
    | _ => .stuck
  else .stuck
theorem lc2Run_len {w : Walked} {ρ0 : Env} {bd : D → Env → Option Env} {c : Cd Bool} {fw1 : Cd Walked} {bd1 : D → Env → Option Env} {vs1 : List Nat} {c1 : Cd Bool} {f : Cd Val} {out : List D} {μ2 : Sto} : ∀ {xs acc : List D} {μ : Sto}, lc2Run w ρ0 bd c fw1 bd1 vs1 c1 f xs acc μ = .ok out μ2 → acc.length ≤ out.length
  | [], acc, μ, h => by cases h; exact Nat.le_refl _
  | x :: xs, acc, μ, h => by
    unfold lc2Run at h
    split at h
    · cases h
    · split at h
      · split at h
        · split at h
          · split at h
            · rename_i hr
              split at h
              · exact Nat.le_trans (lcRun_len hr) (lc2Run_len h)
              · cases h
            · cases h
          · cases h
        · cases h
      · split at h
        · exact lc2Run_len h
        · cases h
      · cases h
section
variable {C : Ctx} {X : Cx} {W : WX} {pos : Pos} {K : PySem.W.Frag} {tg tg1 : Expr}
/-- a turn's step of the iterator -/
theorem LcS.yld {w : Walked} {ρ0 : Env} {σ0 : L2.St} {D : Addr} {acc : List PyData} {I1 I0 : Hp} {β1 β0 : Nat → Addr} {μ1 : Sto} {H1 : Hp} {I' : Hp} {β' : Nat → Addr} {μ' : Sto} {H' H2 : Hp} {n i : Nat} {J : It} {x : PyData} {v : V}
    (S : LcS C K w ρ0 σ0 D acc I1 β1 μ1 H1 I' β' μ' H') (r1 : WalkOk K I0 β0 n w J) (si : Sub I0 I') (bt : ∀ l, w.2 = some l → β' l = β0 l) (hx : w.1[i]? = some x) (hy : J.yld i H' v H2) :
    ∃ I2, Sub I' I2 ∧ SR K I2 β' μ' H2 ∧ ER C K I2 β' ρ0 μ' σ0 ∧ (∃ vs, H2 D = some (.lst vs) ∧ RpAll K I2 vs acc) ∧ Own I2 β' μ'.length D ∧ Ext μ1.length I1 β1 μ1 H1 I2 β' μ' H2 ∧ Rp K I2 v x := by
  obtain ⟨vs, hv, tv⟩ := S.ac
  rcases r1.yld I' β' H' i v H2 x si bt (okG_wh S.s S.ok) hx hy with ⟨rfl, rp⟩ | ⟨p, o, hp, rfl, rp⟩
  · exact ⟨I', Sub.refl _, S.s, S.e, ⟨vs, hv, tv⟩, S.own, S.x, rp⟩
  · obtain ⟨s', x'⟩ := S.s.lay (o := o) hp
    have hpD : D ≠ p := ne_of_none hv hp
    exact ⟨_, x'.imm, s', S.e.ext x', ⟨vs, by rw [upd_ne hpD]; exact hv, (Sub.new (S.s.imm.fresh hp)).rpAll tv⟩, ⟨by rw [upd_ne hpD]; exact S.own.i, S.own.b⟩, S.x.trans (Nat.le_refl _) (x'.lower S.x.len (Nat.le_refl _)), rp⟩
theorem drop_cons {α : Type} {l : List α} {i : Nat} {x : α} (hx : l[i]? = some x) : l.drop i = x :: l.drop (i + 1) := by
  have hlt : i < l.length := (List.getElem?_eq_some_iff.mp hx).1
  rw [List.drop_eq_getElem_cons hlt]
  congr 1
  rw [List.getElem?_eq_getElem hlt] at hx
  exact Option.some.inj hx
theorem lc2_imp {own : List (Str × Nat)} {vs1 : List Nat} {g g1 : TG} {fw fw1 : Cd Walked} {bd bd1 : D → Env → Option Env} {c c1 : Cd Bool} {f : Cd Val} (hb : Bd X.K (own.map (·.2)) g bd) (hb1 : Bd X.K vs1 g1 bd1) {σ : L2.St} {H : Hp} {Q : VK} (h : tE C X.K W (cLc2 fw bd (own.map (·.2)) c fw1 bd1 vs1 c1 f) σ H Q) :
    tLc2 (tI C X.K W fw) g (tT C X.K WF c) (tI C X.K WF fw1) g1 (tT C X.K WF c1) (tE C X.K WF f) (own.map (·.2)) vs1 σ H Q := by
  obtain ⟨I, β, ρ, μ, s, e, h⟩ := h
  refine ⟨I, β, ρ, μ, s, e, Res.bind h fun w μ1 I1 β1 H1 J q x1 s1 r1 h1 => ?_⟩
  intro D hD
  split at h1
  · rename_i hok
    split at h1
    · rename_i out μ2 hrun
      split at h1
      · rename_i hlim
        have hl0 : out.length < sizeLine := by
          have := of_decide_eq_true hlim
          have z : 100000 < sizeLine := by decide
          omega
        refine ⟨fun i m H' => m = w.1.length - i ∧ i ≤ w.1.length ∧ ∃ I' β' μ' acc, LcS C X.K w (wipeE ρ (own.map (·.2))) (L2.wipe σ (own.map (·.2))) D acc I1 β1 μ1 H1 I' β' μ' H' ∧ lc2Run w (wipeE ρ (own.map (·.2))) bd c fw1 bd1 vs1 c1 f (w.1.drop i) acc μ' = .ok out μ2, ⟨_, rfl, Nat.zero_le _, I1, β1, μ1, [], ?_, by simpa using hrun⟩, ?_⟩
        · have ow := s1.not_cell hD
          exact ⟨s1.other ow, (e.ext x1).wipe _, ⟨[], upd_same, .nil⟩, ow, okB_ok hok, Ext.put (Nat.le_refl _) hD⟩
        · rintro i m H' ⟨rfl, him, I', β', μ', acc, S, hr⟩
          have hwb : ∀ l, w.2 = some l → β' l = β1 l := fun l z => S.x.bet l (r1.lt l z)
          have hwh := okG_wh S.s S.ok
          by_cases hlt : i < w.1.length
          · refine .inr ⟨r1.go I' β' H' i S.x.imm hwb hwh hlt, fun H2 => ∃ m', m' < w.1.length - i ∧ (m' = w.1.length - (i + 1) ∧ i + 1 ≤ w.1.length ∧ ∃ I' β' μ' acc, LcS C X.K w (wipeE ρ (own.map (·.2))) (L2.wipe σ (own.map (·.2))) D acc I1 β1 μ1 H1 I' β' μ' H2 ∧ lc2Run w (wipeE ρ (own.map (·.2))) bd c fw1 bd1 vs1 c1 f (w.1.drop (i + 1)) acc μ' = .ok out μ2), fun _ z => z, ?_⟩
            intro v H2 hy
            obtain ⟨x, hx⟩ : ∃ x, w.1[i]? = some x := ⟨_, List.getElem?_eq_getElem hlt⟩
            rw [drop_cons hx] at hr
            unfold lc2Run at hr
            obtain ⟨I2, si2, s2, e2, ⟨vs, hv, tv⟩, ow2, xx, rp⟩ := S.yld r1 S.x.imm hwb hx hy
            cases hbd : bd x (wipeE ρ (own.map (·.2))) with
            | none => rw [hbd] at hr; cases hr
            | some ρ1 =>
              simp only [hbd] at hr
              refine hb C I2 β' _ ρ1 μ' _ v x H2 _ s2.imm e2 rp hbd fun σ2 e3 hw => ⟨hw.trans wipe_wipe, ?_⟩
              refine ⟨I2, β', ρ1, μ', s2, e3, ?_⟩
              cases hcc : c ρ1 μ' with
              | exc cn pl μ3 => rw [hcc] at hr; cases hr
              | stuck => rw [hcc] at hr; cases hr
              | ok b μ3 =>
                simp only [hcc] at hr
                intro I3 β3 H3 b' x3 s3 rb
                cases rb
                have hv3 : H3 D = some (.lst vs) := x3.fram D _ hv ow2.b
                have ow3 := ow2.ext hv x3
                have xx3 := xx.trans (Nat.le_refl _) (x3.lower xx.len (Nat.le_refl _))
                cases b with
                | false =>
                  refine iteF ?_
                  simp only at hr
                  split at hr
                  · rename_i hok3
                    exact ⟨_, by omega, rfl, by omega, I3, β3, μ3, acc, ⟨s3, e2.ext x3, ⟨vs, hv3, x3.imm.rpAll tv⟩, ow3, (okB_ok hok3), xx3⟩, hr⟩
                  · cases hr
                | true =>
                  refine iteT ?_
                  simp only at hr
                  refine ⟨I3, β3, ρ1, μ3, s3, e3.ext x3, ?_⟩
                  cases hff : fw1 ρ1 μ3 with
                  | exc cn pl μ4 => rw [hff] at hr; cases hr
                  | stuck => rw [hff] at hr; cases hr
                  | ok w1 μ4 =>
                    simp only [hff] at hr
                    split at hr
                    · rename_i hok4
                      split at hr
                      · rename_i acc' μ5 hrun1
                        split at hr
                        · rename_i hok5
                          intro I4 β4 H4 J1 x4 s4 rw1
                          have hv4 : H4 D = some (.lst vs) := x4.fram D _ hv3 ow3.b
                          have ow4 := ow3.ext hv3 x4
                          have xx4 := xx3.trans (Nat.le_refl _) (x4.lower xx3.len (Nat.le_refl _))
                          have hacc := lc2Run_len hr
                          refine ⟨fun j k H' => k = w1.1.length - j ∧ j ≤ w1.1.length ∧ ∃ I' β' μ' acc, LcS C X.K w1 (wipeE ρ1 vs1) (L2.wipe σ2 vs1) D acc I1 β1 μ1 H1 I' β' μ' H' ∧ Sub I4 I' ∧ (∀ l, l < μ4.length → β' l = β4 l) ∧ μ4.length ≤ μ'.length ∧ ER C X.K I' β' (wipeE ρ (own.map (·.2))) μ' (L2.wipe σ (own.map (·.2))) ∧ lcRun w1 (wipeE ρ1 vs1) bd1 c1 f (w1.1.drop j) acc μ' = .ok acc' μ5,
                            ⟨_, rfl, Nat.zero_le _, I4, β4, μ4, acc, ⟨s4, ((e3.ext x3).ext x4).wipe _, ⟨vs, hv4, x4.imm.rpAll (x3.imm.rpAll tv)⟩, ow4, okB_ok hok4, xx4⟩, Sub.refl _, fun _ _ => rfl, Nat.le_refl _, (e2.ext x3).ext x4, by simpa using hrun1⟩, ?_⟩
                          rintro j k H5 ⟨rfl, hjm, I5, β5, μ6, acc2, S5, si5, bt5, ln5, eo5, hr5⟩
                          have hwb1 : ∀ l, w1.2 = some l → β5 l = β4 l := fun l z => bt5 l (rw1.lt l z)
                          have hwh1 := okG_wh S5.s S5.ok
                          by_cases hlt1 : j < w1.1.length
                          · refine .inr ⟨rw1.go I5 β5 H5 j si5 hwb1 hwh1 hlt1, fun H2 => ∃ k', k' < w1.1.length - j ∧ (k' = w1.1.length - (j + 1) ∧ j + 1 ≤ w1.1.length ∧ ∃ I' β' μ' acc, LcS C X.K w1 (wipeE ρ1 vs1) (L2.wipe σ2 vs1) D acc I1 β1 μ1 H1 I' β' μ' H2 ∧ Sub I4 I' ∧ (∀ l, l < μ4.length → β' l = β4 l) ∧ μ4.length ≤ μ'.length ∧ ER C X.K I' β' (wipeE ρ (own.map (·.2))) μ' (L2.wipe σ (own.map (·.2))) ∧ lcRun w1 (wipeE ρ1 vs1) bd1 c1 f (w1.1.drop (j + 1)) acc μ' = .ok acc' μ5), fun _ z => z, ?_⟩
                            intro v1 H6 hy1
                            obtain ⟨y, hyy⟩ : ∃ y, w1.1[j]? = some y := ⟨_, List.getElem?_eq_getElem hlt1⟩
                            rw [drop_cons hyy] at hr5
                            unfold lcRun at hr5
                            obtain ⟨I6, si6, s6, e6, ⟨vs6, hv6, tv6⟩, ow6, xx6, rp6⟩ := S5.yld rw1 si5 hwb1 hyy hy1
                            have eo6 : ER C X.K I6 β5 (wipeE ρ (own.map (·.2))) μ6 (L2.wipe σ (own.map (·.2))) := eo5.mono si6 (fun _ _ => rfl) (Nat.le_refl _)
                            cases hbd1 : bd1 y (wipeE ρ1 vs1) with
                            | none => rw [hbd1] at hr5; cases hr5
                            | some ρ7 =>
                              simp only [hbd1] at hr5
                              refine hb1 C I6 β5 _ ρ7 μ6 _ v1 y H6 _ s6.imm e6 rp6 hbd1 fun σ7 e7 hw7 => ⟨hw7.trans wipe_wipe, ?_⟩
                              refine ⟨I6, β5, ρ7, μ6, s6, e7, ?_⟩
                              cases hc1 : c1 ρ7 μ6 with
                              | exc cn pl μ8 => rw [hc1] at hr5; cases hr5
                              | stuck => rw [hc1] at hr5; cases hr5
                              | ok b8 μ8 =>
                                simp only [hc1] at hr5
                                intro I8 β8 H8 b8' x8 s8 rb8
                                cases rb8
                                have hv8 : H8 D = some (.lst vs6) := x8.fram D _ hv6 ow6.b
                                have ow8 := ow6.ext hv6 x8
                                have xx8 := xx6.trans (Nat.le_refl _) (x8.lower xx6.len (Nat.le_refl _))
                                have si8 : Sub I4 I8 := (si5.trans si6).trans x8.imm
                                have bt8 : ∀ l, l < μ4.length → β8 l = β4 l := fun l z => (x8.bet l (Nat.lt_of_lt_of_le z ln5)).trans (bt5 l z)
                                have ln8 : μ4.length ≤ μ8.length := Nat.le_trans ln5 x8.len
                                cases b8 with
                                | false =>
                                  refine iteF ?_
                                  simp only at hr5
                                  split at hr5
                                  · rename_i hok8
                                    exact ⟨_, by omega, rfl, by omega, I8, β8, μ8, acc2, ⟨s8, e6.ext x8, ⟨vs6, hv8, x8.imm.rpAll tv6⟩, ow8, (okB_ok hok8), xx8⟩, si8, bt8, ln8, eo6.ext x8, hr5⟩
                                  · cases hr5
                                | true =>
                                  refine iteT ?_
                                  simp only at hr5
                                  refine ⟨I8, β8, ρ7, μ8, s8, e7.ext x8, ?_⟩
                                  cases hf9 : f ρ7 μ8 with
                                  | exc cn pl μ9 => rw [hf9] at hr5; cases hr5
                                  | stuck => rw [hf9] at hr5; cases hr5
                                  | ok a μ9 =>
                                    rw [hf9] at hr5
                                    cases a with
                                    | loc l => cases hr5
                                    | exn => cases hr5
                                    | d z =>
                                      simp only at hr5
                                      split at hr5
                                      · rename_i hok9
                                        intro I9 β9 H9 u x9 s9 ru
                                        have hv9 : H9 D = some (.lst vs6) := x9.fram D _ hv8 ow8.b
                                        have ow9 := ow8.ext hv8 x9
                                        have hl := lcRun_len hr5
                                        rw [List.length_append] at hl
                                        have hvl := tv6.length
                                        refine ⟨vs6, hv9, ?_, ?_⟩
                                        · simp at hl
                                          omega
                                        · exact ⟨_, by omega, rfl, by omega, I9, β9, μ9, acc2 ++ [z], ⟨s9.other ow9, (e6.ext x8).ext x9, ⟨vs6 ++ [u], upd_same, ((x9.imm.rpAll (x8.imm.rpAll tv6)).app (.cons ru .nil))⟩, ow9, okB_ok hok9, Ext.own (xx8.trans (Nat.le_refl _) (x9.lower xx8.len (Nat.le_refl _))) hD⟩, si8.trans x9.imm, fun l z => (x9.bet l (Nat.lt_of_lt_of_le z ln8)).trans (bt8 l z), Nat.le_trans ln8 x9.len, (eo6.ext x8).ext x9, hr5⟩
                                      · cases hr5
                          · have hje : j = w1.1.length := Nat.le_antisymm hjm (Nat.le_of_not_lt hlt1)
                            subst hje
                            refine .inl ⟨rw1.stop I5 β5 H5 si5 hwb1 hwh1, ?_⟩
                            rw [List.drop_length] at hr5
                            unfold lcRun at hr5
                            injection hr5 with hr1 hr2
                            subst hr1; subst hr2
                            exact ⟨_, by omega, rfl, by omega, I5, β5, μ6, acc2, ⟨S5.s, eo5, S5.ac, S5.own, okB_ok hok5, S5.x⟩, hr⟩
                        · cases hr
                      · cases hr
                    · cases hr
          · have hie : i = w.1.length := Nat.le_antisymm him (Nat.le_of_not_lt hlt)
            subst hie
            refine .inl ⟨r1.stop I' β' H' S.x.imm hwb hwh, ?_⟩
            rw [List.drop_length] at hr
            unfold lc2Run at hr
            injection hr with hr1 hr2
            subst hr1; subst hr2
            obtain ⟨vs, hv, tv⟩ := S.ac
            exact h1 _ _ H' (.ref D) (S.x.frz hD S.own.i) (S.s.freeze S.own hv) (Rp.list (SqL.of upd_same) ((Sub.new S.own.i).rpAll tv))
      · exact h1.elim
    · exact h1.elim
  · exact h1.elim
theorem se_lc2 {elt iter iter1 : Expr} {ifs ifs1 : List Expr} {scope : Scope} {own : List (Str × Nat)} {vs1 : List Nat} {g g1 : TG} {fw fw1 : Cd Walked} {bd bd1 : D → Env → Option Env} {c c1 : Cd Bool} {f : Cd Val} (hc : X.calm = true) (hN : X.N.Nodup) (hi : SI C X W tg fw iter) (ok : BlkOk X.N X.env.scope scope own) (hv : ∀ i ∈ vs1, i ∈ own.map (·.2))
    (hg : ∀ (s : Shared) (H : Hp) (B : Addr) (cl : List (Str × Addr)) (fp : List Addr), PG (X.blk s H scope (compEnvC scope cl B X.env) fp) tg g) (hb : Bd X.K (own.map (·.2)) g bd)
    (ht : ∀ (s : Shared) (H : Hp) (B : Addr) (cl : List (Str × Addr)) (fp : List Addr), STs C (X.blk s H scope (compEnvC scope cl B X.env) fp) WF c ifs)
    (hi1 : ∀ (s : Shared) (H : Hp) (B : Addr) (cl : List (Str × Addr)) (fp : List Addr), SI C (X.blk s H scope (compEnvC scope cl B X.env) fp) WF tg1 fw1 iter1)
    (hg1 : ∀ (s : Shared) (H : Hp) (B : Addr) (cl : List (Str × Addr)) (fp : List Addr), PG (X.blk s H scope (compEnvC scope cl B X.env) fp) tg1 g1) (hb1 : Bd X.K vs1 g1 bd1)
    (ht1 : ∀ (s : Shared) (H : Hp) (B : Addr) (cl : List (Str × Addr)) (fp : List Addr), STs C (X.blk s H scope (compEnvC scope cl B X.env) fp) WF c1 ifs1)
    (he : ∀ (s : Shared) (H : Hp) (B : Addr) (cl : List (Str × Addr)) (fp : List Addr), SE C (X.blk s H scope (compEnvC scope cl B X.env) fp) WF f elt) (hs : ∀ x, foldedSetIterable iter X.env x = pure x := by intro _; rfl) (hs1 : ∀ env x, foldedSetIterable iter1 env x = pure x := by intro _ _; rfl) :
    SE C X W (cLc2 fw bd (own.map (·.2)) c fw1 bd1 vs1 c1 f) (.ListComp elt [⟨tg, iter, ifs, 0⟩, ⟨tg1, iter1, ifs1, 0⟩] scope pos) :=
  PE_imp (pe_lc2 (tt := tT C X.K WF c) (wi1 := tI C X.K WF fw1) (tt1 := tT C X.K WF c1) (te := tE C X.K WF f) hc hN hi ok hv hg ht hi1 hg1 ht1 he hs hs1) fun _ _ _ h => lc2_imp hb hb1 h
theorem ss_setLc2 {i : Nat} {y : Str} {py spos : Pos} {elt iter iter1 : Expr} {ifs ifs1 : List Expr} {scope : Scope} {own : List (Str × Nat)} {vs1 : List Nat} {g g1 : TG} {fw fw1 : Cd Walked} {bd bd1 : D → Env → Option Env} {c c1 : Cd Bool} {f : Cd Val} (hc : X.calm = true) (hN : X.N.Nodup) (hy : X.N[i]? = some y) (hyl : X.env.scope.names.lookup y = some .local)
    (hsw : swapsWith (.ListComp elt [⟨tg, iter, ifs, 0⟩, ⟨tg1, iter1, ifs1, 0⟩] scope pos) (some (.Name y py)) spos.line X.env = pure true) (hi : SI C X W tg fw iter) (ok : BlkOk X.N X.env.scope scope own) (hv : ∀ i ∈ vs1, i ∈ own.map (·.2))
    (hg : ∀ (s : Shared) (H : Hp) (B : Addr) (cl : List (Str × Addr)) (fp : List Addr), PG (X.blk s H scope (compEnvC scope cl B X.env) fp) tg g) (hb : Bd X.K (own.map (·.2)) g bd)
    (ht : ∀ (s : Shared) (H : Hp) (B : Addr) (cl : List (Str × Addr)) (fp : List Addr), STs C (X.blk s H scope (compEnvC scope cl B X.env) fp) WF c ifs)
    (hi1 : ∀ (s : Shared) (H : Hp) (B : Addr) (cl : List (Str × Addr)) (fp : List Addr), SI C (X.blk s H scope (compEnvC scope cl B X.env) fp) WF tg1 fw1 iter1)
    (hg1 : ∀ (s : Shared) (H : Hp) (B : Addr) (cl : List (Str × Addr)) (fp : List Addr), PG (X.blk s H scope (compEnvC scope cl B X.env) fp) tg1 g1) (hb1 : Bd X.K vs1 g1 bd1)
    (ht1 : ∀ (s : Shared) (H : Hp) (B : Addr) (cl : List (Str × Addr)) (fp : List Addr), STs C (X.blk s H scope (compEnvC scope cl B X.env) fp) WF c1 ifs1)
    (he : ∀ (s : Shared) (H : Hp) (B : Addr) (cl : List (Str × Addr)) (fp : List Addr), SE C (X.blk s H scope (compEnvC scope cl B X.env) fp) WF f elt) (hs : ∀ x, foldedSetIterable iter X.env x = pure x := by intro _; rfl) (hs1 : ∀ env x, foldedSetIterable iter1 env x = pure x := by intro _ _; rfl) :
    SS C X W (sSet i (cLc2 fw bd (own.map (·.2)) c fw1 bd1 vs1 c1 f)) (.Assign [.Name y py] (.ListComp elt [⟨tg, iter, ifs, 0⟩, ⟨tg1, iter1, ifs1, 0⟩] scope pos) spos) :=
  PS_imp (ps_setLc2 (tt := tT C X.K WF c) (wi1 := tI C X.K WF fw1) (tt1 := tT C X.K WF c1) (te := tE C X.K WF f) hc hN hy hyl hsw hi ok hv hg ht hi1 hg1 ht1 he hs hs1) fun D σ H h => by
  obtain ⟨n0, I, β, ρ, μ, hn, s, e, h⟩ := h
  refine lc2_imp hb hb1 ⟨I, β, ρ, μ, s, e, OutOk.bind hn e h fun v μ1 I1 β1 H1 w q x1 s1 n1 r1 h1 => OutOk.here n1 s1 ((e.ext x1).set r1) h1⟩
end
end FW


set_option Elab.async false
set_option linter.all false
set_option maxRecDepth 100000
set_option maxHeartbeats 4000000
namespace FW
open PySem PySem.Spec PyProof.Rows L2
/-! ### >= of tuples of ints -/
def geT (ns ms : List Int) : Bool := Ob.lexAt (fun j => decide (ns.getD j 0 = ms.getD j 0)) (fun j => decide (ms.getD j 0 ≤ ns.getD j 0)) (decide (ns.length ≥ ms.length)) 0 (min ns.length ms.length)
def rGeT (K : PySem.W.Frag) : R2 := fun x y H Q => ∃ (a b : Addr) (ns ms : List Int), x = .ref a ∧ y = .ref b ∧ SqT K H a (ns.map V.int) ∧ SqT K H b (ms.map V.int) ∧ Q (.bl (geT ns ms)) H
theorem op_geT {X : Cx} (hu : X.A.units < cLine) : OpR X (compareOp .GtE) (rGeT X.K) := by
  intro pins s σ H x y v u Q I rx ry h
  obtain ⟨a, b, ns, ms, rfl, rfl, ha, hb, q⟩ := h
  cases rx
  cases ry
  obtain ⟨its, r1, p1, _⟩ := I.tuple ha
  obtain ⟨its2, r2, p2, _⟩ := I.tuple hb
  have i1 : IntsAre its ns := Vals.ints r1
  have i2 : IntsAre its2 ms := Vals.ints r2
  have e1 : its.toArray.size = ns.length := by rw [List.size_toArray]; exact i1.length
  have e2 : its2.toArray.size = ms.length := by rw [List.size_toArray]; exact i2.length
  have at1 : ∀ j (h1 : j < its.toArray.size), ∃ t, its.toArray[j] = .int (ns.getD j 0) t := fun j h1 => PyProof.Rows.IntsAre.int_at i1 _ _ (by simp at h1; simp [h1])
  have at2 : ∀ j (h1 : j < its2.toArray.size), ∃ t, its2.toArray[j] = .int (ms.getD j 0) t := fun j h1 => PyProof.Rows.IntsAre.int_at i2 _ _ (by simp at h1; simp [h1])
  have R := Ob.RcOp.tuples_ge (A := X.A) (s := s) (e := fun j => decide (ns.getD j 0 = ms.getD j 0)) (r := fun j => decide (ms.getD j 0 ≤ ns.getD j 0)) p1 p2 hu (fun j h1 h2 => by
    obtain ⟨t, et⟩ := at1 j h1
    obtain ⟨t', et'⟩ := at2 j h2
    rw [et, et']
    have z : (ns.getD j 0 == ms.getD j 0) = decide (ns.getD j 0 = ms.getD j 0) := by
      by_cases q : ns.getD j 0 = ms.getD j 0
      · rw [decide_eq_true q]; exact beq_iff_eq.mpr q
      · rw [decide_eq_false q]; exact beq_eq_false_iff_ne.mpr q
    rw [← z]
    exact SeqAt.EqAt.int_int _ _ _ _) (fun j h1 h2 _ => by
    obtain ⟨t, et⟩ := at1 j h1
    obtain ⟨t', et'⟩ := at2 j h2
    rw [et, et']
    exact Ob.RcOp.ge_int _ _ _ _)
  rw [e1, e2] at R
  have z : wpAny (model X.prog X.w) X.A (compareOp .GtE (.ref a) (.ref b)) (EP X pins σ Q) X.xe s := R X.prog X.w X.xe (EP X pins σ Q) ⟨.bl _, H, I, rfl, q⟩
  exact z
def dGeA : D → D → Option D
  | .int i, .int j => some (.bool (decide (j ≤ i)))
  | .tuple xs, .tuple ys => match ints? xs, ints? ys with
    | some a, some b => some (.bool (geT a b))
    | _, _ => none
  | _, _ => none
section
variable {X : Cx} {K : PySem.W.Frag}
theorem ser_geA : Ser K (fun x y H Q => rI0 (fun i j => .bl (decide (j ≤ i))) x y H Q ∨ rGeT K x y H Q) dGeA := by
  intro I H v u x y z Q s hx hy hz d
  unfold dGeA at hz
  split at hz
  · cases hz
    exact .inl ⟨_, _, hx.of_int, hy.of_int, d.1 _ Rp.bool⟩
  · split at hz
    · rename_i a b h1 h2
      cases hz
      obtain ⟨p, vs, rfl, t1, r1⟩ := hx.of_tup
      obtain ⟨q, us, rfl, t2, r2⟩ := hy.of_tup
      rw [ints_rp r1 h1] at t1
      rw [ints_rp r2 h2] at t2
      exact .inr ⟨_, _, a, b, rfl, rfl, s.seqT t1, s.seqT t2, d.1 _ Rp.bool⟩
    · cases hz
  · cases hz
theorem op_geA (hu : X.A.units < cLine) : OpR X (compareOp .GtE) (fun x y H Q => rI0 (fun i j => .bl (decide (j ≤ i))) x y H Q ∨ rGeT X.K x y H Q) := OpR.or op_ge (op_geT hu)
/-! shifts, bits -/
def dShl : D → D → Option D
  | .int i, .int j => if decide (0 ≤ j ∧ j ≤ 1000 ∧ -1000 ≤ i ∧ i ≤ 1000) = true then some (.int (i * 2 ^ j.toNat)) else none
  | _, _ => none
theorem ser_shl : Ser K (rI CPow fun i j => .int (i * 2 ^ j.toNat)) dShl := by
  intro I H v u x y z Q s hx hy hz d
  unfold dShl at hz
  split at hz
  · split at hz
    · rename_i hl
      cases hz
      have hl := of_decide_eq_true hl
      exact ⟨_, _, hx.of_int, hy.of_int, by unfold CPow; omega, d.1 _ Rp.int⟩
    · cases hz
  · cases hz
def dShr : D → D → Option D
  | .int i, .int j => if decide (0 ≤ j) = true then some (.int (i / 2 ^ j.toNat)) else none
  | _, _ => none
theorem ser_shr : Ser K (rI (fun _ j => 0 ≤ j) fun i j => .int (i / 2 ^ j.toNat)) dShr := by
  intro I H v u x y z Q s hx hy hz d
  unfold dShr at hz
  split at hz
  · split at hz
    · rename_i hl
      cases hz
      exact ⟨_, _, hx.of_int, hy.of_int, of_decide_eq_true hl, d.1 _ Rp.int⟩
    · cases hz
  · cases hz
end
end FW


set_option Elab.async false
set_option linter.all false
set_option maxRecDepth 100000
set_option maxHeartbeats 4000000
namespace PySem.FX
open PySem PySem.Spec PySem.W PySem.Calls PyProof.Rows PySem.HandSPX
section
variable {prog : Program} {w : World} {A : Around} {E : Value → Shared → Prop} {s : Shared} {K : Frag} {x D : Addr} {ox : Obj} {od : Option Obj}
theorem findObj_data2 {C : Addr} {name : Str} {a g : Value} (hc : (clsIn K C).isSome = true) (ha : findIn K (.ref C) name = some (some a)) (hg : specialIn K a "__get__" = some (some g)) (ht : takesIn K a = some true) : findObj K C od name = some (.bind g a) := by
  obtain ⟨cd, hc⟩ := Option.isSome_iff_exists.mp hc
  unfold findObj
  rw [hc, Option.bind_some, ha, Option.bind_some]
  simp [hg, ht]
/-- e.__class__ where e has fields -/
theorem class_of {Q : Option Value → Shared → Prop} (T : L2.ExcC K D)
    (X : K.In s.heap) (I : InstAt s.heap x ox D od) (h : Q (some (.ref D)) { s with toks := s.toks + 1 }) : wpAny (model prog w) A (getAttr? (.ref x) "__class__") Q E s := by
  obtain ⟨hga, hgt, hsub, hdct, ha, hn, htk, hm⟩ := T
  have hf : findObj K D od "__class__" = some (.bind (.builtin "getset_descriptor.__get__") (.builtin "object.__class__")) := findObj_data2 (by obtain ⟨cd, hc, _⟩ := any_some hdct; rw [hc]; rfl) ha hn htk
  obtain ⟨hp, g, d, t, os⟩ := s
  have L0 := I.type (M := model prog w)
  have L1 := looks_findIn (M := model prog w) X hga
  have L2 := looks_findIn (M := model prog w) X hgt
  have L3 := looks_find (M := model prog w) X I hf
  have sub : Looks (model prog w) hp (isInstance (.ref x) (.type "BaseException")) true := L0.andThen (looks_subIn X hsub)
  have hx0 : (false && onTheHeap (Value.builtin "BaseException.__getattribute__")) = false := rfl
  have hx2 : (Value.builtin "BaseException.__getattribute__" == Value.builtin "object.__getattribute__") = false := by decide +kernel
  have hx1 : (onTheHeap (Value.ref D) && Value.builtin "BaseException.__getattribute__" == Value.builtin "object.__getattribute__") = false := by rw [hx2]; rfl
  unfold getAttr? getAttrBy? getAttrBy
  refine wpAny_bind (wpAny_mkText (wpAny_bind (wpAny_attempt (wpAny_holding (wpAny_bind (L0.at (wpAny_bind (L1.at ?_))))))))
  show wpAny _ _ (if (onTheHeap (Value.ref D) && Value.builtin "BaseException.__getattribute__" == Value.builtin "object.__getattribute__") = true then _ else _) _ _ _
  rw [hx1, if_neg Bool.false_ne_true]
  unfold getAttrByItsOwn hookBefore
  refine wpAny_bind ?_
  rw [if_pos (show onTheHeap (Value.ref D) = true from rfl)]
  refine L2.at ?_
  refine wpAny_bind (wpAny_attempt (wpAny_holding ?_))
  unfold callGetattribute
  rw [hx0, if_neg Bool.false_ne_true]
  unfold boundAndCalled
  rw [PySem.F.excAttr_ValueError.ga.bind (.ref x)]
  refine wpAny_bind (wpAny_pure ?_)
  show wpAny _ _ (call (.builtin "BaseException.__getattribute__") [.ref x, .str "__class__" t]) _ _ _
  refine wpAny_call (codeAny_call_builtin PySem.F.excAttr_ValueError.ga.plain PySem.F.entry_bexc_ga ?_)
  refine @check_slot (model prog w) _ _ ⟨hp, g, d, t + 1, os⟩ "BaseException.__getattribute__" "BaseException" "__getattribute__" (.ref x) [.str "__class__" t] [] _ (by decide +kernel) (by decide +kernel) sub (PySem.F.args_bexc_ga (.ref x) (.str "__class__" t)) ?_
  unfold Builtin.«object.__getattribute__»
  refine wpAny_bind (wpAny_of_eq (a := ((Value.ref x : Value), [Value.str "__class__" t])) (by first | rfl | (simp only [slotArgs]; rfl)) ?_)
  refine wpAny_bind (wpAny_pure (wpAny_bind (L0.at (wpAny_bind (L3.at ?_)))))
  show wpAny _ _ (holding [Value.builtin "object.__class__"] (call (.builtin "getset_descriptor.__get__") [.builtin "object.__class__", .ref x, .ref D]) >>= ret) _ _ _
  refine wpAny_bind (wpAny_holding (wpAny_call (class_get (s := ⟨hp, g, d, t + 1, os⟩) (ox := ox) (od := od) X I hm ?_)))
  refine wpAny_pure ?_
  show wpAny _ _ (handedOut (.ref D)) _ _ _
  rw [handedOut_of (v := .ref D) rfl]
  first
    | exact wpAny_pure (wpAny_pure h)
    | exact wpAny_pure h
    | exact wpAny_pure (wpAny_bind (wpAny_pure (wpAny_pure h)))
theorem kitx2 (T : L2.ExcC K D) : KitX K (.ref x) (.ref D) (fun h => ∃ od, InstAt h x ox D od) where
  ty := fun _ _ _ ⟨_, I⟩ => I.type
  it := fun _ _ X _ => by
    obtain ⟨cdD, hcD, _⟩ := any_some T.hd
    unfold clsIn at hcD
    split at hcD
    · rename_i c' d' cd' sl' ho
      intro A' Q' E' s' k q
      unfold isType loadHead
      exact wpAny_bind (wpAny_loadPart (k _ _ (X _ _ ho)) (wpAny_pure q))
    · cases hcD
  ne := fun h tp dd its n sl X htp => by
    obtain ⟨cdD, hcD, _⟩ := any_some T.hd
    refine Bool.eq_false_iff.mpr fun q => ?_
    have e : D = tp := Value.ref.inj (beq_iff_eq.mp q)
    subst e
    unfold clsIn at hcD
    split at hcD
    · rename_i c' d' cd' sl' ho
      have z := (X _ _ ho).symm.trans htp
      cases z
    · cases hcD
  ca := fun X ⟨_, I⟩ k => class_of T X I k
end
end PySem.FX
namespace FW
open PySem PySem.Spec PyProof.Rows L2
theorem call_isE2 {X : Cx} {a D dd : Addr} {oe : Obj} {pn : List (Addr × Obj)} (T : L2.ExcC X.K D) (hz : Zc (.ref D) (some dd) oe) (hf : ∃ vs, oe.data = .fields vs) :
    CallR (X.suite a ((a, oe) :: pn)) (.builtin "isinstance") (fun xs H Q => (∃ fs, H dd = some (.xd fs)) ∧ rIsE X.K D a xs H Q) := by
  intro pins s σ H xs us Q I r h
  obtain ⟨⟨fs, hdd⟩, c, cv, b, rfl, hcv, e, q⟩ := h
  cases r with
  | cons rx rr =>
    cases rr with
    | cons rt rr =>
      cases rr
      cases rx
      have ec := hcv _ rt
      subst ec
      obtain ⟨hget, _⟩ := I.pin (a, oe) (List.mem_append.mpr (.inl List.mem_cons_self))
      obtain ⟨vs, hv⟩ := hf
      obtain ⟨m, hn1, _⟩ := I.hok dd _ hdd
      obtain ⟨od, es, ep, hod, hdat⟩ := hn1
      have J : PySem.W.InstAt s.heap a oe D (some od) := by
        obtain ⟨oc, odd, oda, osl⟩ := oe
        obtain ⟨h1, h2⟩ := hz
        dsimp only at h1 h2 hv
        subst h1 h2 hv
        exact ⟨hget, rfl, rfl, hod⟩
      exact PySem.W.kia_one (PySem.FX.kitx2 T) I.kIn ⟨_, J⟩ e (fun z => nomatch z) fun tk => ⟨.bl b, H, I.kept (t' := tk) fun _ _ z => z, rfl, q⟩
/-- isinstance(e, T) of the caught one -/
def cIsE (i : Nat) (b : Bool) : Cd Val := fun ρ μ => match ρ[i]? with
  | some (some .exn) => .ok (.d (.bool b)) μ
  | _ => .stuck
section
variable {C : Ctx} {X : Cx} {W : WX}
theorem se_isE {i : Nat} {n x y : Str} {b : Bool} {T : String} {a A dd : Addr} {oe : Obj} {cn : Str} {pl : PyData} {pn : List (Addr × Obj)} {np p p' pos : Pos} (hN : X.N[i]? = some n) (hv : Vis X.env.scope n) (hT : L2.ExcC X.K A) (z : Zc (.ref A) (some dd) oe) (hf : ∃ vs, oe.data = .fields vs)
    (hg : Gl X x) (hm : X.mg x = none) (hx : x = "isinstance") (hg' : Gl X y) (hm' : X.mg y = none) (hv' : bootBuiltins y = some (.type T)) (hk : PySem.W.kitOne X.K (.ref A) (.type T) = some b) (hn' : y ≠ "__name__" := by decide) (hd' : (y == ("__debug__" : Str)) = false := by decide)
    (hd : (n == ("__debug__" : Str)) = false := by decide) (hcd : (n == ("__classdict__" : Str)) = false := by decide)
    (hst : starEach [.Name n np, .Name y p'] (X.suite a ((a, oe) :: pn)).env = (false, eval (.Name n np) (X.suite a ((a, oe) :: pn)).env) :: starEach [.Name y p'] (X.suite a ((a, oe) :: pn)).env := by rfl) (hst2 : starEach [.Name y p'] (X.suite a ((a, oe) :: pn)).env = (false, eval (.Name y p') (X.suite a ((a, oe) :: pn)).env) :: starEach [] (X.suite a ((a, oe) :: pn)).env := by rfl) (hpl : (backTo pos (starEach [.Name y p'] (X.suite a ((a, oe) :: pn)).env)).any (·.1) = false := by rfl) :
    SE (C.of a dd cn pl) (X.suite a ((a, oe) :: pn)) WF (cIsE i b) (.Call (.Name x p) [.Name n np, .Name y p'] [] pos) := by
  subst hx
  refine PE_imp (pe_callB (call_isE2 hT z hf) hg hm (by decide +kernel) (pa_cons (pe_var (X := X.suite a ((a, oe) :: pn)) hN hv hd hcd) (pa_cons (pe_bltn (v := .ty T) hg' hm' hv' rfl hn' hd') pa_nil hst2) hst) (by decide) (by decide) hst hpl) fun σ H Q h => ?_
  obtain ⟨I, β, ρ, μ, s, e, h⟩ := h
  unfold cIsE at h
  split at h
  · rename_i hi
    obtain ⟨w, h1, rfl⟩ := e.get i .exn hi
    obtain ⟨v, h3, h4⟩ := e.ex dd cn pl rfl
    exact ⟨_, h1, ⟨_, s.imm _ _ h3⟩, .ty T, .type T, b, rfl, fun u hu => hu, hk, Res.here s h Rp.bool⟩
  · exact h.elim
end
end FW


set_option Elab.async false
set_option linter.all false
set_option maxRecDepth 100000
set_option maxHeartbeats 4000000
/-! # What a generated text leans on -/
namespace FW
open PySem PySem.Spec PyProof.Rows L2
section
variable {P : Program} {w : World} {K : PySem.W.Frag} {mg : Str → Option Value} {base : Heap} {N : List Str} {qual : Str} {scope : Scope} {f : Addr} {cd : Value} {A : Around} {outer : List PySem.Env} {s : Shared} {H : Hp} {E : XK}
theorem owns0 : PassesOwn (model P w) (cxOf (L2.CX P w) P w K mg base N qual scope f cd A outer s H E).A (cxOf (L2.CX P w) P w K mg base N qual scope f cd A outer s H E).env (cxOf (L2.CX P w) P w K mg base N qual scope f cd A outer s H E).xe :=
  passes_of (X := cxOf (L2.CX P w) P w K mg base N qual scope f cd A outer s H E) (K := fun e s'' => L2.CX P w outer H s E e s'') (E₁ := fun e' s'' => L2.CX P w outer H s E e' s'') rfl
theorem takes1 : Takes (cxOf (L2.CX P w) P w K mg base N qual scope f cd A outer s H E) (fun cls d _ H => E cls d H) := takes_of rfl rfl rfl rfl
end
theorem takesF {X : Cx} : Takes X WF := fun _ _ x => by
  obtain ⟨_, _, _, _, _, _, _, _, _, _, _, _, _, _, _, _, z⟩ := x
  exact z.elim
/-- a def that may be called -/
def Cal (C : Ctx) (P : Program) (w : World) (K : PySem.W.Frag) (mg : Str → Option Value) (base : Heap) (k : Nat) (x : Str) (n : Nat) (Φ : Fn) : Prop :=
  ∃ (f : Addr) (fd : FuncData) (ps : List Str), FnOk P w K mg base (L2.CX P w) k f fd ps (spF C K n Φ) ∧ mg x = some (.ref f) ∧ PySem.W.keepIn K (.ref f) = true ∧ Binds K fd ps []
section
variable {C C0 : Ctx} {X : Cx} {W : WX} {n k k' : Nat} {Φ : Fn} {x : Str} {p pos : Pos} {e : Expr} {es : List Expr} {g : Cd (List Val)}
theorem se_cal (c : Cal C0 X.prog X.w X.K X.mg X.base k x n Φ) (hr : Room k' X.A) (ha : SA C X W g (e :: es)) (tk : Takes X W) (hk : k ≤ k' := by decide) (hg : Gl X x := by rfl) (hca : C.ca = C0.ca := by rfl) 
    (hdb : (x == ("__debug__" : Str)) = false := by decide) (he : starEach (e :: es) X.env = (false, eval e X.env) :: starEach es X.env := by rfl) (hpl : (backTo pos (starEach es X.env)).any (·.1) = false := by rfl) :
    SE C X W (cCall n Φ g) (.Call (.Name x p) (e :: es) [] pos) := by
  obtain ⟨f, fd, ps, F, hm, hkp, hb⟩ := c
  exact se_call F (hr.mono hk) hg hm hkp hb hca tk ha hdb he hpl
end
/-- an own error's facts -/
def ErrF (C : Ctx) (P : Program) (K : PySem.W.Frag) (mg : Str → Option Value) (x : Str) : Prop := ∃ A, C.ca x = some A ∧ mg x = some (.ref A) ∧ PySem.FX.MadeF P K mg A x
def CatF (C : Ctx) (K : PySem.W.Frag) (mg : Str → Option Value) (x : Str) : Prop := ∃ Ac, mg x = some (.ref Ac) ∧ ∀ cn A, C.ca cn = some A → PySem.W.exmOne K (.ref A) (.ref Ac) = some (subX cn x)
/-- a caught one's facts -/
structure XF (K : PySem.W.Frag) (A : Addr) (cn : Str) : Prop where
  xc : XfC K A
  noP : PySem.W.findIn K (.ref A) "place" = some none
  noN : PySem.W.findIn K (.ref A) "name" = some none
  lay : PyData.canLay0 (.str cn) = true
structure Txt (C : Ctx) (P : Program) (K : PySem.W.Frag) (mg : Str → Option Value) : Prop where
  ed : C.ed = none
  xf : ∀ cn A, C.ca cn = some A → XF K A cn
section
variable {C : Ctx} {X : Cx} {W : WX} {x : Str} {p p2' pos : Pos} {a : Expr} {f : Cd Val} {k : Nat}
theorem ss_rs (T : ErrF C X.prog X.K X.mg x) (hr : Room k X.A) (hc : X.calm = true) (tk : Takes X W) (ha : SE C X W f a) (hg : Gl X x := by rfl) (hnd : (x == ("__debug__" : Str)) = false := by decide)
    (he : starEach (a :: []) X.env = (false, eval a X.env) :: starEach [] X.env := by rfl) (hpl : (backTo p2' (starEach [] X.env)).any (·.1) = false := by rfl) :
    SS C X W (sRaise x f) (.Raise (some (.Call (.Name x p) [a] [] p2')) none pos) := by
  obtain ⟨A, h1, h2, M⟩ := T
  exact ss_raise hc tk h1 ha (fun hpa => pmk_own M h2 hr hpa hg hnd he hpl) he
theorem sh_cons {h : Str → D → Sc} {b₀ : Stmt} {suite : List Stmt} {np pos' : Pos} {hds : List ExceptHandler} {l : List Hd} (T : CatF C X.K X.mg x) (hsu : SSu C X h (b₀ :: suite)) (r : SHds C X l hds) (hg : Gl X x := by rfl) (hnd : (x == ("__debug__" : Str)) = false := by decide) :
    SHds C X ((x, none, h) :: l) (.ExceptHandler (some (.Name x np)) none (b₀ :: suite) pos' :: hds) := by
  obtain ⟨Ac, h1, h2⟩ := T
  exact .cons ⟨hg, hnd, .inl h1⟩ h2 hsu r
theorem sh_as {n : Str} {i : Nat} {h : Str → D → Sc} {b₀ : Stmt} {suite : List Stmt} {np pos' : Pos} {hds : List ExceptHandler} {l : List Hd} (T : CatF C X.K X.mg x) (hsu : SSu C X h (b₀ :: suite)) (r : SHds C X l hds) (hi : X.N[i]? = some n := by rfl) (hln : X.env.kindOf n = some .local := by rfl) (hg : Gl X x := by rfl) (hnd : (x == ("__debug__" : Str)) = false := by decide) :
    SHds C X ((x, some i, h) :: l) (.ExceptHandler (some (.Name x np)) (some n) (b₀ :: suite) pos' :: hds) := by
  obtain ⟨Ac, h1, h2⟩ := T
  exact .as hi hln ⟨hg, hnd, .inl h1⟩ h2 hsu r
variable {n : Str} {i : Nat} {A dd aa : Addr} {oe : Obj} {cn : Str} {pl : PyData} {pn : List (Addr × Obj)} {np : Pos}
theorem se_place (T : XF X.K A cn) (z : Zc (.ref A) (some dd) oe) (hf : ∃ vs, oe.data = .fields vs) (hN : X.N[i]? = some n := by rfl) (hv : Vis X.env.scope n := by first | exact Or.inl rfl | exact Or.inr (Or.inl rfl) | exact Or.inr (Or.inr rfl))
    (hd : (n == ("__debug__" : Str)) = false := by decide) (hcd : (n == ("__classdict__" : Str)) = false := by decide)
    (hb : attributeBase (.Name n np) "place" X.env (eval (.Name n np) X.env) = eval (.Name n np) X.env := by rfl) :
    SE (C.of aa dd cn pl) (X.suite aa ((aa, oe) :: pn)) WF (cXf i pl) (.Attribute (.Name n np) "place" pos) :=
  se_xf hN hv T.xc T.noP z hf (fun I v r => ⟨v, by simp [List.lookup], r⟩) hd hcd hb
theorem se_name (T : XF X.K A cn) (z : Zc (.ref A) (some dd) oe) (hf : ∃ vs, oe.data = .fields vs) (hN : X.N[i]? = some n := by rfl) (hv : Vis X.env.scope n := by first | exact Or.inl rfl | exact Or.inr (Or.inl rfl) | exact Or.inr (Or.inr rfl))
    (hd : (n == ("__debug__" : Str)) = false := by decide) (hcd : (n == ("__classdict__" : Str)) = false := by decide)
    (hb : attributeBase (.Name n np) "name" X.env (eval (.Name n np) X.env) = eval (.Name n np) X.env := by rfl) :
    SE (C.of aa dd cn pl) (X.suite aa ((aa, oe) :: pn)) WF (cXf i (.str cn)) (.Attribute (.Name n np) "name" pos) :=
  se_xf hN hv T.xc T.noN z hf (fun I v r => ⟨.str cn, by rw [List.lookup_cons, show (("name" : Str) == "place") = false by decide]; simp [List.lookup], .str cn, T.lay⟩) hd hcd hb
end
end FW


set_option Elab.async false
set_option linter.all false
set_option maxRecDepth 100000
set_option maxHeartbeats 4000000
namespace FW
open PySem PySem.Spec PyProof.Rows L2
theorem u0 {k : Nat} {A : Around} (r : Room k A) : A.units < cLine := by have := r.un; omega
theorem u64 {k : Nat} {A : Around} (r : Room k A) : A.units + 64 < cLine := by have := r.un; omega
theorem u65 {k : Nat} {A : Around} (r : Room k A) : A.units + 65 < cLine := by have := r.un; omega
/-- a comprehension's block, looked at -/
def blkB (N : List Str) (sc scope : Scope) (own : List (Str × Nat)) : Bool :=
  (match scope.kind with | .function => true | _ => false) && (scope.names.all fun y => decide (scope.names.lookup y.1 = some y.2)) && (own.all fun p => decide (N[p.2]? = some p.1)) &&
  (scope.names.all fun y => !decide (y.2 = .free) || decide (sc.names.lookup y.1 = some .cell) || decide (sc.names.lookup y.1 = some .free)) &&
  (scope.names.all fun y => !(decide (y.2 = .local) || decide (y.2 = .cell)) || (own.map (·.1)).contains y.1 || !N.contains y.1)
theorem blk_of {N : List Str} {sc scope : Scope} {own : List (Str × Nat)} (h : blkB N sc scope own = true) : BlkOk N sc scope own := by
  unfold blkB at h
  simp only [Bool.and_eq_true, List.all_eq_true] at h
  obtain ⟨⟨⟨⟨h1, h2⟩, h3⟩, h4⟩, h5⟩ := h
  refine ⟨?_, fun y hy => of_decide_eq_true (h2 y hy), fun p hp => of_decide_eq_true (h3 p hp), fun y hy hf => ?_, fun y hy hl => ?_⟩
  · revert h1
    cases scope.kind <;> simp
  · have := h4 y hy
    simp only [hf, Bool.or_eq_true, decide_eq_true_eq] at this
    rcases this with (z | z) | z
    · simp at z
    · exact .inl z
    · exact .inr z
  · have := h5 y hy
    simp only [Bool.or_eq_true, decide_eq_true_eq, Bool.not_eq_true', Bool.or_eq_false_iff, List.contains_iff_mem] at this
    rcases this with (z | z) | z
    · rcases hl with q | q
      · simp [q] at z
      · simp [q] at z
    · exact .inl z
    · refine .inr fun m => ?_
      have : N.contains y.1 = true := List.contains_iff_mem.mpr m
      rw [z] at this
      cases this
/-- a def as the top has written it -/
def FnW (K : PySem.W.Frag) (mg : Str → Option Value) (x : Str) (st : Stmt) : Prop := ∃ (f : Addr) (fd : FuncData), mg x = some (.ref f) ∧ L2.Fun K x x st f fd ∧ PySem.W.keepIn K (.ref f) = true
theorem fnw_mk {K : PySem.W.Frag} {mg : Str → Option Value} {h : Heap} {x : Str} {st : Stmt} {f : Addr} {oc : Value} {od an : Option Addr} {osl : Array (Option Value)} {kV doc pm cdv ct : Value} (X : K.In h) (G : h.Ns mainGlobals mg)
    (a : PySem.W.nsIn K mainGlobals x = some (some (.ref f))) (l : K.lookup f = some ⟨oc, od, .func (PySem.W.fnOf x x (defArgs st) (defBody st) (defScope st) .none kV doc pm an cdv ct), osl⟩) (c : PySem.W.codeIn K cdv x = true) (k : PySem.W.keepIn K (.ref f) = true) : FnW K mg x st :=
  ⟨f, _, PySem.W.mg_of X G a, fun_mk l c k, k⟩
/-- what binding says -/
def BindW (x : Str) (st : Stmt) (ps : List Str) : Prop := ∀ (kV doc pm : Value) (an : Option Addr) (cdv ct : Value) (us : List Value), us.length = ps.length → bindArgs (PySem.W.fnOf x x (defArgs st) (defBody st) (defScope st) .none kV doc pm an cdv ct) ⟨us, []⟩ = pure (ps.zip us)
section
variable {C : Ctx} {P : Program} {w : World} {K : PySem.W.Frag} {mg : Str → Option Value} {base : Heap} {x : Str} {st : Stmt} {N ps : List Str} {k n sl : Nat} {b : Sc} {fn : Nat → Val → Sto → R Val}
theorem cal_mk (T : Txt C P K mg) (F : FnW K mg x st) (S : FnScope N ps (defScope st)) (hb : BindW x st ps) (hfn : FinOk fn) (hk : N.length = sl) (hn : ps.length = n)
    (hbody : ∀ (f : Addr) (cdv : Value) (A : Around) (outer : List PySem.Env) (s : Shared) (H : Hp) (E : XK), Room k (A.deeper (envOfC x (defScope st) s.heap.objs.size f cdv)) → SSs C (cxOf (L2.CX P w) P w K mg base N x (defScope st) f cdv A outer s H E) (fun cls d _ H => E cls d H) b (defBody st)) :
    Cal C P w K mg base (k + 1) x n (runFn fn sl b) := by
  obtain ⟨f, fd, hm, F, hkp⟩ := F
  subst hn
  exact ⟨f, fd, ps, fn_ok F S T.ed hfn hk (hbody f), hm, hkp, F.binds hb⟩
theorem cal_none (F : FnW K mg x st) (hb : BindW x st ps) (hn : ps.length = n) : Cal C P w K mg base k x n (fun _ _ => .stuck) := by
  obtain ⟨f, fd, hm, F, hkp⟩ := F
  subst hn
  exact ⟨f, fd, ps, fn_none, hm, hkp, F.binds hb⟩
/-- what the law's def promises -/
def spLaw (n : Nat) (K : PySem.W.Frag) : Sp := fun ws H Q _ => ∃ (a : Addr) (ns : List Int), ws = [.ref a] ∧ SqL K H a (ns.map V.int) ∧ ns.length ≤ n ∧ ∀ H', Q (.bl true) H'
theorem ints_rpAll {I : Hp} : ∀ ns : List Int, RpAll K I (ns.map V.int) (ns.map PyData.int)
  | [] => .nil
  | _ :: r => .cons Rp.int (ints_rpAll r)
theorem law_sp {Φ : Fn} {m : Nat} (h : ∀ ns : List Int, ns.length ≤ m → Φ [.d (.list (ns.map PyData.int))] [] = .ok (.d (.bool true)) []) (vs : List V) (H : Hp) (Q : VK) (E : XK) (q : spLaw m K vs H Q E) : spF C K 1 Φ vs H Q E := by
  obtain ⟨a, ns, rfl, hS, hl, k⟩ := q
  refine ⟨H, fun _ => 0, [.d (.list (ns.map PyData.int))], [], ⟨Sub.refl _, fun l hl => absurd hl (Nat.not_lt_zero _), fun l m hl => absurd hl (Nat.not_lt_zero _), fun l c hc => by simp at hc⟩, .cons (Rp.list hS (ints_rpAll ns)) .nil, rfl, ?_⟩
  rw [h ns hl]
  intro I' β' H' t _ _ r
  have e : t = .bl true := Rp.of_bool r
  subst e
  exact k H'
end
end FW


set_option Elab.async false
set_option linter.all false
set_option maxRecDepth 100000
set_option maxHeartbeats 4000000
namespace PySem.FX
open PySem PySem.Spec PySem.W PySem.Calls PyProof.Rows PySem.HandSPX FW
variable {prog : Program} {K : Frag} {mg : Str → Option Value} {h : Heap}
/-- what is common to all the error classes -/
structure ClsF (K : Frag) (mg : Str → Option Value) (cn : Str) (C CB fB fI : Addr) : Prop where
  g : mg cn = some (.ref C)
  exc : ExcF K C CB fB
  xc : L2.XfC K C
  iC : findIn K (.ref C) "__init__" = some (some (.ref fI))
  tI : typeIn K (.ref fI) = some (.type "function")
  kC : keepIn K (.ref C) = true
  tyC : typeIn K (.ref C) = some (.type "type")
  cls : ∃ cd, clsIn K C = some cd
theorem cls_mk {cn : Str} {C CB fB fI : Addr} {nm q : Str} {N : Addr} {bs bm : List Value} {sn : List Str} {sub : List Value} {ab : Bool} {col : Option Bool} {dd : Option Addr} {k0 k1 k2 k3 k5 : Option Value} (X : K.In h) (G : h.Ns mainGlobals mg)
    (a : nsIn K mainGlobals cn = some (some (.ref C))) (x : K.lookup C = some (excClassObj nm q C N bs bm true sn sub ab col dd k0 k1 k2 k3 k5 "ValueError.__new__")) (hm : refsVE bm = true)
    (sa : findIn K (.ref C) "__setattr__" = some (some (.builtin "object.__setattr__"))) (noP : findIn K (.ref C) "place" = some none) (noN : findIn K (.ref C) "name" = some none) (mB : mroIn K C (.ref CB) = some true)
    (spB : ks_superIn K C CB "__init__" = some (some (.builtin vei))) (sVE : subIn K (.ref C) (.type "ValueError") = some true) (ga : findIn K (.ref C) "__getattribute__" = some (some (.builtin "BaseException.__getattribute__"))) (gg : findIn K (.ref C) "__getattr__" = some none)
    (exC : subIn K (.ref C) (.type "BaseException") = some true) (hd : hasDictIn K C = true) (iC : findIn K (.ref C) "__init__" = some (some (.ref fI))) (tI : typeIn K (.ref fI) = some (.type "function")) (kC : keepIn K (.ref C) = true) (tyC : typeIn K (.ref C) = some (.type "type")) : ClsF K mg cn C CB fB fI :=
  ⟨mg_of X G a, ⟨⟨nm, q, N, bs, bm, sn, sub, ab, col, dd, k0, k1, k2, k3, k5, x, hm⟩, sa, noP, noN, mB, spB, sVE⟩, ⟨ga, gg, exC, hd⟩, iC, tI, kC, tyC, ⟨_, by unfold clsIn; rw [x] <;> rfl⟩⟩
theorem init_mk {f D : Addr} {qual : Str} {body : List Stmt} {oc : Value} {od : Option Addr} {kV doc pm : Value} {an : Option Addr} {ct : Value} {osl : Array (Option Value)} {cda cc : Addr} {p1 p2 : Pos} {ccl : Value} {cdd : Option Addr} {vs : Array Value} {ccs : Array (Option Value)} {file : Str} {tf : Tok} {cl : Value} {cld : Option Addr} {csl : Array (Option Value)}
    (l : K.lookup f = some ⟨oc, od, .func (ksFn "__init__" qual (iA p1 p2) body iS .none kV doc pm an (.ref cda) ct cc), osl⟩) (c : codeIn K (.ref cda) qual = true) (lc : K.lookup cda = some ⟨ccl, cdd, .fields vs, ccs⟩) (v2 : vs[2]? = some (.str file tf)) (fl : ((prog.main.file : Str) == file) = true) (cl' : K.lookup cc = some ⟨cl, cld, .cell (some (.ref D)), csl⟩) (k : ∃ cd, clsIn K D = some cd) :
    InitF prog K f D qual body := ⟨⟨oc, od, kV, doc, pm, an, ct, osl, cda, cc, p1, p2, ccl, cdd, vs, ccs, file, tf, cl, cld, csl, l, c, lc, v2, fl, cl'⟩, k⟩
/-- the root, as the top has written it -/
def RootW (prog : Program) (K : Frag) (mg : Str → Option Value) (cn : Str) : Prop := ∃ (C f : Addr), ClsF K mg cn C C f f ∧ fnIn K f = true ∧
  ∃ (qual : Str) (p0 pp p3 p4 p5 p6 q1 q2 q3 q4 r1 r2 r3 r4 : Pos) (k : Nat), SupOk p0 pp p3 p4 p5 ∧ InitF prog K f C qual [supS p0 pp p3 p4 p5 p6, plS q1 q2 q3 q4, nmS cn k r1 r2 r3 r4]
def HeirW (prog : Program) (K : Frag) (mg : Str → Option Value) (cn cnB : Str) : Prop := ∃ (C fI CB fB : Addr), ClsF K mg cn C CB fB fI ∧ mg cnB = some (.ref CB) ∧ mroIn K C (.ref C) = some true ∧ ks_superIn K C C "__init__" = some (some (.ref fB)) ∧ findIn K (.ref CB) "__init__" = some (some (.ref fB)) ∧
  ∃ (qual : Str) (p0 pp p3 p4 p5 p6 r1 r2 r3 r4 : Pos) (k : Nat), SupOk p0 pp p3 p4 p5 ∧ InitF prog K fI C qual [supS p0 pp p3 p4 p5 p6, nmS cn k r1 r2 r3 r4]
theorem rootw_mk {cn : Str} {C f : Addr} {qual : Str} {p0 pp p3 p4 p5 p6 q1 q2 q3 q4 r1 r2 r3 r4 : Pos} {k : Nat} (c : ClsF K mg cn C C f f) (fn : fnIn K f = true) (so : SupOk p0 pp p3 p4 p5) (i : (∃ cd, clsIn K C = some cd) → InitF prog K f C qual [supS p0 pp p3 p4 p5 p6, plS q1 q2 q3 q4, nmS cn k r1 r2 r3 r4]) : RootW prog K mg cn :=
  ⟨C, f, c, fn, qual, p0, pp, p3, p4, p5, p6, q1, q2, q3, q4, r1, r2, r3, r4, k, so, i c.cls⟩
theorem heirw_mk {cn cnB : Str} {C fI CB fB : Addr} {qual : Str} {p0 pp p3 p4 p5 p6 r1 r2 r3 r4 : Pos} {k : Nat} (X : K.In h) (G : h.Ns mainGlobals mg) (aB : nsIn K mainGlobals cnB = some (some (.ref CB))) (iB : findIn K (.ref CB) "__init__" = some (some (.ref fB))) (c : ClsF K mg cn C CB fB fI)
    (mC : mroIn K C (.ref C) = some true) (sp : ks_superIn K C C "__init__" = some (some (.ref fB))) (so : SupOk p0 pp p3 p4 p5) (i : (∃ cd, clsIn K C = some cd) → InitF prog K fI C qual [supS p0 pp p3 p4 p5 p6, nmS cn k r1 r2 r3 r4]) : HeirW prog K mg cn cnB :=
  ⟨C, fI, CB, fB, c, mg_of X G aB, mC, sp, iB, qual, p0, pp, p3, p4, p5, p6, r1, r2, r3, r4, k, so, i c.cls⟩
/-- which class is below which -/
def PairW (K : Frag) (mg : Str → Option Value) (a b : Str) (v : Bool) : Prop := ∃ (A B : Addr), mg a = some (.ref A) ∧ mg b = some (.ref B) ∧ subIn K (.ref A) (.ref B) = some v
theorem pairw_mk {a b : Str} {v : Bool} {A B : Addr} (X : K.In h) (G : h.Ns mainGlobals mg) (ha : nsIn K mainGlobals a = some (some (.ref A))) (hb : nsIn K mainGlobals b = some (some (.ref B))) (s : subIn K (.ref A) (.ref B) = some v) : PairW K mg a b v := ⟨A, B, mg_of X G ha, mg_of X G hb, s⟩
def IsEW (K : Frag) (mg : Str → Option Value) (a : Str) : Prop := ∃ A : Addr, mg a = some (.ref A) ∧ L2.ExcC K A ∧ kitOne K (.ref A) (.type "ValueError") = some true
theorem isew_mk {a : Str} {A : Addr} (X : K.In h) (G : h.Ns mainGlobals mg) (ha : nsIn K mainGlobals a = some (some (.ref A))) (h1 : findIn K (.ref A) "__getattribute__" = some (some (.builtin "BaseException.__getattribute__"))) (h2 : findIn K (.ref A) "__getattr__" = some none) (h3 : subIn K (.ref A) (.type "BaseException") = some true) (h4 : hasDictIn K A = true)
    (h5 : findIn K (.ref A) "__class__" = some (some (.builtin "object.__class__"))) (h6 : specialIn K (.builtin "object.__class__") "__get__" = some (some (.builtin "getset_descriptor.__get__"))) (h7 : takesIn K (.builtin "object.__class__") = some true) (h8 : mroIn K A (.type "object") = some true) (h9 : kitOne K (.ref A) (.type "ValueError") = some true) : IsEW K mg a :=
  ⟨A, mg_of X G ha, ⟨h1, h2, h3, h4, h5, h6, h7, h8⟩, h9⟩
theorem wd_mk (X : K.In h) (G : h.Ns mainGlobals mg) (s : nsIn K mainGlobals "super" = some none) (t : (prog.main.scope.names.lookup ("super" : Str)).isSome = false) (a : nsIn K cStatics "thirdparty.any" = some none) : Wd prog K mg := ⟨mg_none_of X G s, t, a⟩
theorem mgn_mk {x : Str} (X : K.In h) (G : h.Ns mainGlobals mg) (s : nsIn K mainGlobals x = some none) : mg x = none := mg_none_of X G s
/-! ### joined -/
theorem RootW.made {cn : Str} (W' : Wd prog K mg) (R : RootW prog K mg cn) : ∃ C, mg cn = some (.ref C) ∧ MadeF prog K mg C cn ∧ L2.XfC K C ∧ findIn K (.ref C) "place" = some none ∧ findIn K (.ref C) "name" = some none ∧ typeIn K (.ref C) = some (.type "type") := by
  obtain ⟨C, f, c, fn, qual, p0, pp, p3, p4, p5, p6, q1, q2, q3, q4, r1, r2, r3, r4, k, so, i⟩ := R
  exact ⟨C, c.g, .root W' ⟨c.exc, c.iC, c.tI, c.kC, c.xc.exC, c.tyC, qual, p0, pp, p3, p4, p5, p6, q1, q2, q3, q4, r1, r2, r3, r4, k, so, i⟩, c.xc, c.exc.noP, c.exc.noN, c.tyC⟩
theorem HeirW.made {cn cnB : Str} (W' : Wd prog K mg) (R : RootW prog K mg cnB) (T : HeirW prog K mg cn cnB) : ∃ C, mg cn = some (.ref C) ∧ MadeF prog K mg C cn ∧ L2.XfC K C ∧ findIn K (.ref C) "place" = some none ∧ findIn K (.ref C) "name" = some none ∧ typeIn K (.ref C) = some (.type "type") := by
  obtain ⟨C0, f0, c0, fn0, base⟩ := R
  obtain ⟨C, fI, CB, fB, c, hB, mC, sp, iB, qual, p0, pp, p3, p4, p5, p6, r1, r2, r3, r4, k, so, i⟩ := T
  have e1 := hB.symm.trans c0.g
  cases e1
  have e2 := iB.symm.trans c0.iC
  cases e2
  exact ⟨C, c.g, .heir W' ⟨c.exc, c.iC, c.tI, c0.tI, fn0, mC, sp, c.kC, c.xc.exC, c.tyC, ⟨qual, p0, pp, p3, p4, p5, p6, r1, r2, r3, r4, k, so, i⟩, base⟩, c.xc, c.exc.noP, c.exc.noN, c.tyC⟩
end PySem.FX
namespace FW
open PySem PySem.Spec PyProof.Rows L2 PySem.FX
variable {prog : Program} {K : PySem.W.Frag} {mg : Str → Option Value} {h : Heap}
/-- a class that is raised or caught -/
def ClsW (prog : Program) (K : PySem.W.Frag) (mg : Str → Option Value) (cn : Str) : Prop := ∃ C, mg cn = some (.ref C) ∧ MadeF prog K mg C cn ∧ L2.XfC K C ∧ PySem.W.findIn K (.ref C) "place" = some none ∧ PySem.W.findIn K (.ref C) "name" = some none ∧ PySem.W.typeIn K (.ref C) = some (.type "type")
def caOf (mg : Str → Option Value) (names : List Str) : Str → Option Addr := fun cn => if names.contains cn = true then (match mg cn with | some (.ref a) => some a | _ => none) else none
def ctxOf (mg : Str → Option Value) (names : List Str) : FW.Ctx := ⟨caOf mg names, 0, none⟩
theorem ca_is {names : List Str} {cn : Str} {A : Addr} (e : caOf mg names cn = some A) : cn ∈ names ∧ mg cn = some (.ref A) := by
  unfold caOf at e
  split at e
  · rename_i hc
    refine ⟨List.contains_iff_mem.mp hc, ?_⟩
    split at e
    · rename_i a h1
      cases e
      exact h1
    · cases e
  · cases e
theorem ca_of {names : List Str} {cn : Str} {A : Addr} (hm : cn ∈ names) (e : mg cn = some (.ref A)) : caOf mg names cn = some A := by
  unfold caOf
  rw [if_pos (List.contains_iff_mem.mpr hm), e]
theorem txt_mk {names : List Str} (hc : ∀ cn ∈ names, ClsW prog K mg cn) (hl : ∀ cn ∈ names, PyData.canLay0 (.str cn) = true) : Txt (ctxOf mg names) prog K mg := by
  refine ⟨rfl, fun cn A e => ?_⟩
  obtain ⟨hm, e⟩ := ca_is e
  obtain ⟨C, h1, _, h3, h4, h5, _⟩ := hc cn hm
  cases e.symm.trans h1
  exact ⟨h3, h4, h5, hl cn hm⟩
theorem err_mk {names : List Str} {cn : Str} (c : ClsW prog K mg cn) (hm : cn ∈ names) : ErrF (ctxOf mg names) prog K mg cn := by
  obtain ⟨C, h1, h2, _⟩ := c
  exact ⟨C, ca_of hm h1, h1, h2⟩
theorem cat_mk {names : List Str} {x : Str} (c : ClsW prog K mg x) (hp : ∀ cn ∈ names, PairW K mg cn x (subX cn x)) : CatF (ctxOf mg names) K mg x := by
  obtain ⟨C, h1, h2, h3, h4, h5, h6⟩ := c
  refine ⟨C, h1, fun cn A e => ?_⟩
  obtain ⟨hm, e⟩ := ca_is e
  obtain ⟨A', B', g1, g2, g3⟩ := hp cn hm
  cases e.symm.trans g1
  cases h1.symm.trans g2
  exact PySem.W.exm_ref h3.exC h3.hdC h6 g3
theorem pair_is {a b : Str} {v : Bool} (p : PairW K mg a b v) (e : subX a b = v) : PairW K mg a b (subX a b) := by rw [e]; exact p
theorem ise_mk {names : List Str} (hp : ∀ cn ∈ names, IsEW K mg cn) (cn : Str) (A : Addr) (e : (ctxOf mg names).ca cn = some A) : L2.ExcC K A ∧ PySem.W.kitOne K (.ref A) (.type "ValueError") = some true := by
  obtain ⟨hm, e⟩ := ca_is e
  obtain ⟨A', g1, g2⟩ := hp cn hm
  cases e.symm.trans g1
  exact g2
/-- the law's def -/
theorem law_fin {C : FW.Ctx} {w : World} {x : Str} {st : Stmt} {N : List Str} {k n sl : Nat} {b : Sc} {fa : Addr} {v : Str} (T : Txt C prog K mg) (F : FnW K mg x st) (hmg : mg x = some (.ref fa)) (S : FnScope N [v] (defScope st)) (hb : BindW x st [v]) (hk : N.length = sl)
    (hbody : ∀ (base : Heap) (f : Addr) (cdv : Value) (A : Around) (outer : List PySem.Env) (s : Shared) (H : Hp) (E : XK), Room k (A.deeper (envOfC x (defScope st) s.heap.objs.size f cdv)) → SSs C (cxOf (L2.CX prog w) prog w K mg base N x (defScope st) f cdv A outer s H E) (fun cls d _ H => E cls d H) b (defBody st))
    (hlaw : ∀ ns : List Int, ns.length ≤ n → runFn fin sl b [.d (.list (ns.map PyData.int))] [] = .ok (.d (.bool true)) []) :
    ∃ fd : FuncData, (∀ (s : Shared) (u : Value), BindsTo s fd ⟨[u], []⟩ [(v, u)]) ∧ ∀ base : Heap, K.In base → base.Ns mainGlobals mg → FnOk prog w K mg base (L2.CX prog w) (k + 1) fa fd [v] (spLaw n K) := by
  obtain ⟨f, fd, hm, F, hkp⟩ := F
  cases hmg.symm.trans hm
  refine ⟨fd, fun s u => ?_, fun base _ _ => (fn_ok F S T.ed fin_ok hk (hbody base fa)).imp (law_sp hlaw)⟩
  have q := hb
  obtain ⟨oc, od, kV, doc, pm, an, cdv, ct, osl, rfl, lk, hcd⟩ := F.ex
  exact .of_eq (q kV doc pm an cdv ct [u] rfl)
end FW


set_option Elab.async false
set_option linter.all false
set_option maxRecDepth 100000
/-! # What a run of pure code gives -/
namespace FW
open PySem PySem.Spec
variable {α β : Type}
def okP (r : R α) (Q : α → Sto → Prop) : Prop := match r with
  | .ok a μ => Q a μ
  | _ => False
theorem okP_ok {a : α} {μ : Sto} {Q : α → Sto → Prop} : okP (.ok a μ) Q = Q a μ := rfl
theorem okP_bind {r : R α} {f : α → Sto → R β} {Q : β → Sto → Prop} : okP (r.bind f) Q = okP r (fun a μ => okP (f a μ) Q) := by cases r <;> rfl
theorem okP_mono {r : R α} {Q Q' : α → Sto → Prop} (h : okP r Q) (k : ∀ a μ, Q a μ → Q' a μ) : okP r Q' := by
  cases r with
  | ok a μ => exact k a μ h
  | exc _ _ _ => exact h.elim
  | stuck => exact h.elim
theorem okP_of {r : R α} {a : α} {μ : Sto} {Q : α → Sto → Prop} (e : r = .ok a μ) (h : Q a μ) : okP r Q := by rw [e]; exact h
theorem okP_is {r : R α} {a : α} {μ : Sto} (h : okP r fun b ν => b = a ∧ ν = μ) : r = .ok a μ := by
  cases r with
  | ok b ν => obtain ⟨rfl, rfl⟩ := h; rfl
  | exc _ _ _ => exact h.elim
  | stuck => exact h.elim
def okO (o : O) (Q : Env → Sto → Prop) (T : Val → Sto → Prop) : Prop := match o with
  | .next ρ μ => Q ρ μ
  | .ret v μ => T v μ
  | _ => False
theorem okO_next {ρ : Env} {μ : Sto} {Q : Env → Sto → Prop} {T : Val → Sto → Prop} : okO (.next ρ μ) Q T = Q ρ μ := rfl
theorem okO_ret {v : Val} {μ : Sto} {Q : Env → Sto → Prop} {T : Val → Sto → Prop} : okO (.ret v μ) Q T = T v μ := rfl
theorem okO_lift {r : R α} {ρ : Env} {f : α → Sto → O} {Q : Env → Sto → Prop} {T : Val → Sto → Prop} : okO (lift r ρ f) Q T = okP r (fun a μ => okO (f a μ) Q T) := by cases r <;> rfl
theorem okO_seq {f g : Sc} {n0 : Nat} {ρ : Env} {μ : Sto} {Q : Env → Sto → Prop} {T : Val → Sto → Prop} : okO (sSeq f g n0 ρ μ) Q T = okO (f n0 ρ μ) (fun ρ' μ' => okO (g n0 ρ' μ') Q T) T := by
  unfold sSeq
  cases f n0 ρ μ <;> rfl
theorem okO_of {o : O} {ρ : Env} {μ : Sto} {Q : Env → Sto → Prop} {T : Val → Sto → Prop} (e : o = .next ρ μ) (h : Q ρ μ) : okO o Q T := by rw [e]; exact h
theorem okO_set {i : Nat} {f : Cd Val} {n0 : Nat} {ρ : Env} {μ : Sto} {Q : Env → Sto → Prop} {T : Val → Sto → Prop} : okO (sSet i f n0 ρ μ) Q T = okP (f ρ μ) (fun v μ' => Q (ρ.set i (some v)) μ') := by
  unfold sSet
  rw [okO_lift]
  rfl
/-- the law's whole -/
theorem law_of {slots : Nat} {c : Sc} {v : Val} (h : okO (c 0 (some v :: List.replicate (slots - 1) none) []) (fun _ _ => False) (fun v _ => v = .d (.bool true))) : runFn fin slots c [v] [] = .ok (.d (.bool true)) [] := by
  unfold runFn
  simp only [List.map_cons, List.map_nil, List.length_cons, List.length_nil, List.cons_append, List.nil_append]
  cases e : c 0 (some v :: List.replicate (slots - 1) none) [] with
  | next ρ μ => rw [e] at h; exact h.elim
  | ret u μ =>
    rw [e] at h
    have h : u = .d (.bool true) := h
    subst h
    simp [ending, fin]
  | brk ρ μ => rw [e] at h; exact h.elim
  | cont ρ μ => rw [e] at h; exact h.elim
  | exc cn pl ρ μ => rw [e] at h; exact h.elim
  | stuck => rw [e] at h; exact h.elim
theorem okP_call {n : Nat} {F : Fn} {g : Cd (List Val)} {ρ : Env} {μ : Sto} {Q : Val → Sto → Prop} (h : okP (g ρ μ) fun vs μ1 => vs.length = n ∧ vs.all notExn = true ∧ okP (F vs μ1) fun v μ2 => notExn v = true ∧ Q v μ2) : okP (cCall n F g ρ μ) Q := by
  unfold cCall
  rw [okP_bind]
  refine okP_mono h fun vs μ1 ⟨h1, h2, h3⟩ => ?_
  rw [if_pos ⟨h1, h2⟩]
  cases e : F vs μ1 with
  | ok v μ2 =>
    rw [e] at h3
    have h3 : notExn v = true ∧ Q v μ2 := h3
    simp only [h3.1, if_true]
    exact h3.2
  | exc _ _ _ => rw [e] at h3; exact h3.elim
  | stuck => rw [e] at h3; exact h3.elim
/-- a comprehension that draws -/
theorem lcRun_draw {w : Walked} {ρ0 : Env} {bd : D → Env → Option Env} {f : Cd Val} {P : D → Prop} {Inv : Sto → Prop} (hw : w.2 = none) (h : ∀ x ρ1 μ, x ∈ w.1 → bd x ρ0 = some ρ1 → Inv μ → okP (f ρ1 μ) fun v μ' => ∃ y, v = .d y ∧ P y ∧ Inv μ') (hb : ∀ x ∈ w.1, (bd x ρ0).isSome = true) :
    ∀ (xs acc : List D) (μ : Sto), (∀ x ∈ xs, x ∈ w.1) → Inv μ → okP (lcRun w ρ0 bd cYes f xs acc μ) fun out μ' => ∃ ys, out = acc ++ ys ∧ ys.length = xs.length ∧ (∀ y ∈ ys, P y) ∧ Inv μ'
  | [], acc, μ, _, i => ⟨[], by simp, rfl, (fun _ h => nomatch h), i⟩
  | x :: xs, acc, μ, hx, i => by
    have hm := hx x List.mem_cons_self
    obtain ⟨ρ1, e⟩ := Option.isSome_iff_exists.mp (hb x hm)
    have q := h x ρ1 μ hm e i
    unfold lcRun
    simp only [e, cYes]
    cases e2 : f ρ1 μ with
    | exc _ _ _ => rw [e2] at q; exact q.elim
    | stuck => rw [e2] at q; exact q.elim
    | ok v μ' =>
      rw [e2] at q
      obtain ⟨y, rfl, hp, i'⟩ := q
      have ob : okB w μ' = true := by unfold okB; rw [hw]
      simp only [ob, if_true]
      refine okP_mono (lcRun_draw hw h hb xs (acc ++ [y]) μ' (fun z hz => hx z (List.mem_cons_of_mem _ hz)) i') fun out μ2 ⟨ys, h1, h2, h3, h4⟩ => ⟨y :: ys, by rw [h1]; simp, by simp [h2], fun z hz => ?_, h4⟩
      rcases List.mem_cons.mp hz with rfl | hz
      · exact hp
      · exact h3 z hz
/-- a comprehension over a range whose body draws: so many values, each as promised -/
theorem lc_draw {fw : Cd Walked} {i : Nat} {vs : List Nat} {f : Cd Val} {P : D → Prop} {Inv : Sto → Prop} {ρ : Env} {μ μ1 : Sto} {xs : List D} (hf : fw ρ μ = .ok (xs, none) μ1) (hl : xs.length ≤ 100000) (i1 : Inv μ1)
    (h : ∀ x μ, x ∈ xs → Inv μ → okP (f ((wipeE ρ vs).set i (some (.d x))) μ) fun v μ' => ∃ y, v = .d y ∧ P y ∧ Inv μ') :
    okP (cLc fw (bN i) vs cYes f ρ μ) fun v μ' => ∃ ys, v = .d (.list ys) ∧ ys.length = xs.length ∧ (∀ y ∈ ys, P y) ∧ Inv μ' := by
  unfold cLc
  rw [hf]
  rw [okP_bind, okP_ok]
  rw [if_pos (show okB (xs, none) μ1 = true from rfl)]
  have q := lcRun_draw (w := (xs, none)) (ρ0 := wipeE ρ vs) (bd := bN i) (f := f) (P := P) (Inv := Inv) rfl (fun x ρ1 μ hx e iv => by
    have e : ρ1 = (wipeE ρ vs).set i (some (.d x)) := (Option.some.inj e).symm
    subst e
    exact h x μ hx iv) (fun x _ => rfl) xs [] μ1 (fun _ h => h) i1
  cases e : lcRun (xs, none) (wipeE ρ vs) (bN i) cYes f xs [] μ1 with
  | exc _ _ _ => rw [e] at q; exact q.elim
  | stuck => rw [e] at q; exact q.elim
  | ok out μ2 =>
    rw [e] at q
    obtain ⟨ys, h1, h2, h3, h4⟩ := q
    rw [List.nil_append] at h1
    subst h1
    simp only [lim, h2, decide_eq_true hl, if_true]
    exact ⟨out, rfl, h2, h3, h4⟩
/-- one word for a table of cases -/
def foldE {γ : Type} (G : α → γ) : List α → List γ
  | [] => []
  | x :: xs => G x :: foldE G xs
theorem at_of {γ : Type} {F G : α → γ} : ∀ {L : List α}, L.map F = foldE G L → ∀ x ∈ L, F x = G x
  | [], _, _, h => nomatch h
  | y :: ys, e, x, h => by
    have e1 : F y :: ys.map F = G y :: foldE G ys := e
    injection e1 with e1 e2
    rcases List.mem_cons.mp h with rfl | h
    · exact e1
    · exact at_of e2 x h
end FW


set_option Elab.async false
set_option linter.all false
set_option maxRecDepth 100000
/-! # What every construct gives, for simp -/
namespace FW
open PySem PySem.Spec
variable {α β : Type} {ρ : Env} {μ : Sto} {n0 : Nat} {QO : Env → Sto → Prop} {T : Val → Sto → Prop} {Q : Val → Sto → Prop} {QB : Bool → Sto → Prop} {QL : List Val → Sto → Prop}
@[simp ↓] theorem w_ok {a : α} {Q : α → Sto → Prop} : okP (.ok a μ) Q = Q a μ := rfl
@[simp ↓] theorem w_exc {cn : Str} {pl : D} {Q : α → Sto → Prop} : okP (.exc cn pl μ : R α) Q = False := rfl
@[simp ↓] theorem w_stuck {Q : α → Sto → Prop} : okP (.stuck : R α) Q = False := rfl
@[simp ↓] theorem w_next : okO (.next ρ μ) QO T = QO ρ μ := rfl
@[simp ↓] theorem w_ret {v : Val} : okO (.ret v μ) QO T = T v μ := rfl
@[simp ↓] theorem w_seq {f g : Sc} : okO (sSeq f g n0 ρ μ) QO T = okO (f n0 ρ μ) (fun ρ' μ' => okO (g n0 ρ' μ') QO T) T := okO_seq
@[simp ↓] theorem w_skip : okO (sSkip n0 ρ μ) QO T = QO ρ μ := rfl
@[simp ↓] theorem w_set {i : Nat} {f : Cd Val} : okO (sSet i f n0 ρ μ) QO T = okP (f ρ μ) (fun v μ' => QO (ρ.set i (some v)) μ') := okO_set
@[simp ↓] theorem w_sret {f : Cd Val} : okO (sRet f n0 ρ μ) QO T = okP (f ρ μ) T := by unfold sRet; rw [okO_lift]; rfl
@[simp ↓] theorem w_expr {f : Cd Val} : okO (sExpr f n0 ρ μ) QO T = okP (f ρ μ) (fun _ μ' => QO ρ μ') := by unfold sExpr; rw [okO_lift]; rfl
@[simp ↓] theorem w_par {i j : Nat} {f g : Cd Val} : okO (sPar i j f g n0 ρ μ) QO T = okP (f ρ μ) (fun v μ1 => okP (g ρ μ1) (fun u μ2 => QO ((ρ.set i (some v)).set j (some u)) μ2)) := by
  unfold sPar
  rw [okO_lift]
  congr 1
  funext v μ1
  rw [okO_lift]
  rfl
@[simp ↓] theorem w_if {t : Cd Bool} {f g : Sc} : okO (sIf t f g n0 ρ μ) QO T = okP (t ρ μ) (fun b μ1 => if b = true then okO (f n0 ρ μ1) QO T else okO (g n0 ρ μ1) QO T) := by
  unfold sIf
  rw [okO_lift]
  congr 1
  funext b μ1
  cases b <;> simp
@[simp ↓] theorem w_put {fo fi fe : Cd Val} : okO (sPut fo fi fe n0 ρ μ) QO T = okP (fe ρ μ) (fun v μ1 => okP (fo ρ μ1) (fun o μ2 => okP (fi ρ μ2) (fun k μ3 => match o, rd k μ3, v with
  | .loc l, some (.int j), .d x => match μ3[l]? with
    | some (.lst xs) => match L2.ixN xs.length j with
      | some m => QO ρ (μ3.set l (.lst (xs.set m x)))
      | none => False
    | _ => False
  | _, _, _ => False))) := by
  unfold sPut
  rw [okO_lift]
  congr 1
  funext v μ1
  rw [okO_lift]
  congr 1
  funext o μ2
  rw [okO_lift]
  congr 1
  funext k μ3
  cases o with
  | d _ => rfl
  | exn => rfl
  | loc l =>
    cases rd k μ3 with
    | none => rfl
    | some j =>
      cases j with
      | int j =>
        cases v with
        | loc _ => rfl
        | exn => rfl
        | d x =>
          show okO (match μ3[l]? with | some (.lst xs) => (match L2.ixN xs.length j with | some m => O.next ρ (μ3.set l (.lst (xs.set m x))) | none => .stuck) | _ => .stuck) QO T = (match μ3[l]? with | some (.lst xs) => (match L2.ixN xs.length j with | some m => QO ρ (μ3.set l (.lst (xs.set m x))) | none => False) | _ => False)
          cases μ3[l]? with
          | none => rfl
          | some c =>
            cases c with
            | dct _ => rfl
            | lst xs =>
              dsimp only
              cases L2.ixN xs.length j <;> rfl
      | _ => rfl
@[simp ↓] theorem w_app {fo fe : Cd Val} : okO (sApp fo fe n0 ρ μ) QO T = okP (fo ρ μ) (fun o μ1 => match o with
  | .loc l => match μ1[l]? with
    | some (.lst _) => okP (fe ρ μ1) (fun v μ2 => match v, μ2[l]? with
      | .d x, some (.lst xs) => if lim (xs.length + 1) = true then QO ρ (μ2.set l (.lst (xs ++ [x]))) else False
      | _, _ => False)
    | _ => False
  | _ => False) := by
  unfold sApp
  rw [okO_lift]
  congr 1
  funext o μ1
  cases o with
  | d _ => rfl
  | exn => rfl
  | loc l =>
    show okO (match μ1[l]? with | some (.lst _) => lift (fe ρ μ1) ρ (fun v μ2 => match v, μ2[l]? with | .d x, some (.lst xs) => if lim (xs.length + 1) = true then .next ρ (μ2.set l (.lst (xs ++ [x]))) else .stuck | _, _ => .stuck) | _ => .stuck) QO T = (match μ1[l]? with
    | some (.lst _) => okP (fe ρ μ1) (fun v μ2 => match v, μ2[l]? with
      | .d x, some (.lst xs) => if lim (xs.length + 1) = true then QO ρ (μ2.set l (.lst (xs ++ [x]))) else False
      | _, _ => False)
    | _ => False)
    cases μ1[l]? with
    | none => rfl
    | some c =>
      cases c with
      | dct _ => rfl
      | lst xs =>
        dsimp only
        rw [okO_lift]
        congr 1
        funext v μ2
        generalize μ2[l]? = oc
        cases v with
        | loc _ => rfl
        | exn => rfl
        | d x =>
          cases oc with
          | none => rfl
          | some c =>
            cases c with
            | dct _ => rfl
            | lst ys =>
              dsimp only
              cases lim (ys.length + 1) <;> rfl
/-! expressions -/
@[simp ↓] theorem w_cK {x : D} : okP (cK x ρ μ) Q = Q (.d x) μ := rfl
@[simp ↓] theorem w_cV {i : Nat} : okP (cV i ρ μ) Q = match ρ[i]? with | some (some v) => Q v μ | _ => False := by
  unfold cV
  cases ρ[i]? with
  | none => rfl
  | some o => cases o <;> rfl
@[simp ↓] theorem w_nil : okP (aNil ρ μ) QL = QL [] μ := rfl
@[simp ↓] theorem w_cons {f : Cd Val} {g : Cd (List Val)} : okP (aCons f g ρ μ) QL = okP (f ρ μ) (fun v μ1 => okP (g ρ μ1) (fun vs μ2 => QL (v :: vs) μ2)) := by
  unfold aCons
  rw [okP_bind]
  congr 1
  funext v μ1
  rw [okP_bind]
  rfl
@[simp ↓] theorem w_tup {f : Cd (List Val)} : okP (cTup f ρ μ) Q = okP (f ρ μ) (fun vs μ1 => match dats vs with | some xs => if lim xs.length = true then Q (.d (.tuple xs)) μ1 else False | none => False) := by
  unfold cTup
  rw [okP_bind]
  congr 1
  funext v μ1
  cases dats v with
  | none => rfl
  | some xs =>
    dsimp only
    cases lim xs.length <;> rfl
@[simp ↓] theorem w_lst {f : Cd (List Val)} : okP (cLst f ρ μ) Q = okP (f ρ μ) (fun vs μ1 => match dats vs with | some xs => if lim xs.length = true then Q (.d (.list xs)) μ1 else False | none => False) := by
  unfold cLst
  rw [okP_bind]
  congr 1
  funext v μ1
  cases dats v with
  | none => rfl
  | some xs =>
    dsimp only
    cases lim xs.length <;> rfl
@[simp ↓] theorem w_lstC {f : Cd (List Val)} : okP (cLstC f ρ μ) Q = okP (f ρ μ) (fun vs μ1 => match dats vs with | some xs => if lim xs.length = true then Q (.loc μ1.length) (μ1 ++ [.lst xs]) else False | none => False) := by
  unfold cLstC
  rw [okP_bind]
  congr 1
  funext v μ1
  cases dats v with
  | none => rfl
  | some xs =>
    dsimp only
    cases lim xs.length <;> rfl
@[simp ↓] theorem w_op {op : D → D → Option D} {f g : Cd Val} : okP (cOp op f g ρ μ) Q = okP (f ρ μ) (fun a μ1 => okP (g ρ μ1) (fun b μ2 => match rd a μ2, rd b μ2 with | some x, some y => (match op x y with | some z => Q (.d z) μ2 | none => False) | _, _ => False)) := by
  unfold cOp
  rw [okP_bind]
  congr 1
  funext v μ1
  rw [okP_bind]
  congr 1
  funext u μ2
  unfold p2
  cases rd v μ2 with
  | none => rfl
  | some x =>
    cases rd u μ2 with
    | none => rfl
    | some y =>
      dsimp only
      cases op x y <;> rfl
@[simp ↓] theorem w_un {op : D → Option D} {f : Cd Val} : okP (cUn op f ρ μ) Q = okP (f ρ μ) (fun a μ1 => match rd a μ1 with | some x => (match op x with | some z => Q (.d z) μ1 | none => False) | none => False) := by
  unfold cUn
  rw [okP_bind]
  congr 1
  funext v μ1
  unfold p1
  cases rd v μ1 with
  | none => rfl
  | some x =>
    dsimp only
    cases op x <;> rfl
@[simp ↓] theorem w_tr {f : Cd Val} : okP (cTr f ρ μ) QB = okP (f ρ μ) (fun v μ1 => match rd v μ1 with | some (.bool b) => QB b μ1 | _ => False) := by
  unfold cTr
  rw [okP_bind]
  congr 1
  funext v μ1
  unfold tr
  cases rd v μ1 with
  | none => rfl
  | some x => cases x <;> rfl
@[simp ↓] theorem w_tru {f : Cd Val} : okP (cTru f ρ μ) QB = okP (f ρ μ) (fun v μ1 => match rd v μ1 with | some x => (match truB x with | some b => QB b μ1 | none => False) | none => False) := by
  unfold cTru
  rw [okP_bind]
  congr 1
  funext v μ1
  cases rd v μ1 with
  | none => rfl
  | some x =>
    dsimp only
    cases truB x <;> rfl
@[simp ↓] theorem w_and {f g : Cd Bool} : okP (tAndC f g ρ μ) QB = okP (f ρ μ) (fun a μ1 => if a = true then okP (g ρ μ1) QB else QB false μ1) := by
  unfold tAndC
  rw [okP_bind]
  congr 1
  funext a μ1
  cases a <;> simp
@[simp ↓] theorem w_or {f g : Cd Bool} : okP (tOrC f g ρ μ) QB = okP (f ρ μ) (fun a μ1 => if a = true then QB true μ1 else okP (g ρ μ1) QB) := by
  unfold tOrC
  rw [okP_bind]
  congr 1
  funext a μ1
  cases a <;> simp
@[simp ↓] theorem w_not {f : Cd Bool} : okP (tNotC f ρ μ) QB = okP (f ρ μ) (fun a μ1 => QB (!a) μ1) := by
  unfold tNotC
  rw [okP_bind]
  rfl
@[simp ↓] theorem w_cif {t : Cd Bool} {f g : Cd Val} : okP (cIf t f g ρ μ) Q = okP (t ρ μ) (fun b μ1 => if b = true then okP (f ρ μ1) Q else okP (g ρ μ1) Q) := by
  unfold cIf
  rw [okP_bind]
  congr 1
  funext a μ1
  cases a <;> simp
@[simp ↓] theorem w_cb {op : List D → Option D} {f : Cd (List Val)} : okP (cB op f ρ μ) Q = okP (f ρ μ) (fun vs μ1 => match rds vs μ1 with | some xs => (match op xs with | some z => Q (.d z) μ1 | none => False) | none => False) := by
  unfold cB
  rw [okP_bind]
  congr 1
  funext a μ1
  unfold pB
  cases rds a μ1 with
  | none => rfl
  | some x =>
    dsimp only
    cases op x <;> rfl
@[simp ↓] theorem w_isi {t : String} {f : Cd Val} : okP (cIsi t f ρ μ) Q = okP (f ρ μ) (fun v μ1 => match rd v μ1 with | some x => (match tyN x with | some n => Q (.d (.bool (isiB n t))) μ1 | none => False) | none => False) := by
  unfold cIsi
  rw [okP_bind]
  congr 1
  funext a μ1
  cases rd a μ1 with
  | none => rfl
  | some x =>
    dsimp only
    cases tyN x <;> rfl
@[simp ↓] theorem w_sl {f : Cd Val} {l h : Cd (Option Int)} : okP (cSl f l h ρ μ) Q = okP (f ρ μ) (fun v μ1 => okP (l ρ μ1) (fun lo μ2 => okP (h ρ μ2) (fun hi μ3 => okP (pSl v lo hi μ3) Q))) := by
  unfold cSl
  rw [okP_bind]
  congr 1
  funext v μ1
  rw [okP_bind]
  congr 1
  funext lo μ2
  rw [okP_bind]
@[simp ↓] theorem w_no {QI : Option Int → Sto → Prop} : okP (cNo ρ μ) QI = QI none μ := rfl
@[simp ↓] theorem w_part {f : Cd Val} {QI : Option Int → Sto → Prop} : okP (cPart f ρ μ) QI = okP (f ρ μ) (fun v μ1 => match rd v μ1 with | some (.int i) => QI (some i) μ1 | _ => False) := by
  unfold cPart
  rw [okP_bind]
  congr 1
  funext v μ1
  cases rd v μ1 with
  | none => rfl
  | some x => cases x <;> rfl
@[simp ↓] theorem w_yes {QB : Bool → Sto → Prop} : okP (cYes ρ μ) QB = QB true μ := rfl
@[simp ↓] theorem w_lc_nil {w : Walked} {ρ0 : Env} {bd : D → Env → Option Env} {c : Cd Bool} {f : Cd Val} {acc : List D} {QD : List D → Sto → Prop} : okP (lcRun w ρ0 bd c f [] acc μ) QD = QD acc μ := rfl
@[simp ↓] theorem w_lc_cons {w : Walked} {ρ0 : Env} {bd : D → Env → Option Env} {c : Cd Bool} {f : Cd Val} {x : D} {xs acc : List D} {QD : List D → Sto → Prop} : okP (lcRun w ρ0 bd c f (x :: xs) acc μ) QD = match bd x ρ0 with
    | some ρ1 => okP (c ρ1 μ) (fun b μ1 => if b = true then okP (f ρ1 μ1) (fun v μ2 => match v with
      | .d y => if okB w μ2 = true then okP (lcRun w ρ0 bd c f xs (acc ++ [y]) μ2) QD else False
      | _ => False) else if okB w μ1 = true then okP (lcRun w ρ0 bd c f xs acc μ1) QD else False)
    | none => False := by
  show okP (match bd x ρ0 with
    | none => .stuck
    | some ρ1 => match c ρ1 μ with
      | .ok true μ1 => match f ρ1 μ1 with
        | .ok (.d y) μ2 => if okB w μ2 = true then lcRun w ρ0 bd c f xs (acc ++ [y]) μ2 else .stuck
        | _ => .stuck
      | .ok false μ1 => if okB w μ1 = true then lcRun w ρ0 bd c f xs acc μ1 else .stuck
      | _ => .stuck) QD = _
  cases bd x ρ0 with
  | none => rfl
  | some ρ1 =>
    dsimp only
    cases c ρ1 μ with
    | exc _ _ _ => rfl
    | stuck => rfl
    | ok b μ1 =>
      cases b with
      | false =>
        simp only [w_ok, Bool.false_eq_true, if_false]
        cases okB w μ1 <;> simp
      | true =>
        simp only [w_ok, if_true]
        cases f ρ1 μ1 with
        | exc _ _ _ => rfl
        | stuck => rfl
        | ok v μ2 =>
          cases v with
          | loc _ => rfl
          | exn => rfl
          | d y =>
            simp only [w_ok]
            cases okB w μ2 <;> simp
@[simp ↓] theorem w_lc {fw : Cd Walked} {bd : D → Env → Option Env} {vs : List Nat} {c : Cd Bool} {f : Cd Val} : okP (cLc fw bd vs c f ρ μ) Q = okP (fw ρ μ) (fun w μ1 => if okB w μ1 = true then okP (lcRun w (wipeE ρ vs) bd c f w.1 [] μ1) (fun out μ2 => if lim out.length = true then Q (.d (.list out)) μ2 else False) else False) := by
  unfold cLc
  rw [okP_bind]
  congr 1
  funext w μ1
  cases okB w μ1 with
  | false => simp
  | true =>
    simp only [if_true]
    cases lcRun w (wipeE ρ vs) bd c f w.1 [] μ1 with
    | exc _ _ _ => rfl
    | stuck => rfl
    | ok out μ2 =>
      simp only [w_ok]
      cases lim out.length <;> simp
@[simp ↓] theorem w_iv {f : Cd Val} {QW : Walked → Sto → Prop} : okP (iV f ρ μ) QW = okP (f ρ μ) (fun v μ1 => match itOf v μ1 with | some w => QW w μ1 | none => False) := by
  unfold iV
  rw [okP_bind]
  congr 1
  funext v μ1
  cases itOf v μ1 <;> rfl
@[simp ↓] theorem w_r1 {f : Cd (List Val)} {QW : Walked → Sto → Prop} : okP (iR1 f ρ μ) QW = okP (f ρ μ) (fun vs μ1 => match rds vs μ1 with | some [.int n] => if decide (-(2 ^ 62) ≤ n ∧ n < 2 ^ 62) = true then QW (rng 0 n.toNat, none) μ1 else False | _ => False) := by
  unfold iR1
  rw [okP_bind]
  congr 1
  funext vs μ1
  split
  · rename_i n e
    try rw [e]
    try dsimp only
    cases decide (-(2 ^ 62) ≤ n ∧ n < 2 ^ 62) <;> simp
  · rename_i h
    first
    | rfl
    | (split
       · rename_i n e
         exact absurd e (h n)
       · rfl)
@[simp ↓] theorem w_r2 {f : Cd (List Val)} {QW : Walked → Sto → Prop} : okP (iR2 f ρ μ) QW = okP (f ρ μ) (fun vs μ1 => match rds vs μ1 with | some [.int a, .int b] => if decide (-(2 ^ 62) ≤ a ∧ a < 2 ^ 62 ∧ -(2 ^ 62) ≤ b ∧ b < 2 ^ 62) = true then QW (rng a (b - a).toNat, none) μ1 else False | _ => False) := by
  unfold iR2
  rw [okP_bind]
  congr 1
  funext vs μ1
  split
  · rename_i a b e
    try rw [e]
    try dsimp only
    cases decide (-(2 ^ 62) ≤ a ∧ a < 2 ^ 62 ∧ -(2 ^ 62) ≤ b ∧ b < 2 ^ 62) <;> simp
  · rename_i h
    first
    | rfl
    | (split
       · rename_i a b e
         exact absurd e (h a b)
       · rfl)
theorem for_nil {bd : D → Env → Option Env} {b : Sc} (h : QO ρ μ) : okO (forRun bd b n0 [] ρ μ) QO T := h
theorem for_cons {bd : D → Env → Option Env} {b : Sc} {x : D} {xs : List D} {ρ1 : Env} (e : bd x ρ = some ρ1) (h : okO (b n0 ρ1 μ) (fun ρ2 μ2 => okO (forRun bd b n0 xs ρ2 μ2) QO T) T) : okO (forRun bd b n0 (x :: xs) ρ μ) QO T := by
  unfold forRun
  simp only [e]
  cases q : b n0 ρ1 μ <;> rw [q] at h
  · exact h
  · exact h
  all_goals exact h.elim
@[simp ↓] theorem w_for {fw : Cd Walked} {bd : D → Env → Option Env} {b : Sc} : okO (sFor fw bd b n0 ρ μ) QO T = okP (fw ρ μ) (fun w μ1 => match w.2 with | none => okO (forRun bd b n0 w.1 ρ μ1) QO T | some _ => False) := by
  unfold sFor
  rw [okO_lift]
  congr 1
  funext w μ1
  cases w.2 <;> rfl
@[simp] theorem okB_none {xs : List D} : okB (xs, none) μ = true := rfl
@[simp] theorem itOf_list {xs : List D} : itOf (.d (.list xs)) μ = some (xs, none) := rfl
@[simp] theorem itOf_tuple {xs : List D} : itOf (.d (.tuple xs)) μ = some (xs, none) := rfl
@[simp ↓] theorem w_cand {f g : Cd Val} : okP (cAnd f g ρ μ) Q = okP (f ρ μ) (fun a μ1 => match bo a μ1 with | some true => okP (g ρ μ1) Q | some false => Q (.d (.bool false)) μ1 | none => False) := by
  unfold cAnd
  rw [okP_bind]
  congr 1
  funext a μ1
  cases bo a μ1 with
  | none => rfl
  | some b => cases b <;> rfl
@[simp ↓] theorem w_cor {f g : Cd Val} : okP (cOr f g ρ μ) Q = okP (f ρ μ) (fun a μ1 => match bo a μ1 with | some true => Q (.d (.bool true)) μ1 | some false => okP (g ρ μ1) Q | none => False) := by
  unfold cOr
  rw [okP_bind]
  congr 1
  funext a μ1
  cases bo a μ1 with
  | none => rfl
  | some b => cases b <;> rfl
@[simp ↓] theorem w_cnot {f : Cd Val} : okP (cNot f ρ μ) Q = okP (f ρ μ) (fun a μ1 => match bo a μ1 with | some b => Q (.d (.bool (!b))) μ1 | none => False) := by
  unfold cNot
  rw [okP_bind]
  congr 1
  funext a μ1
  cases bo a μ1 <;> rfl
@[simp ↓] theorem w_call {n : Nat} {F : Fn} {g : Cd (List Val)} : okP (cCall n F g ρ μ) Q = okP (g ρ μ) (fun vs μ1 => if vs.length = n ∧ vs.all notExn = true then okP (F vs μ1) (fun v μ2 => if notExn v = true then Q v μ2 else False) else False) := by
  unfold cCall
  rw [okP_bind]
  congr 1
  funext vs μ1
  by_cases h : vs.length = n ∧ vs.all notExn = true
  · rw [if_pos h, if_pos h]
    cases F vs μ1 with
    | exc _ _ _ => rfl
    | stuck => rfl
    | ok v μ2 =>
      simp only [w_ok]
      cases notExn v <;> simp
  · rw [if_neg h, if_neg h]
    rfl
@[simp] theorem notExn_d {x : D} : notExn (.d x) = true := rfl
@[simp] theorem notExn_loc {l : Nat} : notExn (.loc l) = true := rfl
@[simp] theorem bo_b {b : Bool} : bo (.d (.bool b)) μ = some b := rfl
@[simp] theorem tru_b {b : Bool} : truB (.bool b) = some b := rfl
@[simp] theorem tyN_int {i : Int} : tyN (.int i) = some "int" := rfl
@[simp] theorem tyN_bool {i : Bool} : tyN (.bool i) = some "bool" := rfl
@[simp] theorem tyN_tuple {i : List D} : tyN (.tuple i) = some "tuple" := rfl
@[simp] theorem tyN_list {i : List D} : tyN (.list i) = some "list" := rfl
@[simp] theorem tyN_str {i : Str} : tyN (.str i) = some "str" := rfl
@[simp] theorem tyN_none : tyN .none = some "NoneType" := rfl
/-! data -/
@[simp] theorem rd_d {x : D} : rd (.d x) μ = some x := rfl
@[simp] theorem dEq_int {a b : Int} : dEq (.int a) (.int b) = some (.bool (decide (a = b))) := by
  unfold dEq shal
  simp [PyData.depth, PyData.eqv]
  rw [Bool.eq_iff_iff]
  simp
@[simp] theorem dNe_int {a b : Int} : dNe (.int a) (.int b) = some (.bool (!decide (a = b))) := by
  unfold dNe shal
  simp [PyData.depth, PyData.eqv]
  rw [Bool.eq_iff_iff]
  simp
@[simp] theorem dAdd_int {a b : Int} : dAdd (.int a) (.int b) = some (.int (a + b)) := rfl
@[simp] theorem dSub_int {a b : Int} : dSub (.int a) (.int b) = some (.int (a - b)) := rfl
@[simp] theorem dLt_int {a b : Int} : dLt (.int a) (.int b) = some (.bool (decide (a < b))) := rfl
@[simp] theorem dLe_int {a b : Int} : dLe (.int a) (.int b) = some (.bool (decide (a ≤ b))) := rfl
@[simp] theorem dGt_int {a b : Int} : dGt (.int a) (.int b) = some (.bool (decide (b < a))) := rfl
@[simp] theorem dGeA_int {a b : Int} : dGeA (.int a) (.int b) = some (.bool (decide (b ≤ a))) := rfl
@[simp] theorem bAbs_int {a : Int} : bAbs [.int a] = some (.int (if a < 0 then -a else a)) := rfl
@[simp] theorem bInt_int {a : Int} : bInt [.int a] = some (.int a) := rfl
@[simp] theorem bInt_bool {a : Bool} : bInt [.bool a] = some (.int (if a then 1 else 0)) := rfl
@[simp] theorem bLen_list {xs : List D} : bLen [.list xs] = some (.int xs.length) := rfl
@[simp] theorem bLen_tuple {xs : List D} : bLen [.tuple xs] = some (.int xs.length) := rfl
@[simp] theorem rds_nil : rds [] μ = some [] := rfl
@[simp] theorem rds_cons {v : Val} {vs : List Val} : rds (v :: vs) μ = match rd v μ, rds vs μ with | some x, some xs => some (x :: xs) | _, _ => none := rfl
@[simp] theorem dats_nil : dats [] = some [] := rfl
@[simp] theorem dats_d {x : D} {vs : List Val} : dats (.d x :: vs) = match dats vs with | some xs => some (x :: xs) | none => none := rfl
theorem dMod_int {a b : Int} (h : 0 < b) : dMod (.int a) (.int b) = some (.int (a % b)) := by
  unfold dMod
  simp [h]
theorem dMul_r {a b : Int} (h1 : -(2 ^ 64) < b) (h2 : b < 2 ^ 64) : dMulB (.int a) (.int b) = some (.int (a * b)) := by
  show (if mulOk a b = true then some (PyData.int (a * b)) else none) = _
  rw [if_pos]
  unfold mulOk
  rw [Bool.or_eq_true]
  exact .inr (decide_eq_true ⟨h1, h2⟩)
theorem dMul_l {a b : Int} (h1 : -(2 ^ 64) < a) (h2 : a < 2 ^ 64) : dMulB (.int a) (.int b) = some (.int (a * b)) := by
  show (if mulOk a b = true then some (PyData.int (a * b)) else none) = _
  rw [if_pos]
  unfold mulOk
  rw [Bool.or_eq_true]
  exact .inl (decide_eq_true ⟨h1, h2⟩)
theorem big_pow : (2 : Int) ^ 64 < 2 ^ 4000 := by
  have z : (2 : Nat) ^ 64 < 2 ^ 4000 := Nat.pow_lt_pow_right (by decide) (by decide)
  have e1 : ((2 ^ 64 : Nat) : Int) = (2 : Int) ^ 64 := Int.natCast_pow 2 64
  have e2 : ((2 ^ 4000 : Nat) : Int) = (2 : Int) ^ 4000 := Int.natCast_pow 2 4000
  rw [← e1, ← e2]
  exact Int.ofNat_lt.mpr z
theorem dDiv_pos {a b : Int} (h : 0 < b) (h2 : b < 2 ^ 64) : dDivN (.int a) (.int b) = some (.int (a / b)) := by
  show (if divOk b = true then _ else _) = _
  rw [if_pos]
  unfold divOk
  exact decide_eq_true ⟨h, Int.lt_trans h2 big_pow⟩
theorem dDiv_neg {a b : Int} (h : b < 0) (h2 : -1073741824 < b) : dDivN (.int a) (.int b) = some (.int (a.fdiv b)) := by
  show (if divOk b = true then _ else _) = _
  rw [if_neg, if_pos (decide_eq_true ⟨h, h2⟩)]
  unfold divOk
  intro q
  exact absurd (of_decide_eq_true q).1 (Int.not_lt.mpr (Int.le_of_lt h))
theorem ixN_nat {n i : Nat} (h : i < n) : L2.ixN n (i : Int) = some i := by
  unfold L2.ixN
  rw [if_pos (by omega), if_pos (by omega)]
  simp
theorem dIx_list {xs : List D} {i : Nat} (h : i < xs.length) : dIx (.list xs) (.int (i : Int)) = some xs[i] := by
  show L2.atI xs (i : Int) = _
  unfold L2.atI
  rw [ixN_nat h]
  simp [h]
theorem dIx_tuple {xs : List D} {i : Nat} (h : i < xs.length) : dIx (.tuple xs) (.int (i : Int)) = some xs[i] := dIx_list h
theorem atI_nat {α : Type} {xs : List α} {i : Nat} (h : i < xs.length) : L2.atI xs (i : Int) = xs[i]? := by
  unfold L2.atI L2.ixN
  rw [if_pos (by omega)]
  rw [if_pos (by omega)]
  simp
theorem atI_neg1 {α : Type} {xs : List α} (h : xs ≠ []) : L2.atI xs (-1) = xs.getLast? := by
  have hl : 0 < xs.length := List.length_pos_iff.mpr h
  unfold L2.atI L2.ixN
  rw [if_neg (by omega), if_pos (by omega)]
  rw [List.getLast?_eq_getElem?]
  show xs[_]? = _
  congr 1
  omega
/-- one statement, then the rest -/
theorem seq_of {f g : Sc} {P : Env → Sto → Prop} (h1 : okO (f n0 ρ μ) P T) (h2 : ∀ ρ' μ', P ρ' μ' → okO (g n0 ρ' μ') QO T) : okO (sSeq f g n0 ρ μ) QO T := by
  rw [okO_seq]
  cases e : f n0 ρ μ <;> rw [e] at h1
  · exact h2 _ _ h1
  · exact h1
  all_goals exact h1.elim
theorem seq_gen {f g : Sc} (h : ∀ Q : Env → Sto → Prop, (∀ ρ' μ', okO (g n0 ρ' μ') QO T → Q ρ' μ') → okO (f n0 ρ μ) Q T) : okO (sSeq f g n0 ρ μ) QO T := by
  rw [okO_seq]
  exact h _ fun _ _ z => z
@[simp] theorem psl_tuple {xs : List D} {lo hi : Option Int} : pSl (.d (.tuple xs)) lo hi μ = .ok (.d (.tuple (cut xs lo hi))) μ := rfl
@[simp] theorem psl_list {xs : List D} {lo hi : Option Int} : pSl (.d (.list xs)) lo hi μ = .ok (.d (.list (cut xs lo hi))) μ := rfl
theorem okP_ex {α : Type} {r : R α} {Q : α → Sto → Prop} (h : okP r Q) : ∃ a ν, r = .ok a ν ∧ Q a ν := by
  cases r with
  | ok a ν => exact ⟨a, ν, rfl, h⟩
  | exc _ _ _ => exact h.elim
  | stuck => exact h.elim
theorem if_of {ρ : FW.Env} {μ : Sto} {t : Cd Bool} {f : Sc} {n0 : Nat} {Q : FW.Env → Sto → Prop} {T : Val → Sto → Prop} (e : t ρ μ = .ok false μ) (h : Q ρ μ) : okO (sIf t f sSkip n0 ρ μ) Q T := by
  rw [w_if]
  exact okP_of e (by simpa using h)
theorem next_of {o : O} {ρ : FW.Env} {μ : Sto} {Q : FW.Env → Sto → Prop} {T : Val → Sto → Prop} (e : o = .next ρ μ) (h : Q ρ μ) : okO o Q T := okO_of e h
theorem lo62 : (-(2 ^ 62) : Int) ≤ 0 := by decide
theorem hi62 : (100000 : Int) < 2 ^ 62 := by decide
theorem dd62 {n : Int} (h0 : 0 ≤ n) (h1 : n ≤ 100000) : -(2 ^ 62) ≤ n ∧ n < 2 ^ 62 := ⟨Int.le_trans lo62 h0, Int.lt_of_le_of_lt h1 hi62⟩
theorem iR1_n {f : Cd (List Val)} {n : Int} (hf : f ρ μ = .ok [.d (.int n)] μ) (h : decide (-(2 ^ 62) ≤ n ∧ n < 2 ^ 62) = true) : iR1 f ρ μ = .ok (rng 0 n.toNat, none) μ := by
  unfold iR1
  rw [hf]
  simp only [R.bind, rds, rd]
  rw [if_pos h]
theorem iR1_ok {f : Cd (List Val)} {n : Int} {k : Nat} (hf : f ρ μ = .ok [.d (.int n)] μ) (h : n.toNat = k) (h0 : 0 ≤ n) (h1 : n ≤ 100000) : iR1 f ρ μ = .ok (rng 0 k, none) μ := by
  rw [iR1_n hf (decide_eq_true (dd62 h0 h1)), h]
theorem iR1_wp {f : Cd (List Val)} {QW : Walked → Sto → Prop} (h : okP (f ρ μ) fun vs μ1 => ∃ n : Int, vs = [.d (.int n)] ∧ 0 ≤ n ∧ n ≤ 100000 ∧ QW (rng 0 n.toNat, none) μ1) : okP (iR1 f ρ μ) QW := by
  obtain ⟨vs, μ1, e, n, rfl, h0, h1, q⟩ := okP_ex h
  unfold iR1
  rw [e]
  simp only [R.bind, rds, rd]
  rw [if_pos (decide_eq_true (dd62 h0 h1))]
  exact q
theorem iR2_n {f : Cd (List Val)} {a b : Int} (hf : f ρ μ = .ok [.d (.int a), .d (.int b)] μ) (h : decide (-(2 ^ 62) ≤ a ∧ a < 2 ^ 62 ∧ -(2 ^ 62) ≤ b ∧ b < 2 ^ 62) = true) : iR2 f ρ μ = .ok (rng a (b - a).toNat, none) μ := by
  unfold iR2
  rw [hf]
  simp only [R.bind, rds, rd]
  rw [if_pos h]
theorem iR2_ok {f : Cd (List Val)} {a b : Int} {k : Nat} (hf : f ρ μ = .ok [.d (.int a), .d (.int b)] μ) (h : (b - a).toNat = k) (a0 : 0 ≤ a) (a1 : a ≤ 100000) (b0 : 0 ≤ b) (b1 : b ≤ 100000) : iR2 f ρ μ = .ok (rng a k, none) μ := by
  rw [iR2_n hf (decide_eq_true ⟨(dd62 a0 a1).1, (dd62 a0 a1).2, (dd62 b0 b1).1, (dd62 b0 b1).2⟩), h]
theorem okP_run {n : Nat} {b : Sc} {vs : List Val} (h : okO (b μ.length (vs.map some ++ List.replicate (n - vs.length) none) μ) (fun _ μ' => Q (.d .none) (μ'.take μ.length)) (fun v μ' => okP (fin μ.length v μ') Q)) : okP (runFn fin n b vs μ) Q := by
  unfold runFn
  cases e : b μ.length (vs.map some ++ List.replicate (n - vs.length) none) μ <;> rw [e] at h
  · exact h
  · exact h
  all_goals exact h.elim
@[simp] theorem fin_d {n : Nat} {x : D} : fin n (.d x) μ = .ok (.d x) (μ.take n) := rfl
theorem mulW_l {a b : Int} (h1 : -18446744073709551616 < a) (h2 : a < 18446744073709551616) : dMulB (.int a) (.int b) = some (.int (a * b)) := dMul_l h1 h2
theorem mulW_r {a b : Int} (h1 : -18446744073709551616 < b) (h2 : b < 18446744073709551616) : dMulB (.int a) (.int b) = some (.int (a * b)) := dMul_r h1 h2
end FW


set_option Elab.async false
set_option linter.all false
set_option maxRecDepth 100000
set_option maxHeartbeats 4000000
/-! # max(xs, default=d) -/
namespace PySem.FYM
open PySem PyProof.Rows
section
variable {P : Program} {w : World} {A : Around} {R : Result → Shared → Prop} {I : Addr} {fp wr : List Addr} {n : Nat} {T : Nat → Value → Prop} {St : Nat → Heap → Prop} {kw : List (Str × Value)}
theorem nm : (toString "max" ++ toString ".loop" : String) = "max.loop" := by decide
theorem goes (W : Walks P w A.in1 I fp wr n T St) (bt : Nat → Nat → Bool) (hcmp : CmpOf P w A.in1 .Gt T bt) (B : Addr) (hBf : B ∉ fp) :
    ∀ (k j : Nat) (s : Shared) (u : Value) (c : Nat), n - (j + 1) = k → j + 1 ≤ n → St (j + 1) s.heap → T (argBest bt j) u → s.heap.get? B = some { cls := .type "list", dict := none, data := .seq #[u, u] c, slots := #[] } →
    (∀ v h' tk, T (argBest bt (n - 1)) v → (∀ b o, b ∉ wr → b ≠ B → s.heap.get? b = some o → h'.get? b = some o) → R (.ok (.ret v)) { s with heap := h', toks := tk }) → codeAny (model P w) A (.builtin "max.loop" ⟨[.ref I, .none, .ref B], kw⟩) R s := by
  have hBw : B ∉ wr := fun h => hBf (W.sub _ h)
  intro k
  induction k with
  | zero =>
    intro j s u c hk hj hst hu hB hR
    have hin : j + 1 = n := by omega
    refine codeAny_builtin F.entry_max_loop ?_; rw [Around.under_plainId F.plain_max_loop _]; show wpAny _ A.in1 (seqItems? (.ref B) >>= _) _ _ s
    refine wpAny_bind (wpAny_seqItems hB rfl ?_); show wpAny _ A.in1 (tryCatch (pyNext (.ref I)) _ >>= _) _ _ s
    refine wpAny_bind (wpAny_tryCatch (W.done s _ _ (hin ▸ hst) fun h1 tk hk' => ?_))
    have hB' := hk' B _ hBw hB
    show wpAny _ A.in1 (updateSeq B (fun _ => #[]) >>= _) _ _ _
    refine wpAny_bind ?_; refine wpAny_updateSeq hB' rfl (wpAny_bind (wpAny_letGo (wpAny_pure ?_)))
    exact hR u _ tk (by rw [← hin]; exact hu) fun b o hbw hbB e => (Heap.get?_update_other _ _ (Ne.symm hbB)).trans (hk' b o hbw e)
  | succ k ih =>
    intro j s u c hk hj hst hu hB hR
    have hlt : j + 1 < n := by omega
    refine codeAny_builtin F.entry_max_loop ?_; rw [Around.under_plainId F.plain_max_loop _]; show wpAny _ A.in1 (seqItems? (.ref B) >>= _) _ _ s
    refine wpAny_bind (wpAny_seqItems hB rfl ?_); show wpAny _ A.in1 (tryCatch (pyNext (.ref I)) _ >>= _) _ _ s
    refine wpAny_bind (wpAny_tryCatch (W.item (j + 1) s _ _ hlt hst fun v h1 tk hP hst1 hk' => ?_))
    have hB' := hk' B _ hBw hB
    show wpAny _ A.in1 (tryCatch (holding [v, v] (richCompare .Gt v u >>= _)) _ >>= _) _ _ _
    refine wpAny_bind (wpAny_tryCatch (wpAny_holding (wpAny_bind (hcmp (j + 1) (argBest bt j) v u _ _ _ hP hu ?_)))); refine wpAny_bind (wpAny_holding (wpAny_truthy_bool ?_)); refine wpAny_bind (wpAny_letGo (wpAny_pure ?_))
    cases hb : bt (j + 1) (argBest bt j) with
    | true =>
      simp only [if_true]; refine wpAny_bind ?_; refine wpAny_updateSeq hB' rfl (wpAny_bind (wpAny_letGo ?_)); rw [nm]
      refine wpAny_pure ⟨plainId_quiet F.plain_max_loop _, ih (j + 1) _ v _ (by omega) hlt (W.frame _ _ _ hst1 fun b hbf o e => ?_) (by simp only [argBest, hb, if_true]; exact hP) (Heap.get?_update_self _ hB' rfl) fun v1 h2 tk2 hP1 hk2 => ?_⟩
      · exact (Heap.get?_update_other _ _ (fun h : B = b => hBf (by rw [h]; exact hbf))).trans e
      · exact hR v1 h2 tk2 hP1 fun b o hbw hbB e => hk2 b o hbw hbB ((Heap.get?_update_other _ _ (Ne.symm hbB)).trans (hk' b o hbw e))
    | false =>
      simp only [Bool.false_eq_true, if_false]; refine wpAny_bind (wpAny_letGo ?_); rw [nm]
      refine wpAny_pure ⟨plainId_quiet F.plain_max_loop _, ih (j + 1) _ u c (by omega) hlt hst1 (by simp only [argBest, hb, Bool.false_eq_true, if_false]; exact hu) hB' fun v1 h2 tk2 hP1 hk2 => ?_⟩
      exact hR v1 h2 tk2 hP1 fun b o hbw hbB e => hk2 b o hbw hbB (hk' b o hbw e)
theorem first (W : Walks P w A.in1 I fp wr n T St) (bt : Nat → Nat → Bool) (hcmp : CmpOf P w A.in1 .Gt T bt) (B : Addr) (hBf : B ∉ fp) (hn : 0 < n) {s : Shared} {c : Nat} (hst : St 0 s.heap) (hB : s.heap.get? B = some { cls := .type "list", dict := none, data := .seq #[] c, slots := #[] })
    (hR : ∀ v h' tk, T (argBest bt (n - 1)) v → (∀ b o, b ∉ wr → b ≠ B → s.heap.get? b = some o → h'.get? b = some o) → R (.ok (.ret v)) { s with heap := h', toks := tk }) : codeAny (model P w) A (.builtin "max.loop" ⟨[.ref I, .none, .ref B], kw⟩) R s := by
  have hBw : B ∉ wr := fun h => hBf (W.sub _ h)
  refine codeAny_builtin F.entry_max_loop ?_; rw [Around.under_plainId F.plain_max_loop _]; show wpAny _ A.in1 (seqItems? (.ref B) >>= _) _ _ s
  refine wpAny_bind (wpAny_seqItems hB rfl ?_); show wpAny _ A.in1 (tryCatch (pyNext (.ref I)) _ >>= _) _ _ s
  refine wpAny_bind (wpAny_tryCatch (W.item 0 s _ _ hn hst fun v h1 tk hP hst1 hk' => ?_))
  have hB' := hk' B _ hBw hB
  show wpAny _ A.in1 (updateSeq B (fun _ => #[v, v]) >>= _) _ _ _
  refine wpAny_bind ?_; refine wpAny_updateSeq hB' rfl ?_; rw [nm]
  refine wpAny_pure ⟨plainId_quiet F.plain_max_loop _, goes W bt hcmp B hBf _ 0 _ v _ rfl hn (W.frame _ _ _ hst1 fun b hbf o e => ?_) hP (Heap.get?_update_self _ hB' rfl) fun v1 h2 tk2 hP1 hk2 => ?_⟩
  · exact (Heap.get?_update_other _ _ (fun h : B = b => hBf (by rw [h]; exact hbf))).trans e
  · exact hR v1 h2 tk2 hP1 fun b o hbw hbB e => hk2 b o hbw hbB ((Heap.get?_update_other _ _ (Ne.symm hbB)).trans (hk' b o hbw e))
/-- nothing there: the default -/
theorem none_ (W : Walks P w A.in1 I fp wr n T St) {d : Value} {k : Str} (B : Addr) (hBf : B ∉ fp) (hn : n = 0) {s : Shared} {c : Nat} (hst : St 0 s.heap) (hB : s.heap.get? B = some { cls := .type "list", dict := none, data := .seq #[] c, slots := #[] })
    (hR : ∀ h' tk, (∀ b o, b ∉ wr → b ≠ B → s.heap.get? b = some o → h'.get? b = some o) → R (.ok (.ret d)) { s with heap := h', toks := tk }) : codeAny (model P w) A (.builtin "max.loop" ⟨[.ref I, .none, .ref B], [(k, d)]⟩) R s := by
  have hBw : B ∉ wr := fun h => hBf (W.sub _ h)
  refine codeAny_builtin F.entry_max_loop ?_; rw [Around.under_plainId F.plain_max_loop _]; show wpAny _ A.in1 (seqItems? (.ref B) >>= _) _ _ s
  refine wpAny_bind (wpAny_seqItems hB rfl ?_); show wpAny _ A.in1 (tryCatch (pyNext (.ref I)) _ >>= _) _ _ s
  refine wpAny_bind (wpAny_tryCatch (W.done s _ _ (hn ▸ hst) fun h1 tk hk' => ?_))
  refine wpAny_bind (wpAny_rule ?_)
  exact wpAny_pure (hR _ tk fun b o hbw hbB e => hk' b o hbw e)
end
section
variable {P : Program} {w : World} {A : Around} {E : Value → Shared → Prop} {s : Shared}
theorem args_d (a d : Value) : argsOk "max" ⟨[a], [(Str.ofString "default", d)]⟩ := by unfold argsOk; kernel_rfl
theorem tree_kw {id : String} {b : Builtin} {us : List Value} {kw : List (Str × Value)} {Q : Value → Shared → Prop} (hk : builtinKind id = none) (hp : plainId id = true) (hb : entryFor table id = some b) (ha : argsOk id ⟨us, kw⟩)
    (hc : wpAny (model P w) A.in1 (b ⟨us, kw⟩) (fun fin s1 => match fin with | .done f => (match (Except.ok f : Result) with | .ok (.ret v) => Q v s1 | .ok _ => False | .error e => E e s1) | .again c1 => c1.quiet = true ∧ codeAny (model P w) A c1 (fun r s1 => match r with | .ok (.ret v) => Q v s1 | .ok _ => False | .error e => E e s1) s1) E s) :
    wpAny (model P w) A (call (.builtin id) us kw) Q E s := by
  refine wpAny_call (codeAny_call_builtin hp hb ?_); simp only [checkBuiltinCall, hk]
  cases hsig : Manifest.signature? id with
  | none => exact wpAny_pure hc
  | some sig =>
    simp only [argsOk, hsig] at ha
    have h2 : Bind.checkArgs id sig ⟨us, kw⟩ = pure () := ha
    show wpAny _ A.in1 (Bind.checkArgs id sig ⟨us, kw⟩) _ _ s
    rw [h2]
    exact wpAny_pure hc
theorem call_d {x d : Value} {Q : Value → Shared → Prop}
    (h : wpAny (model P w) A.in1 (pyIter x) (fun it s1 => ∃ I fp wr n T St bt, it = .ref I ∧ Walks P w A.in1 I fp wr n T St ∧ St 0 s1.heap ∧ (∀ b ∈ fp, b < s1.heap.objs.size) ∧ CmpOf P w A.in1 .Gt T bt ∧
      (0 < n → ∀ v h' tk, T (argBest bt (n - 1)) v → (∀ b o, b ∉ wr → s1.heap.get? b = some o → h'.get? b = some o) → Q v { s1 with heap := h', toks := tk }) ∧ (n = 0 → ∀ h' tk, (∀ b o, b ∉ wr → s1.heap.get? b = some o → h'.get? b = some o) → Q d { s1 with heap := h', toks := tk })) E s) :
    wpAny (model P w) A (call (.builtin "max") [x] [(Str.ofString "default", d)]) Q E s := by
  refine tree_kw F.kind_max F.plain_max F.entry_max (args_d _ _) ?_
  show wpAny _ A.in1 (Builtin.Builtins.bindParams "max" ["key", "default"] 0 ⟨[], [(Str.ofString "default", d)]⟩ >>= _) _ _ s
  refine wpAny_bind (wpAny_of_eq (show Builtin.Builtins.bindParams "max" ["key", "default"] 0 ⟨[], [(Str.ofString "default", d)]⟩ = pure [none, some d] from rfl) ?_)
  refine wpAny_bind (wpAny_pure ?_); refine wpAny_bind (wpAny_mono h (fun it s1 h2 => ?_) fun _ _ e => e)
  obtain ⟨I, fp, wr, n, T, St, bt, rfl, W, hst, hfp, hcmp, h3, h4⟩ := h2
  refine wpAny_bind (wpAny_newObj_type ?_)
  have hBf : s1.heap.objs.size ∉ fp := fun hm => Nat.lt_irrefl _ (hfp _ hm)
  rw [nm]
  rcases Nat.eq_zero_or_pos n with hn | hn
  · refine wpAny_pure ⟨plainId_quiet F.plain_max_loop _, none_ W s1.heap.objs.size hBf hn (W.frame _ _ _ hst fun b _ o e => Heap.get?_push_of_some _ e) (Heap.get?_push_size _ rfl) fun h1 tk hk => ?_⟩
    exact h4 hn h1 tk fun b o hbw e => hk b o hbw (Nat.ne_of_lt (Heap.lt_size e)) (Heap.get?_push_of_some _ e)
  · refine wpAny_pure ⟨plainId_quiet F.plain_max_loop _, first W bt hcmp s1.heap.objs.size hBf hn (W.frame _ _ _ hst fun b _ o e => Heap.get?_push_of_some _ e) (Heap.get?_push_size _ rfl) fun v h1 tk hP hk => ?_⟩
    exact h3 hn v h1 tk hP fun b o hbw e => hk b o hbw (Nat.ne_of_lt (Heap.lt_size e)) (Heap.get?_push_of_some _ e)
theorem ints_d {l : Addr} {its : List Value} {ns : List Int} {d : Value} {Q : Value → Shared → Prop} (hh : A.handled = none) (hl : s.heap.IsList l its.toArray) (hi : IntsAre its ns)
    (h0 : ns = [] → ∀ h' tk, (∀ b o, s.heap.get? b = some o → h'.get? b = some o) → Q d { s with heap := h', toks := tk })
    (h : ∀ h' tk m t', (∀ b o, s.heap.get? b = some o → h'.get? b = some o) → m ∈ ns → (∀ a, a ∈ ns → a ≤ m) → Q (.int m t') { s with heap := h', toks := tk }) : wpAny (model P w) A (call (.builtin "max") [.ref l] [(Str.ofString "default", d)]) Q E s := by
  obtain ⟨xs, e⟩ := hi.allInts.items
  have hn : numsOf (intItems xs).toList = ns := by rw [← e]; exact hi.numsOf
  rw [nums_intItems] at hn
  subst hn
  rw [e] at hl
  refine call_d (iter_intList hl fun s1 e1 st hfp hlI => ?_)
  subst e1
  refine ⟨_, _, _, _, _, _, _, rfl, Walks.list (A := A.in1) hh _ l hlI (intItems xs), st, hfp, CmpOf.ints_gt (numAt xs) (fun _ _ => intItems_at), fun hn v h1 tk hv hk => ?_, fun hn h1 tk hk => ?_⟩
  · have hsz : 0 < xs.size := by simpa [intItems] using hn
    have hv : (intItems xs)[argBest (fun i j => decide (numAt xs i > numAt xs j)) (xs.size - 1)]? = some v := by simpa [intItems] using hv
    obtain ⟨t, rfl⟩ := intItems_at hv
    obtain ⟨g1, g2⟩ := argBest_gt (numAt xs) (xs.size - 1)
    refine h h1 tk _ t (old_kept hk) ?_ fun a ha => ?_
    · rw [numAt_eq]; exact PySem.getD_mem (by rw [List.length_map, Array.length_toList]; omega)
    · obtain ⟨j, hj, rfl⟩ := mem_getD ha
      rw [List.length_map, Array.length_toList] at hj
      rw [← numAt_eq]; exact g2 j (by omega)
  · have hsz : xs.size = 0 := by simpa [intItems] using hn
    refine h0 ?_ h1 tk (old_kept hk)
    apply List.eq_nil_of_length_eq_zero
    rw [List.length_map, Array.length_toList]
    exact hsz
end
end PySem.FYM
namespace FW
open PySem PySem.Spec PyProof.Rows L2
/-- max(xs, default=d) of ints -/
def rMaxDf (K : PySem.W.Frag) : List V → List V → Hp → VK → Prop := fun vs zs H Q => ∃ (a : Addr) (ns : List Int) (d : V), vs = [V.ref a] ∧ zs = [d] ∧ SqL K H a (ns.map V.int) ∧ (ns = [] → Q d H) ∧ ∀ m, m ∈ ns → (∀ y, y ∈ ns → y ≤ m) → Q (.int m) H
theorem cr_maxDf {X : Cx} (hc : X.calm = true) : CallRK X (.builtin "max") [Str.ofString "default"] (rMaxDf X.K) := by
  intro pins s σ H vs zs us ws Q I r rz h
  obtain ⟨a, ns, d, rfl, rfl, hs, q0, q⟩ := h
  obtain ⟨its, rv, hl, _⟩ := I.list hs
  obtain rfl := Vals.ref1 r
  cases rz with
  | cons rd rt =>
    cases rt
    rename_i wd
    exact PySem.FYM.ints_d (I.ok.hd hc) hl.isList rv.ints (fun hn h1 tk hk => ⟨d, H, I.kept hk, rd, q0 hn⟩) fun h1 tk m t' hk h1 h2 => ⟨.int _, H, I.kept hk, ⟨_, rfl⟩, q m h1 h2⟩
end FW


set_option Elab.async false
set_option linter.all false
set_option maxRecDepth 100000
set_option maxHeartbeats 4000000
/-! # More constructs: x += e, methods of lists, max and min -/
namespace FW
open PySem PySem.Spec PyProof.Rows L2
section
variable {C : Ctx} {X : Cx} {W : WX} {pos : Pos} {K : PySem.W.Frag}
/-! ### x op= e, ints -/
def dAddI : D → D → Option D
  | .int i, .int j => some (.int (i + j))
  | _, _ => none
def dSubI : D → D → Option D
  | .int i, .int j => some (.int (i - j))
  | _, _ => none
def IpS (o : D → D → Option D) (g : Int → Int → Int) : Prop := ∀ a b z, o a b = some z → ∃ i j, a = .int i ∧ b = .int j ∧ z = .int (g i j)
theorem ips_add : IpS dAddI fun i j => i + j := fun a b z h => by
  unfold dAddI at h
  split at h
  · cases h; exact ⟨_, _, rfl, rfl, rfl⟩
  · cases h
theorem ips_sub : IpS dSubI fun i j => i - j := fun a b z h => by
  unfold dSubI at h
  split at h
  · cases h; exact ⟨_, _, rfl, rfl, rfl⟩
  · cases h
theorem p2_int {o : D → D → Option D} {g : Int → Int → Int} (hd : IpS o g) {σ : L2.St} {I : Hp} {β : Nat → Addr} {μ : Sto} {H : Hp} {a b : Val} {v u : V} (s : SR K I β μ H) (ra : RV C K I β μ.length a v) (rb : RV C K I β μ.length b u) {Q : VK}
    (h : Res C K W σ I β μ H (RV C K) Q (p2 o a b μ)) : ∃ i j, v = .int i ∧ u = .int j ∧ Q (.int (g i j)) H ∧ p2 o a b μ = .ok (.d (.int (g i j))) μ := by
  unfold p2 at h ⊢
  split at h
  · rename_i x y hx hy
    split at h
    · rename_i z hz
      obtain ⟨i, j, rfl, rfl, rfl⟩ := hd _ _ _ hz
      refine ⟨i, j, (ra.rd s hx).of_int, (rb.rd s hy).of_int, Res.here s h Rp.int, ?_⟩
      simp only [hx, hy, hz]
    · exact h.elim
  · exact h.elim
theorem ss_aug {i : Nat} {x : Str} {e : Expr} {f : Cd Val} {op : Operator} {g : Int → Int → Int} {o : D → D → Option D} {pos' : Pos} (ho : PIp X op (ipI g)) (hd : IpS o g) (hN : X.N.Nodup) (hi : X.N[i]? = some x) (hx : Loc X.env.scope x) (he : SE C X W f e)
    (hf : X.fn x = true ∨ X.env.scope.names.lookup x = some .local := by first | exact .inl rfl | exact .inr rfl | assumption) : SS C X W (sSet i (cOp o (cV i) f)) (.AugAssign (.Name x pos') op e pos) := PS_imp (ps_aug hN hi hx he ho hf) fun D σ H h => by
  obtain ⟨n0, I, β, ρ, μ, hn, s, e, h⟩ := h
  have h : OutOk C X.K W D n0 I β μ H (lift ((cV i ρ μ).bind fun a μ1 => (f ρ μ1).bind fun b μ2 => p2 o a b μ2) ρ fun v μ1 => .next (ρ.set i (some v)) μ1) := h
  unfold cV at h
  cases q : ρ[i]? with
  | none => rw [q] at h; exact h.elim
  | some ov =>
    cases ov with
    | none => rw [q] at h; exact h.elim
    | some v =>
      rw [q] at h
      obtain ⟨w, h1, h2⟩ := e.get i v q
      refine ⟨w, h1, I, β, ρ, μ, s, e, ?_⟩
      have h : OutOk C X.K W D n0 I β μ H (lift ((f ρ μ).bind fun b μ2 => p2 o v b μ2) ρ fun v μ1 => .next (ρ.set i (some v)) μ1) := h
      have h3 := OutOk.bind hn e h fun z μ1 I1 β1 H1 t q1 x1 s1 n1 r1 h3 => (show (fun (t : V) (H1 : Hp) => ∀ k : Int, t = .int k → D.nx (σ.set i (some (.int k))) H1) t H1 from fun k hk => by
        subst hk
        exact OutOk.here n1 s1 ((e.ext x1).set r1) h3)
      refine Res.bind h3 fun b μ2 I2 β2 H2 u q2 x2 s2 r2 h4 => ?_
      obtain ⟨i', j', e1, e2, q3, _⟩ := p2_int hd s2 (h2.mono x2.imm x2.bet x2.len) r2 h4
      exact ⟨i', j', e1, e2, q3 _ rfl⟩
/-! ### max, min -/
def maxI : Int → List Int → Int
  | a, [] => a
  | a, b :: r => maxI (if a < b then b else a) r
def minI : Int → List Int → Int
  | a, [] => a
  | a, b :: r => minI (if b < a then b else a) r
theorem maxI_is : ∀ (l : List Int) (a : Int), (maxI a l = a ∨ maxI a l ∈ l) ∧ a ≤ maxI a l ∧ ∀ y ∈ l, y ≤ maxI a l
  | [], a => ⟨.inl rfl, Int.le_refl _, fun _ h => nomatch h⟩
  | b :: r, a => by
    obtain ⟨h1, h2, h3⟩ := maxI_is r (if a < b then b else a)
    have e : maxI a (b :: r) = maxI (if a < b then b else a) r := rfl
    rw [e]
    refine ⟨?_, ?_, fun y hy => ?_⟩
    · rcases h1 with h1 | h1
      · by_cases z : a < b
        · rw [if_pos z] at h1 ⊢; exact .inr (by rw [h1]; exact List.mem_cons_self)
        · rw [if_neg z] at h1 ⊢; exact .inl h1
      · exact .inr (List.mem_cons_of_mem _ h1)
    · by_cases z : a < b
      · rw [if_pos z] at h2 ⊢; omega
      · rw [if_neg z] at h2 ⊢; omega
    · rcases List.mem_cons.mp hy with rfl | hy
      · by_cases z : a < y
        · rw [if_pos z] at h2 ⊢; omega
        · rw [if_neg z] at h2 ⊢; omega
      · exact h3 y hy
theorem minI_is : ∀ (l : List Int) (a : Int), (minI a l = a ∨ minI a l ∈ l) ∧ minI a l ≤ a ∧ ∀ y ∈ l, minI a l ≤ y
  | [], a => ⟨.inl rfl, Int.le_refl _, fun _ h => nomatch h⟩
  | b :: r, a => by
    obtain ⟨h1, h2, h3⟩ := minI_is r (if b < a then b else a)
    have e : minI a (b :: r) = minI (if b < a then b else a) r := rfl
    rw [e]
    refine ⟨?_, ?_, fun y hy => ?_⟩
    · rcases h1 with h1 | h1
      · by_cases z : b < a
        · rw [if_pos z] at h1 ⊢; exact .inr (by rw [h1]; exact List.mem_cons_self)
        · rw [if_neg z] at h1 ⊢; exact .inl h1
      · exact .inr (List.mem_cons_of_mem _ h1)
    · by_cases z : b < a
      · rw [if_pos z] at h2 ⊢; omega
      · rw [if_neg z] at h2 ⊢; omega
    · rcases List.mem_cons.mp hy with rfl | hy
      · by_cases z : y < a
        · rw [if_pos z] at h2 ⊢; omega
        · rw [if_neg z] at h2 ⊢; omega
      · exact h3 y hy
def maxL : List Int → Option Int
  | [] => none
  | a :: r => some (maxI a r)
def minL : List Int → Option Int
  | [] => none
  | a :: r => some (minI a r)
def bMaxL : List D → Option D
  | [.list xs] => match ints? xs with
    | some is => (maxL is).map PyData.int
    | none => none
  | _ => none
def bMinL : List D → Option D
  | [.list xs] => match ints? xs with
    | some is => (minL is).map PyData.int
    | none => none
  | _ => none
theorem max_one {is : List Int} {k m : Int} (h : maxL is = some k) (h1 : m ∈ is) (h2 : ∀ y ∈ is, y ≤ m) : m = k := by
  cases is with
  | nil => cases h
  | cons a r =>
    cases h
    obtain ⟨g1, g2, g3⟩ := maxI_is r a
    have : m ≤ maxI a r := by
      rcases List.mem_cons.mp h1 with rfl | h1
      · exact g2
      · exact g3 m h1
    have : maxI a r ≤ m := by
      rcases g1 with g1 | g1
      · rw [g1]; exact h2 _ List.mem_cons_self
      · exact h2 _ (List.mem_cons_of_mem _ g1)
    omega
theorem min_one {is : List Int} {k m : Int} (h : minL is = some k) (h1 : m ∈ is) (h2 : ∀ y ∈ is, m ≤ y) : m = k := by
  cases is with
  | nil => cases h
  | cons a r =>
    cases h
    obtain ⟨g1, g2, g3⟩ := minI_is r a
    have : minI a r ≤ m := by
      rcases List.mem_cons.mp h1 with rfl | h1
      · exact g2
      · exact g3 m h1
    have : m ≤ minI a r := by
      rcases g1 with g1 | g1
      · rw [g1]; exact h2 _ List.mem_cons_self
      · exact h2 _ (List.mem_cons_of_mem _ g1)
    omega
theorem ser_maxL : SerC K (rMax K) bMaxL := by
  intro I H vs xs z Q s hx hz d
  unfold bMaxL at hz
  split at hz
  · split at hz
    · rename_i is hb
      cases hm : maxL is with
      | none => rw [hm] at hz; cases hz
      | some k =>
        rw [hm] at hz
        cases hz
        cases hx with
        | cons h t =>
          cases t
          obtain ⟨a, ys, rfl, h1, t1⟩ := h.of_list s
          refine ⟨a, is, rfl, by rw [← ints_rp t1 hb]; exact h1, ?_, fun m g1 g2 => ?_⟩
          · cases is with
            | nil => cases hm
            | cons _ _ => exact Nat.succ_pos _
          · rw [max_one hm g1 g2]; exact d.1 _ Rp.int
    · cases hz
  · cases hz
theorem ser_minL : SerC K (rMin K) bMinL := by
  intro I H vs xs z Q s hx hz d
  unfold bMinL at hz
  split at hz
  · split at hz
    · rename_i is hb
      cases hm : minL is with
      | none => rw [hm] at hz; cases hz
      | some k =>
        rw [hm] at hz
        cases hz
        cases hx with
        | cons h t =>
          cases t
          obtain ⟨a, ys, rfl, h1, t1⟩ := h.of_list s
          refine ⟨a, is, rfl, by rw [← ints_rp t1 hb]; exact h1, ?_, fun m g1 g2 => ?_⟩
          · cases is with
            | nil => cases hm
            | cons _ _ => exact Nat.succ_pos _
          · rw [min_one hm g1 g2]; exact d.1 _ Rp.int
    · cases hz
  · cases hz
def bMax2 : List D → Option D
  | [.int i, .int j] => some (.int (if j > i then j else i))
  | _ => none
def bMin2 : List D → Option D
  | [.int i, .int j] => some (.int (if j < i then j else i))
  | _ => none
theorem ser_max2 : SerC K (fun xs H Q => ∃ i j, xs = [.int i, .int j] ∧ Q (.int (if j > i then j else i)) H) bMax2 := by
  intro I H vs xs z Q s hx hz d
  unfold bMax2 at hz
  split at hz
  · cases hz
    obtain ⟨v, u, rfl, h1, h2⟩ := ros_two hx
    exact ⟨_, _, by rw [h1.of_int, h2.of_int], d.1 _ Rp.int⟩
  · cases hz
theorem ser_min2 : SerC K (fun xs H Q => ∃ i j, xs = [.int i, .int j] ∧ Q (.int (if j < i then j else i)) H) bMin2 := by
  intro I H vs xs z Q s hx hz d
  unfold bMin2 at hz
  split at hz
  · cases hz
    obtain ⟨v, u, rfl, h1, h2⟩ := ros_two hx
    exact ⟨_, _, by rw [h1.of_int, h2.of_int], d.1 _ Rp.int⟩
  · cases hz
def dMaxD : D → D → Option D
  | .list xs, .int k => match ints? xs with
    | some is => some (.int ((maxL is).getD k))
    | none => none
  | _, _ => none
theorem se_maxD {p pos kpos : Pos} {a b : Expr} {f g : Cd Val} {nmD : Option Str} (hc : X.calm = true) (hg : Gl X "max") (hm : X.mg "max" = none) (hv : bootBuiltins "max" = some (.builtin "max")) (ha : SE C X W f a) (hb : SE C X W g b) (h0 : starEach [a] X.env = (false, eval a X.env) :: starEach [] X.env := by rfl)
    (he : backTo pos (starEach [a] X.env) = (false, eval a X.env) :: backTo pos (starEach [] X.env) := by rfl) (hpl : (backTo pos (starEach [a] X.env)).any (·.1) = false := by rfl)
    (hall : (backToKw pos (keywordEach [⟨nmD, b, kpos⟩] X.env)).all (·.1.isSome) = true := by rfl) (hnone : (backToKw pos (keywordEach [⟨nmD, b, kpos⟩] X.env)).any (·.1.isNone) = false := by rfl) (hks : (backToKw pos (keywordEach [⟨nmD, b, kpos⟩] X.env)).filterMap (·.1) = [Str.ofString "default"] := by rfl) :
    SE C X W (cOp dMaxD f g) (.Call (.Name "max" p) [a] [⟨nmD, b, kpos⟩] pos) :=
  PE_imp (pe_callBK (cr_maxDf hc) hg hm hv (pa_cons ha pa_nil h0) (pk_cons hb pk_nil) (by decide) (by decide) he hpl hall hnone hks) fun σ H Q h => by
  obtain ⟨I, β, ρ, μ, s, e, h⟩ := h
  refine ⟨I, β, ρ, μ, s, e, Res.bind h fun v μ1 I1 β1 H1 w q x1 s1 r1 h1 => ?_⟩
  refine ⟨I1, β1, ρ, μ1, s1, e.ext x1, Res.bind h1 fun u μ2 I2 β2 H2 w2 q2 x2 s2 r2 h2 => ?_⟩
  unfold p2 at h2
  split at h2
  · rename_i x y hx hy
    split at h2
    · rename_i z hz
      unfold dMaxD at hz
      split at hz
      · rename_i xs k
        split at hz
        · rename_i is hb
          cases hz
          obtain ⟨a, ys, rfl, g1, t1⟩ := ((r1.mono x2.imm x2.bet x2.len).rd s2 hx).of_list s2.imm
          have hk := (r2.rd s2 hy).of_int
          subst hk
          have dn := Done.of s2 h2
          refine ⟨a, is, .int k, rfl, rfl, by rw [← ints_rp t1 hb]; exact g1, fun hn => ?_, fun m g2 g3 => ?_⟩
          · subst hn
            exact dn.1 _ Rp.int
          · cases hm : maxL is with
            | none =>
              cases is with
              | nil => cases g2
              | cons _ _ => cases hm
            | some k' =>
              rw [hm] at dn
              rw [max_one hm g2 g3]
              exact dn.1 _ Rp.int
        · cases hz
      · cases hz
    · exact h2.elim
  · exact h2.elim
/-! ### l.index(x), l.count(x) -/
def idxD (d : D) : List D → Option Nat
  | [] => none
  | z :: r => if PyData.eqv z d = true then some 0 else (idxD d r).map (· + 1)
theorem idxD_is {d : D} : ∀ {ds : List D} {j : Nat}, idxD d ds = some j → ∃ z, ds[j]? = some z ∧ PyData.eqv z d = true ∧ ∀ (m : Nat) (z' : D), m < j → ds[m]? = some z' → PyData.eqv z' d = false
  | [], j, h => nomatch h
  | z :: r, j, h => by
    unfold idxD at h
    by_cases hz : PyData.eqv z d = true
    · rw [if_pos hz] at h
      cases h
      exact ⟨z, rfl, hz, fun m _ hm => absurd hm (Nat.not_lt_zero _)⟩
    · rw [if_neg hz] at h
      cases e : idxD d r with
      | none => rw [e] at h; cases h
      | some k =>
        rw [e] at h
        cases h
        obtain ⟨y, h1, h2, h3⟩ := idxD_is e
        refine ⟨y, by simpa using h1, h2, fun m z' hm hz' => ?_⟩
        cases m with
        | zero =>
          simp at hz'
          subst hz'
          simpa using hz
        | succ m => exact h3 m z' (Nat.lt_of_succ_lt_succ hm) (by simpa using hz')
def cM (op : D → List D → Option D) (fo : Cd Val) (g : Cd (List Val)) : Cd Val := fun ρ μ => (fo ρ μ).bind fun o μ1 => match rd o μ1 with
  | some (.list _) => (g ρ μ1).bind fun vs μ2 => match rd o μ2, rds vs μ2 with
    | some x, some xs => match op x xs with
      | some z => .ok (.d z) μ2
      | none => .stuck
    | _, _ => .stuck
  | _ => .stuck
def okM (ds : List D) (d : D) : Bool := PyData.canLay0 (.list ds) && PyData.canLay0 d && decide (min (PyData.depthAll ds) d.depth ≤ 64)
def mIndex : D → List D → Option D
  | .list ds, [d] => if okM ds d = true then (idxD d ds).map fun (j : Nat) => PyData.int j else none
  | _, _ => none
def mCount : D → List D → Option D
  | .list ds, [d] => if okM ds d = true then some (.int (ds.countP fun z => PyData.eqv z d : Nat)) else none
  | _, _ => none
/-- l is searched for x -/
def rFind (K : PySem.W.Frag) (r : List D → D → VK → Hp → Prop) : V → List V → Hp → VK → Prop := fun x xs H Q => ∃ (a : Addr) (y : V) (d : D) (ds : List D), x = V.ref a ∧ xs = [y] ∧ Dp K H (V.ref a) (.list ds) ∧ Dp K H y d ∧ okM ds d = true ∧ r ds d Q H
theorem find_go {pins : List (Addr × Obj)} {s : Shared} {σ : L2.St} {H : Hp} {a : Addr} {y : V} {d : D} {ds : List D} {uy : Value} (hu : X.A.units + 65 < cLine) (I : Inv X pins σ H s) (hl : Dp X.K H (V.ref a) (.list ds)) (hy : Dp X.K H y d) (ry : RelV y uy) (ok : okM ds d = true) :
    ∃ (its : List Value) (n : Nat) (dd : Option Addr) (sl : Array (Option Value)), s.heap.get? a = some { cls := .type "list", dict := dd, data := .seq its.toArray n, slots := sl } ∧ its.map (SeqAt.readOf s.heap) = ds ∧ its.length ≤ sizeLine ∧
      ∀ z, z ∈ its.toArray → SeqAt.EqAt X.A.in1 s z uy (PyData.eqv (SeqAt.readOf s.heap z) d) := by
  unfold okM at ok
  simp only [Bool.and_eq_true, decide_eq_true_eq] at ok
  obtain ⟨⟨c1, c2⟩, c3⟩ := ok
  obtain ⟨bs, r1⟩ := Dp.reads I d y uy hy ry
  have hxs : PyData.canLayAll0 ds = true := by simpa [PyData.canLay0] using c1
  cases hl with
  | lst hs ha =>
    obtain ⟨its, rv, ⟨⟨cls, dd, data, sls⟩, n, ho, hc, hdn, hdt⟩, hlen⟩ := I.list hs
    simp only at hc hdt
    subst hc hdt
    obtain ⟨as, h4⟩ := Dp.readsAll I ds _ its ha rv
    have hroom : X.A.units + 1 + min (PyData.depthAll ds) d.depth < cLine := by omega
    exact ⟨its, n, dd, sls, ho, SeqAt.readsAll_map ds its as hxs h4, by rw [← rv.length]; exact hlen, SeqAt.items_eqAt (vs := its.toArray) (show ReadsAll s.heap its.toArray.toList ds as from h4) r1 hxs c2 hroom⟩
theorem mt_index2 (hu : X.A.units + 65 < cLine) : MtR X "list.index" (rFind X.K fun ds d Q H => ∃ j, idxD d ds = some j ∧ Q (.int (j : Nat)) H) := by
  intro pins s σ H x xs v us Q I rx rxs h
  obtain ⟨a, y, d, ds, rfl, rfl, hl, hy, ok, j, hj, q⟩ := h
  cases rx
  obtain ⟨uy, rfl, ry⟩ := rxs.one
  obtain ⟨its, n, dd, sl, ho, hmap, hlen, heq⟩ := find_go hu I hl hy ry ok
  obtain ⟨z, hz, hzj, hno⟩ := idxD_is hj
  have hl2 : its.length = ds.length := by rw [← hmap, List.length_map]
  have hjd := (List.getElem?_eq_some_iff.mp hz).1
  have hj' : j < its.toArray.size := by rw [List.size_toArray]; omega
  have at_ : ∀ (m : Nat) (hm : m < its.toArray.size) (z' : PyData), ds[m]? = some z' → SeqAt.readOf s.heap its.toArray[m] = z' := by
    intro m hm w hw
    have hml : m < its.length := by simpa using hm
    rw [← hmap, List.getElem?_map, List.getElem?_eq_getElem hml] at hw
    simpa using hw
  refine call_meets PySem.F.slot_list_index ⟨_, ho, rfl⟩ PySem.F.entry_list_index (PySem.F.args_list_index_2 _ _) (SeqAt.list_indexAt a its.toArray n dd sl uy (fun u => PyData.eqv (SeqAt.readOf s.heap u) d) j hj' (by rw [sizeLine_eq] at hlen; omega) ?_ ?_) ⟨ho, heq, ?_⟩
  · show PyData.eqv (SeqAt.readOf s.heap its.toArray[j]) d = true
    rw [at_ j hj' z hz, hzj]
  · intro m hm hmj
    have hmd : m < ds.length := by omega
    show PyData.eqv (SeqAt.readOf s.heap its.toArray[m]) d = false
    rw [at_ m hm _ (List.getElem?_eq_getElem hmd), hno m _ hmj (List.getElem?_eq_getElem hmd)]
  · exact ⟨.int (j : Nat), H, I.tok _, ⟨_, rfl⟩, q⟩
theorem mt_count2 (hu : X.A.units + 65 < cLine) : MtR X "list.count" (rFind X.K fun ds d Q H => Q (.int (ds.countP fun z => PyData.eqv z d : Nat)) H) := by
  intro pins s σ H x xs v us Q I rx rxs h
  obtain ⟨a, y, d, ds, rfl, rfl, hl, hy, ok, q⟩ := h
  cases rx
  obtain ⟨uy, rfl, ry⟩ := rxs.one
  obtain ⟨its, n, dd, sl, ho, hmap, hlen, heq⟩ := find_go hu I hl hy ry ok
  refine call_meets PySem.F.slot_list_count ⟨_, ho, rfl⟩ PySem.F.entry_list_count (PySem.F.args_list_count_2 _ _) (SeqAt.list_countAt a its.toArray n dd sl uy (fun u => PyData.eqv (SeqAt.readOf s.heap u) d)) ⟨ho, heq, ?_⟩
  have e : its.countP (fun u => PyData.eqv (SeqAt.readOf s.heap u) d) = ds.countP fun z => PyData.eqv z d := by
    rw [← hmap, List.countP_map]
    rfl
  refine ⟨.int (ds.countP fun z => PyData.eqv z d : Nat), H, I.tok _, ⟨s.toks, ?_⟩, q⟩
  show Value.int ((its.toArray.toList.countP _ : Nat) : Int) s.toks = _
  rw [show its.toArray.toList = its from rfl, e]
/-- a method of a list that reads -/
theorem se_meth {o e : Expr} {nm : Str} {id : String} {apos cpos : Pos} {op : D → List D → Option D} {r : List D → D → VK → Hp → Prop} {fo : Cd Val} {g : Cd (List Val)} (slot : Slot "list" nm id) (hty : typeOf (.builtin id) = pure (.type "method_descriptor")) (hm : MtR X id (rFind X.K r))
    (hop : ∀ x xs z, op x xs = some z → ∃ ds d, x = .list ds ∧ xs = [d] ∧ okM ds d = true ∧ ∀ (H : Hp) (Q : D → Hp → Prop), Q z H → r ds d (fun v H' => ∃ i : Int, z = .int i ∧ v = .int i ∧ Q z H') H)
    (hi : ∀ x xs z, op x xs = some z → ∃ i : Int, z = .int i) (hmono : ∀ ds d H (Q Q' : VK), (∀ v, Q v H → Q' v H) → r ds d Q H → r ds d Q' H)
    (ho : SE C X W fo o) (ha : SA C X W g [e])
    (hbase : attributeBase o nm X.env (eval o X.env) = eval o X.env := by rfl)
    (hfew : ((backTo cpos (starEach [e] X.env)).all (fun x => !x.1) && (backToKw cpos (keywordEach [] X.env)).all (fun x => x.1.isSome)
      && decide ([e].length + ([] : List Keyword).length + (if ([] : List Keyword).isEmpty then 0 else 1) < 30)) = true := by rfl)
    (hline : (apos.endLine == cpos.line) = true := by rfl) (hst : starEach [e] X.env = (false, eval e X.env) :: starEach [] X.env := by rfl) (hplain : (backTo cpos (starEach [] X.env)).any (·.1) = false := by rfl) :
    SE C X W (cM op fo g) (.Call (.Attribute o nm apos) [e] [] cpos) :=
  PE_imp (pe_bm PySem.F.plainAttrs_list slot hty hm ho ha hbase hfew hline hst hplain) fun σ H Q h => by
  obtain ⟨I, β, ρ, μ, s, e, h⟩ := h
  refine ⟨I, β, ρ, μ, s, e, Res.bind h fun v μ1 I1 β1 H1 w q x1 s1 r1 h1 => ?_⟩
  split at h1
  · rename_i xs0 hx0
    obtain ⟨a, ys, rfl, g1, t1⟩ := (r1.rd s1 hx0).of_list s1.imm
    refine ⟨.inl ⟨rfl, ys, g1⟩, I1, β1, ρ, μ1, s1, e.ext x1, Res.bind h1 fun vs μ2 I2 β2 H2 ws q2 x2 s2 r2 h2 => ?_⟩
    split at h2
    · rename_i x xs hx hxs
      split at h2
      · rename_i z hz
        obtain ⟨ds, d, rfl, rfl, ok, hr⟩ := hop _ _ _ hz
        obtain ⟨i, rfl⟩ := hi _ _ _ hz
        obtain ⟨u, rfl, hu⟩ := ros_one (rds_ro s2 r2 hxs)
        have hl := ((r1.mono x2.imm x2.bet x2.len).rd s2 hx).inH s2.imm
        have hd := hu.inH s2.imm
        refine ⟨a, u, d, ds, rfl, rfl, hl.dp, hd.dp, ok, hmono _ _ _ _ _ ?_ (hr H2 (fun _ _ => True) trivial)⟩
        rintro v ⟨k, hk, rfl, _⟩
        cases hk
        exact Res.here s2 h2 Rp.int
      · exact h2.elim
    · exact h2.elim
  · exact h1.elim
theorem op_mIndex : ∀ x xs z, mIndex x xs = some z → ∃ ds d, x = .list ds ∧ xs = [d] ∧ okM ds d = true ∧ ∀ H (Q : D → Hp → Prop), Q z H → (fun ds d (Q : VK) (H : Hp) => ∃ j, idxD d ds = some j ∧ Q (.int (j : Nat)) H) ds d (fun v H' => ∃ i : Int, z = .int i ∧ v = .int i ∧ Q z H') H := by
  intro x xs z h
  unfold mIndex at h
  split at h
  · rename_i ds d
    split at h
    · rename_i ok
      cases hj : idxD d ds with
      | none => rw [hj] at h; cases h
      | some j =>
        rw [hj] at h
        cases h
        exact ⟨ds, d, rfl, rfl, ok, fun H Q q => ⟨j, hj, (j : Int), rfl, rfl, q⟩⟩
    · cases h
  · cases h
theorem op_mCount : ∀ x xs z, mCount x xs = some z → ∃ ds d, x = .list ds ∧ xs = [d] ∧ okM ds d = true ∧ ∀ H (Q : D → Hp → Prop), Q z H → (fun ds d (Q : VK) (H : Hp) => Q (.int (ds.countP fun z => PyData.eqv z d : Nat)) H) ds d (fun v H' => ∃ i : Int, z = .int i ∧ v = .int i ∧ Q z H') H := by
  intro x xs z h
  unfold mCount at h
  split at h
  · rename_i ds d
    split at h
    · rename_i ok
      cases h
      exact ⟨ds, d, rfl, rfl, ok, fun H Q q => ⟨_, rfl, rfl, q⟩⟩
    · cases h
  · cases h
theorem int_mIndex : ∀ x xs z, mIndex x xs = some z → ∃ i : Int, z = .int i := fun x xs z h => by
  obtain ⟨ds, d, _, _, _, h⟩ := op_mIndex x xs z h
  obtain ⟨j, _, i, h1, _⟩ := h (fun _ => none) (fun _ _ => True) trivial
  exact ⟨i, h1⟩
theorem int_mCount : ∀ x xs z, mCount x xs = some z → ∃ i : Int, z = .int i := fun x xs z h => by
  obtain ⟨ds, d, _, _, _, h⟩ := op_mCount x xs z h
  obtain ⟨i, h1, _⟩ := h (fun _ => none) (fun _ _ => True) trivial
  exact ⟨i, h1⟩
theorem se_index {o e : Expr} {apos cpos : Pos} {fo : Cd Val} {g : Cd (List Val)} (hu : X.A.units + 65 < cLine) (ho : SE C X W fo o) (ha : SA C X W g [e])
    (hbase : attributeBase o "index" X.env (eval o X.env) = eval o X.env := by rfl)
    (hfew : ((backTo cpos (starEach [e] X.env)).all (fun x => !x.1) && (backToKw cpos (keywordEach [] X.env)).all (fun x => x.1.isSome)
      && decide ([e].length + ([] : List Keyword).length + (if ([] : List Keyword).isEmpty then 0 else 1) < 30)) = true := by rfl)
    (hline : (apos.endLine == cpos.line) = true := by rfl) (hst : starEach [e] X.env = (false, eval e X.env) :: starEach [] X.env := by rfl) (hplain : (backTo cpos (starEach [] X.env)).any (·.1) = false := by rfl) :
    SE C X W (cM mIndex fo g) (.Call (.Attribute o "index" apos) [e] [] cpos) :=
  se_meth PySem.F.slot_list_index PySem.F.type_list_index (mt_index2 hu) op_mIndex int_mIndex (fun ds d H Q Q' k ⟨j, h1, h2⟩ => ⟨j, h1, k _ h2⟩) ho ha hbase hfew hline hst hplain
theorem se_count {o e : Expr} {apos cpos : Pos} {fo : Cd Val} {g : Cd (List Val)} (hu : X.A.units + 65 < cLine) (ho : SE C X W fo o) (ha : SA C X W g [e])
    (hbase : attributeBase o "count" X.env (eval o X.env) = eval o X.env := by rfl)
    (hfew : ((backTo cpos (starEach [e] X.env)).all (fun x => !x.1) && (backToKw cpos (keywordEach [] X.env)).all (fun x => x.1.isSome)
      && decide ([e].length + ([] : List Keyword).length + (if ([] : List Keyword).isEmpty then 0 else 1) < 30)) = true := by rfl)
    (hline : (apos.endLine == cpos.line) = true := by rfl) (hst : starEach [e] X.env = (false, eval e X.env) :: starEach [] X.env := by rfl) (hplain : (backTo cpos (starEach [] X.env)).any (·.1) = false := by rfl) :
    SE C X W (cM mCount fo g) (.Call (.Attribute o "count" apos) [e] [] cpos) :=
  se_meth PySem.F.slot_list_count PySem.F.type_list_count (mt_count2 hu) op_mCount int_mCount (fun ds d H Q Q' k h => k _ h) ho ha hbase hfew hline hst hplain
end
end FW


set_option Elab.async false
set_option linter.all false
set_option maxRecDepth 100000
set_option maxHeartbeats 4000000
/-! # More constructs: ranges, writing lists -/
namespace FW
open PySem PySem.Spec PyProof.Rows L2
section
variable {C : Ctx} {X : Cx} {W : WX} {pos : Pos} {K : PySem.W.Frag} {tg : Expr}
/-! ### range of three -/
def rng3 (lo c : Int) (n : Nat) : List D := (List.range n).map fun (k : Nat) => PyData.int (lo + (k : Int) * c)
theorem rng3_len (lo c : Int) (n : Nat) : (rng3 lo c n).length = n := by simp [rng3]
theorem rng3_get {lo c : Int} {n i : Nat} {d : D} (h : (rng3 lo c n)[i]? = some d) : d = .int (lo + (i : Int) * c) := by
  unfold rng3 at h
  rw [List.getElem?_map] at h
  cases q : (List.range n)[i]? with
  | none => rw [q] at h; cases h
  | some k =>
    rw [q] at h
    obtain ⟨h1, h2⟩ := List.getElem?_eq_some_iff.mp q
    rw [List.getElem_range] at h2
    subst h2
    cases h
    rfl
theorem walk_rng3 {I : Hp} {β : Nat → Addr} {m : Nat} {lo c : Int} {n : Nat} : WalkOk K I β m (rng3 lo c n, none) (Itc lo c n) where
  lt := fun l e => nomatch e
  go := fun I2 β2 H i _ _ w hi => by rw [rng3_len] at hi; exact hi
  stop := fun I2 β2 H _ _ w => by rw [rng3_len]; exact Nat.le_refl _
  yld := fun I2 β2 H i x H' d _ _ w hd y => by
    obtain ⟨e, q⟩ := y
    rw [rng3_get hd, q]
    exact .inl ⟨e, Rp.int⟩
def ok3 (a b c : Int) : Bool := decide (c ≠ 0 ∧ c.natAbs < 1073741824) && Builtin.Range.small a b c && decide (0 ≤ Builtin.Range.rangeSize a b c)
def iR3 (f : Cd (List Val)) : Cd Walked := fun ρ μ => (f ρ μ).bind fun vs μ1 => match rds vs μ1 with
  | some [.int a, .int b, .int c] => if ok3 a b c = true then .ok (rng3 a c (Builtin.Range.rangeSize a b c).toNat, none) μ1 else .stuck
  | _ => .stuck
theorem ros_three {I H : Hp} {vs : List V} {x y z : D} (h : ROs K I H vs [x, y, z]) : ∃ v u w, vs = [v, u, w] ∧ RO K I H v x ∧ RO K I H u y ∧ RO K I H w z := by
  cases h with
  | cons h t =>
    obtain ⟨u, w, rfl, h1, h2⟩ := ros_two t
    exact ⟨_, u, w, rfl, h, h1, h2⟩
theorem si_r3 {a b c : Expr} {f : Cd (List Val)} {p pos : Pos} (hg : Gl X "range") (hm : X.mg "range" = none) (ha : SA C X W f [a, b, c])
    (hs1 : starEach [a, b, c] X.env = (false, eval a X.env) :: starEach [b, c] X.env := by rfl) (hpl : (backTo pos (starEach [b, c] X.env)).any (·.1) = false := by rfl) :
    SI C X W tg (iR3 f) (.Call (.Name "range" p) [a, b, c] [] pos) := PI_imp (pi_range3 hg hm ha hs1 hpl) fun σ H R h => by
  obtain ⟨I, β, ρ, μ, s, e, h⟩ := h
  refine ⟨I, β, ρ, μ, s, e, Res.bind h fun vs μ1 I1 β1 H1 ws q x1 s1 r1 h1 => ?_⟩
  split at h1
  · rename_i a' b' c' hx
    split at h1
    · rename_i hl
      unfold ok3 at hl
      simp only [Bool.and_eq_true, decide_eq_true_eq] at hl
      obtain ⟨v, u, w, rfl, g1, g2, g3⟩ := ros_three (rds_ro s1 r1 hx)
      exact ⟨a', b', c', _, by rw [g1.of_int, g2.of_int, g3.of_int], ⟨hl.1.1.1, hl.1.1.2, hl.1.2, by omega⟩, Res.here s1 h1 walk_rng3⟩
    · exact h1.elim
  · exact h1.elim
/-! ### tuple(range(..)), list(range(..)) -/
def okRg (a b : Int) : Bool := decide (-(2 ^ 62) ≤ a ∧ a < 2 ^ 62 ∧ -(2 ^ 62) ≤ b ∧ b < 2 ^ 62 ∧ (b - a).toNat ≤ 100000)
theorem okRg_of {a b : Int} (h : okRg a b = true) : RgOk a b := by
  have h := of_decide_eq_true h
  exact ⟨h.1, h.2.1, h.2.2.1, h.2.2.2.1, by omega⟩
theorem rgV_rp {I : Hp} (a b : Int) : RpAll K I (rgV a b) (rng a (b - a).toNat) := by
  unfold rgV rng
  generalize List.range (b - a).toNat = l
  induction l with
  | nil => exact .nil
  | cons x r ih => exact .cons Rp.int ih
def cRg (t : Bool) (f : Cd (List Val)) : Cd Val := fun ρ μ => (f ρ μ).bind fun vs μ1 => match rds vs μ1 with
  | some [.int n] => if okRg 0 n = true then .ok (.d (if t = true then .tuple (rng 0 (n - 0).toNat) else .list (rng 0 (n - 0).toNat))) μ1 else .stuck
  | some [.int a, .int b] => if okRg a b = true then .ok (.d (if t = true then .tuple (rng a (b - a).toNat) else .list (rng a (b - a).toNat))) μ1 else .stuck
  | _ => .stuck
theorem cRg_one {t : Bool} {f : Cd Val} {σ : L2.St} {H : Hp} {Q : VK} (h : tE C X.K W (cRg t (aCons f aNil)) σ H Q) : tRg1 (tE C X.K W f) σ H fun a b H1 => RgOk a b ∧ ∀ q, H1 q = none → Q (.ref q) (upd H1 q (if t = true then .tup (rgV a b) else .lst (rgV a b))) := by
  obtain ⟨I, β, ρ, μ, s, e, h⟩ := h
  have h : Res C X.K W σ I β μ H (RV C X.K) Q (((f ρ μ).bind fun v μ1 => .ok [v] μ1).bind fun vs μ1 => match rds vs μ1 with
    | some [.int n] => if okRg 0 n = true then .ok (.d (if t = true then .tuple (rng 0 (n - 0).toNat) else .list (rng 0 (n - 0).toNat))) μ1 else .stuck
    | some [.int a, .int b] => if okRg a b = true then .ok (.d (if t = true then .tuple (rng a (b - a).toNat) else .list (rng a (b - a).toNat))) μ1 else .stuck
    | _ => .stuck) := h
  have h : Res C X.K W σ I β μ H (RV C X.K) Q ((f ρ μ).bind fun v μ1 => match rds [v] μ1 with
    | some [.int n] => if okRg 0 n = true then .ok (.d (if t = true then .tuple (rng 0 (n - 0).toNat) else .list (rng 0 (n - 0).toNat))) μ1 else .stuck
    | some [.int a, .int b] => if okRg a b = true then .ok (.d (if t = true then .tuple (rng a (b - a).toNat) else .list (rng a (b - a).toNat))) μ1 else .stuck
    | _ => .stuck) := by cases hf : f ρ μ <;> rw [hf] at h <;> exact h
  refine ⟨I, β, ρ, μ, s, e, Res.bind h fun v μ1 I1 β1 H1 w q x1 s1 r1 h1 => ?_⟩
  split at h1
  · rename_i n hx
    split at h1
    · rename_i hk
      have hv : rd v μ1 = some (.int n) := by
        simp only [rds] at hx
        cases hr : rd v μ1 with
        | none => rw [hr] at hx; cases hx
        | some z => rw [hr] at hx; cases hx; rfl
      have dn := Done.of s1 h1
      refine ⟨n, (r1.rd s1 hv).of_int, okRg_of hk, fun p hp => ?_⟩
      cases t with
      | true => exact dn.tup s1.imm (rgV_rp 0 n) p hp
      | false => exact dn.lst s1.imm (rgV_rp 0 n) p hp
    · exact h1.elim
  · rename_i a b hx
    simp only [rds] at hx
    split at hx <;> cases hx
    rename_i hh
    cases hh
  · exact h1.elim
theorem cRg_two {t : Bool} {f g : Cd Val} {σ : L2.St} {H : Hp} {Q : VK} (h : tE C X.K W (cRg t (aCons f (aCons g aNil))) σ H Q) : tRg2 (tE C X.K W f) (tE C X.K W g) σ H fun a b H1 => RgOk a b ∧ ∀ q, H1 q = none → Q (.ref q) (upd H1 q (if t = true then .tup (rgV a b) else .lst (rgV a b))) := by
  obtain ⟨I, β, ρ, μ, s, e, h⟩ := h
  have h : Res C X.K W σ I β μ H (RV C X.K) Q ((f ρ μ).bind fun v μ1 => (g ρ μ1).bind fun u μ2 => match rds [v, u] μ2 with
    | some [.int n] => if okRg 0 n = true then .ok (.d (if t = true then .tuple (rng 0 (n - 0).toNat) else .list (rng 0 (n - 0).toNat))) μ2 else .stuck
    | some [.int a, .int b] => if okRg a b = true then .ok (.d (if t = true then .tuple (rng a (b - a).toNat) else .list (rng a (b - a).toNat))) μ2 else .stuck
    | _ => .stuck) := by
    unfold cRg aCons aNil at h
    cases hf : f ρ μ with
    | ok v μ1 =>
      rw [hf] at h
      show Res C X.K W σ I β μ H (RV C X.K) Q ((g ρ μ1).bind _)
      cases hg : g ρ μ1 with
      | ok u μ2 => simp only [R.bind, hg] at h ⊢; exact h
      | exc _ _ _ => simp only [R.bind, hg] at h ⊢; exact h
      | stuck => simp only [R.bind, hg] at h ⊢; exact h
    | exc _ _ _ => rw [hf] at h; exact h
    | stuck => rw [hf] at h; exact h
  refine ⟨I, β, ρ, μ, s, e, Res.bind h fun v μ1 I1 β1 H1 w q x1 s1 r1 h1 => ?_⟩
  refine ⟨I1, β1, ρ, μ1, s1, e.ext x1, Res.bind h1 fun u μ2 I2 β2 H2 w2 q2 x2 s2 r2 h2 => ?_⟩
  split at h2
  · rename_i n hx
    simp only [rds] at hx
    split at hx <;> cases hx
    rename_i hh
    split at hh <;> cases hh
  · rename_i a b hx
    split at h2
    · rename_i hk
      have hv : rd v μ2 = some (.int a) ∧ rd u μ2 = some (.int b) := by
        simp only [rds] at hx
        cases hr : rd v μ2 with
        | none => rw [hr] at hx; cases hx
        | some z =>
          cases hr2 : rd u μ2 with
          | none => rw [hr, hr2] at hx; cases hx
          | some z2 => rw [hr, hr2] at hx; cases hx; exact ⟨rfl, rfl⟩
      have dn := Done.of s2 h2
      refine ⟨a, b, ((r1.mono x2.imm x2.bet x2.len).rd s2 hv.1).of_int, (r2.rd s2 hv.2).of_int, okRg_of hk, fun p hp => ?_⟩
      cases t with
      | true => exact dn.tup s2.imm (rgV_rp a b) p hp
      | false => exact dn.lst s2.imm (rgV_rp a b) p hp
    · exact h2.elim
  · exact h2.elim
theorem se_tupRg1 {a : Expr} {f : Cd Val} {p p' q pos : Pos} (hc : X.calm = true) (hg : Gl X "tuple") (hm : X.mg "tuple" = none) (hg2 : Gl X "range") (hm2 : X.mg "range" = none) (ha : SE C X W f a) (na : starEach [a] X.env = (false, eval a X.env) :: starEach [] X.env := by rfl)
    (nb : starEach [.Call (.Name "range" p') [a] [] q] X.env = (false, eval (.Call (.Name "range" p') [a] [] q) X.env) :: starEach [] X.env := by rfl) : SE C X W (cRg true (aCons f aNil)) (.Call (.Name "tuple" p) [.Call (.Name "range" p') [a] [] q] [] pos) :=
  PE_imp (pe_tupRg hc hg hm (prg_1 hg2 hm2 ha na) nb) fun σ H Q h => cRg_one h
theorem se_tupRg2 {a b : Expr} {f g : Cd Val} {p p' q pos : Pos} (hc : X.calm = true) (hg : Gl X "tuple") (hm : X.mg "tuple" = none) (hg2 : Gl X "range") (hm2 : X.mg "range" = none) (ha : SE C X W f a) (hb : SE C X W g b) (na : starEach [a, b] X.env = (false, eval a X.env) :: starEach [b] X.env := by rfl) (na2 : starEach [b] X.env = (false, eval b X.env) :: starEach [] X.env := by rfl)
    (nc : (backTo q (starEach [b] X.env)).any (·.1) = false := by rfl) (nb : starEach [.Call (.Name "range" p') [a, b] [] q] X.env = (false, eval (.Call (.Name "range" p') [a, b] [] q) X.env) :: starEach [] X.env := by rfl) : SE C X W (cRg true (aCons f (aCons g aNil))) (.Call (.Name "tuple" p) [.Call (.Name "range" p') [a, b] [] q] [] pos) :=
  PE_imp (pe_tupRg hc hg hm (prg_2 hg2 hm2 ha hb na na2 nc) nb) fun σ H Q h => cRg_two h
theorem se_lstRg1 {a : Expr} {f : Cd Val} {p p' q pos : Pos} (hc : X.calm = true) (hg : Gl X "list") (hm : X.mg "list" = none) (hg2 : Gl X "range") (hm2 : X.mg "range" = none) (ha : SE C X W f a) (na : starEach [a] X.env = (false, eval a X.env) :: starEach [] X.env := by rfl)
    (nb : starEach [.Call (.Name "range" p') [a] [] q] X.env = (false, eval (.Call (.Name "range" p') [a] [] q) X.env) :: starEach [] X.env := by rfl) : SE C X W (cRg false (aCons f aNil)) (.Call (.Name "list" p) [.Call (.Name "range" p') [a] [] q] [] pos) :=
  PE_imp (pe_listRg hc hg hm (prg_1 hg2 hm2 ha na) nb) fun σ H Q h => cRg_one h
theorem se_lstRg2 {a b : Expr} {f g : Cd Val} {p p' q pos : Pos} (hc : X.calm = true) (hg : Gl X "list") (hm : X.mg "list" = none) (hg2 : Gl X "range") (hm2 : X.mg "range" = none) (ha : SE C X W f a) (hb : SE C X W g b) (na : starEach [a, b] X.env = (false, eval a X.env) :: starEach [b] X.env := by rfl) (na2 : starEach [b] X.env = (false, eval b X.env) :: starEach [] X.env := by rfl)
    (nc : (backTo q (starEach [b] X.env)).any (·.1) = false := by rfl) (nb : starEach [.Call (.Name "range" p') [a, b] [] q] X.env = (false, eval (.Call (.Name "range" p') [a, b] [] q) X.env) :: starEach [] X.env := by rfl) : SE C X W (cRg false (aCons f (aCons g aNil))) (.Call (.Name "list" p) [.Call (.Name "range" p') [a, b] [] q] [] pos) :=
  PE_imp (pe_listRg hc hg hm (prg_2 hg2 hm2 ha hb na na2 nc) nb) fun σ H Q h => cRg_two h
/-! ### bits -/
def dAnd : D → D → Option D
  | .int i, .int j => some (.int (Builtin.bitAnd i j))
  | _, _ => none
def dXor : D → D → Option D
  | .int i, .int j => some (.int (Builtin.bitXor i j))
  | _, _ => none
theorem ser_and : Ser K (rI0 fun i j => .int (Builtin.bitAnd i j)) dAnd := by
  intro I H v u x y z Q s hx hy hz d
  unfold dAnd at hz
  split at hz
  · cases hz; exact ⟨_, _, hx.of_int, hy.of_int, d.1 _ Rp.int⟩
  · cases hz
theorem ser_xor : Ser K (rI0 fun i j => .int (Builtin.bitXor i j)) dXor := by
  intro I H v u x y z Q s hx hy hz d
  unfold dXor at hz
  split at hz
  · cases hz; exact ⟨_, _, hx.of_int, hy.of_int, d.1 _ Rp.int⟩
  · cases hz
/-! ### a, b, c = x, y, z -/
def sPar3 (i j l : Nat) (f g k : Cd Val) : Sc := fun n0 ρ μ => lift (f ρ μ) ρ fun v μ1 => lift (g ρ μ1) ρ fun u μ2 => lift (k ρ μ2) ρ fun w μ3 => .next (((ρ.set i (some v)).set j (some u)).set l (some w)) μ3
theorem ss_par3 {i j l : Nat} {x y z : Str} {a b c : Expr} {f g k : Cd Val} {px py pz pt : Pos} {kt k2 pt2} (hc : X.calm = true) (hN : X.N.Nodup) (hi : X.N[i]? = some x) (hj : X.N[j]? = some y) (hl : X.N[l]? = some z) (hij : i ≠ j) (hil : i ≠ l) (hjl : j ≠ l)
    (hx : X.env.scope.names.lookup x = some .local) (hy : X.env.scope.names.lookup y = some .local) (hz : X.env.scope.names.lookup z = some .local) (ha : SE C X W f a) (hb : SE C X W g b) (hk : SE C X W k c)
    (hw : swappedStores [.Tuple [.Name x px, .Name y py, .Name z pz] kt pt] (.Tuple [a, b, c] k2 pt2) X.env = pure (some [x, y, z]))
    (hs : swapsWithSole [.Tuple [.Name x px, .Name y py, .Name z pz] kt pt] (.Tuple [a, b, c] k2 pt2) pos.line X.env = pure false := by rfl) (h1 : starEach [a, b, c] X.env = (false, eval a X.env) :: starEach [b, c] X.env := by rfl) (h2 : starEach [b, c] X.env = (false, eval b X.env) :: starEach [c] X.env := by rfl) (h3 : starEach [c] X.env = (false, eval c X.env) :: starEach [] X.env := by rfl) :
    SS C X W (sPar3 i j l f g k) (.Assign [.Tuple [.Name x px, .Name y py, .Name z pz] kt pt] (.Tuple [a, b, c] k2 pt2) pos) := PS_imp (ps_par3 hc hN hi hj hl hij hil hjl hx hy hz (pa_cons ha (pa_cons hb (pa_cons hk pa_nil h3) h2) h1) hw hs) fun D σ H h => by
  obtain ⟨n0, I, β, ρ, μ, hn, s, e, h⟩ := h
  refine ⟨I, β, ρ, μ, s, e, OutOk.bind hn e h fun v μ1 I1 β1 H1 w q x1 s1 n1 r1 h1 => ?_⟩
  refine ⟨I1, β1, ρ, μ1, s1, e.ext x1, OutOk.bind n1 (e.ext x1) h1 fun u μ2 I2 β2 H2 w2 q2 x2 s2 n2 r2 h2 => ?_⟩
  refine ⟨I2, β2, ρ, μ2, s2, (e.ext x1).ext x2, OutOk.bind n2 ((e.ext x1).ext x2) h2 fun t μ3 I3 β3 H3 w3 q3 x3 s3 n3 r3 h3 => ?_⟩
  exact ⟨_, _, _, rfl, OutOk.here n3 s3 ((((((e.ext x1).ext x2).ext x3).set ((r1.mono x2.imm x2.bet x2.len).mono x3.imm x3.bet x3.len)).set (r2.mono x3.imm x3.bet x3.len)).set r3) h3⟩
/-! ### c[i] += e of a list -/
theorem get_list : PGet X (rIxL X.K) := by
  intro pins s σ H o i ov iv Q I ro ri h
  obtain ⟨p, xs, k, z, rfl, rfl, hq, he, q⟩ := h
  cases ro
  obtain ⟨t, rfl⟩ := ri
  obtain ⟨its, r, pl, hz⟩ := I.list hq
  obtain ⟨j, h1, h2, h3, h4, h5⟩ := atI_get he
  obtain ⟨w, ew, rw'⟩ := r.get h2
  have hl := r.length
  have hn := line63
  have fin : EP X pins σ Q w s := ⟨z, H, I, rw', q⟩
  by_cases h0 : 0 ≤ k
  · have hj : k.toNat = j := by
      have g := h1
      rw [seqIndex_of h0 h5] at g
      exact Option.some.inj g
    exact wpAny_getItem_list pl.isList h0 (by omega) (by rw [hj]; simpa using ew) fin
  · have hj : (k + (its.toArray.size : Int)).toNat = j := by
      have g := h1
      rw [seqIndex_neg (by omega) h4] at g
      rw [List.size_toArray, ← hl]
      exact Option.some.inj g
    exact wpAny_getItem_list_neg pl.isList (by omega) (by rw [List.size_toArray]; omega) (by omega) (by rw [hj]; simpa using ew) fin
def sAugP (o : D → D → Option D) (fo fi fe : Cd Val) : Sc := fun n0 ρ μ => lift (fo ρ μ) ρ fun ov μ1 => lift (fi ρ μ1) ρ fun k μ2 => match ov, rd k μ2 with
  | .loc l, some (.int j) => match μ2[l]? with
    | some (.lst xs) => match atI xs j with
      | some x => lift (fe ρ μ2) ρ fun v μ3 => match rd v μ3 with
        | some y => match o x y, μ3[l]? with
          | some z, some (.lst xs2) => match ixN xs2.length j with
            | some m => .next ρ (μ3.set l (.lst (xs2.set m z)))
            | none => .stuck
          | _, _ => .stuck
        | none => .stuck
      | none => .stuck
    | _ => .stuck
  | _, _ => .stuck
theorem ss_augP {ox i e : Expr} {fo fi fe : Cd Val} {tpos : Pos} {op : Operator} {g : Int → Int → Int} {o : D → D → Option D} (hp : PIp X op (ipI g)) (hd : IpS o g) (ho : SE C X W fo ox) (hi : SE C X W fi i) (he : SE C X W fe e)
    (ha : ∀ ov iv new, augStore i ov iv new = (do holding [new, ov, iv] (setItem ov iv new); release [new, ov, iv] []; pure .next) := by intros; rfl) : SS C X W (sAugP o fo fi fe) (.AugAssign (.Subscript ox i tpos) op e pos) :=
  PS_imp (ps_augS ho hi get_list he hp set_list ha) fun D σ H h => by
  obtain ⟨n0, I, β, ρ, μ, hn, s, e, h⟩ := h
  refine ⟨I, β, ρ, μ, s, e, OutOk.bind hn e h fun ov μ1 I1 β1 H1 w q x1 s1 n1 r1 h1 => ?_⟩
  refine ⟨I1, β1, ρ, μ1, s1, e.ext x1, OutOk.bind n1 (e.ext x1) h1 fun k μ2 I2 β2 H2 w2 q2 x2 s2 n2 r2 h2 => ?_⟩
  split at h2
  · rename_i l j hj
    split at h2
    · rename_i xs hc
      split at h2
      · rename_i x hx
        obtain ⟨rfl, hl⟩ := r1.mono x2.imm x2.bet x2.len
        have hw2 := (r2.rd s2 hj).of_int
        subst hw2
        obtain ⟨ys, g1, t1⟩ := s2.cell l _ hc
        obtain ⟨u, hu, ru⟩ := atI_rp t1 hx
        refine ⟨β2 l, ys, j, u, rfl, rfl, SqL.of g1, hu, I2, β2, ρ, μ2, s2, (e.ext x1).ext x2, OutOk.bind n2 ((e.ext x1).ext x2) h2 fun v μ3 I3 β3 H3 w3 q3 x3 s3 n3 r3 h3 => ?_⟩
        split at h3
        · rename_i y hy
          split at h3
          · rename_i z xs2 hz hc2
            split at h3
            · rename_i m hm
              obtain ⟨a, b, rfl, rfl, rfl⟩ := hd _ _ _ hz
              have hw3 := (r3.rd s3 hy).of_int
              subst hw3
              obtain ⟨ys2, g2, t2⟩ := s3.cell l _ hc2
              have hl3 : l < μ3.length := Nat.lt_of_lt_of_le hl x3.len
              have eb : β2 l = β3 l := (x3.bet l hl).symm
              have hu' := (x3.imm.rp ru).of_int
              obtain ⟨s', x'⟩ := s3.put hl3 (t2.set (Rp.int (i := g a b)) m)
              refine ⟨a, b, hu', rfl, β2 l, ys2, j, m, rfl, rfl, by rw [eb]; exact g2, by rw [t2.length]; exact hm, ?_⟩
              rw [eb]
              exact h3 I3 β3 σ _ (x'.lower n3 (Nat.le_refl _)) s' ((((e.ext x1).ext x2).ext x3).ext x')
            · exact h3.elim
          · exact h3.elim
        · exact h3.elim
      · exact h2.elim
    · exact h2.elim
  · exact h2.elim
/-! ### l.extend(e) of any list -/
theorem ext_any (l : Addr) (xs : Array Value) (n : Nat) (b : Addr) (ys : Array Value) (k : Nat) (dd : Option Addr) (sl : Array (Option Value)) (h0 : ¬(!xs.isEmpty && Builtin.List.listTooLong (xs.size + ys.size)) = true) (h1 : xs.size ≤ sizeLine) (h2 : xs.size + ys.size ≤ sizeLine + 1) :
    Meets (Builtin.«list.extend» ⟨[.ref l, .ref b], []⟩) (fun _ R s => s.heap.get? l = some { cls := .type "list", dict := none, data := .seq xs n, slots := #[] } ∧ s.heap.get? b = some { cls := .type "list", dict := dd, data := .seq ys k, slots := sl } ∧ R (.ok (.ret Value.none)) { s with heap := s.heap.update l (Obj.mapSeq fun x => x ++ ys), toks := s.toks }) :=
  .of_wp fun P w A R s h => by
    obtain ⟨hp, gg, dr, tk, os⟩ := s; obtain ⟨hl, hb, h⟩ := h; have g1 := PySem.AutoSeq1.idx_int; have g2 := PySem.AutoSeq1.sub_tuple_tuple; have g3 := PySem.AutoSeq1.sub_list_list; have g4 := PySem.AutoSeq1.sub_tuple_list; have g5 := PySem.AutoSeq1.sub_list_tuple
    have hz : (xs ++ ys).size ≤ sizeLine + 1 := by rw [Array.size_append]; exact h2
    wp_walk using (wpAny_updateSeq hl rfl (hz := h1) (_hz' := hz)), PySem.AutoSeq1.wpAny_loadPart' hl, PySem.AutoSeq1.wpAny_loadPart' hb
    exact ⟨_, rfl, h⟩
def rExtA (K : PySem.W.Frag) : V → List V → Hp → VK → Prop := fun x vs H Q => ∃ l b xs zs, x = .ref l ∧ vs = [.ref b] ∧ H l = some (.lst xs) ∧ SqL K H b zs ∧ xs.length + zs.length ≤ 100000 ∧ Q .non (upd H l (.lst (xs ++ zs)))
theorem mt_extA : MtR X "list.extend" (rExtA X.K) := by
  intro pins s σ H x vs v us Q I rx rv h
  obtain ⟨l, b, xs, zs, rfl, rfl, hH, hB, hz, q⟩ := h
  cases rx
  obtain ⟨u, rfl, ru⟩ := rv.one
  cases ru
  obtain ⟨z, its, n, r, hl, e⟩ := I.lstM hH
  obtain ⟨its2, r2, ⟨⟨cls, dd, data, sl⟩, n2, ho, hc, hdn, hd⟩, hlen⟩ := I.list hB
  simp only at hc hd
  subst hc hd
  have hl2 := r2.length
  have hsl := sizeLine_eq
  have hsz : its.toArray.size + its2.toArray.size ≤ sizeLine := by rw [List.size_toArray, List.size_toArray]; omega
  have hlong : ¬ (!its.toArray.isEmpty && Builtin.List.listTooLong (its.toArray.size + its2.toArray.size)) = true := by rw [notLongL hsz, Bool.and_false]; exact Bool.false_ne_true
  refine call_meets PySem.F.slot_list_extend ⟨_, e, rfl⟩ PySem.F.entry_list_extend (PySem.F.args_list_extend_2 _ _) (ext_any l its.toArray n b its2.toArray n2 dd sl hlong (by rw [List.size_toArray]; omega) (by omega)) ⟨e, ho, ?_⟩
  refine ⟨.non, _, I.lset (its' := its ++ its2) (t' := s.toks) hH e (by simp) (r.append r2) ?_, rfl, q⟩
  rw [List.length_append]
  omega
/-! ### l.extend(e), l.insert(i, e), x = l.pop() -/
def sExt (fo fe : Cd Val) : Sc := fun n0 ρ μ => lift (fo ρ μ) ρ fun o μ1 => match o with
  | .loc l => match μ1[l]? with
    | some (.lst _) => lift (fe ρ μ1) ρ fun v μ2 => match v, μ2[l]? with
      | .d (.list zs), some (.lst xs) => if lim (xs.length + zs.length) = true then .next ρ (μ2.set l (.lst (xs ++ zs))) else .stuck
      | _, _ => .stuck
    | _ => .stuck
  | _ => .stuck
def sIns (fo : Cd Val) (fi fe : Cd Val) : Sc := fun n0 ρ μ => lift (fo ρ μ) ρ fun o μ1 => match o with
  | .loc l => match μ1[l]? with
    | some (.lst _) => lift (fi ρ μ1) ρ fun k μ2 => lift (fe ρ μ2) ρ fun v μ3 => match rd k μ3, v, μ3[l]? with
      | some (.int j), .d x, some (.lst xs) => if (lim (xs.length + 1) && decide (0 ≤ j ∧ j < 2 ^ 62)) = true then .next ρ (μ3.set l (.lst (xs.take j.toNat ++ [x] ++ xs.drop j.toNat))) else .stuck
      | _, _, _ => .stuck
    | _ => .stuck
  | _ => .stuck
theorem ss_ins {o i e : Expr} {fo fi fe : Cd Val} {apos cpos : Pos} (ho : SE C X W fo o) (hi : SE C X W fi i) (he : SE C X W fe e)
    (hbase : attributeBase o "insert" X.env (eval o X.env) = eval o X.env := by rfl)
    (hfew : ((backTo cpos (starEach [i, e] X.env)).all (fun x => !x.1) && (backToKw cpos (keywordEach [] X.env)).all (fun x => x.1.isSome)
      && decide ([i, e].length + ([] : List Keyword).length + (if ([] : List Keyword).isEmpty then 0 else 1) < 30)) = true := by rfl)
    (hline : (apos.endLine == cpos.line) = true := by rfl) (hst : starEach [i, e] X.env = (false, eval i X.env) :: starEach [e] X.env := by rfl) (hst2 : starEach [e] X.env = (false, eval e X.env) :: starEach [] X.env := by rfl) (hplain : (backTo cpos (starEach [e] X.env)).any (·.1) = false := by rfl)
    (hs : swapsWith (.Call (.Attribute o "insert" apos) [i, e] [] cpos) none pos.line X.env = pure false := by rfl) : SS C X W (sIns fo fi fe) (.Expr (.Call (.Attribute o "insert" apos) [i, e] [] cpos) pos) :=
  PS_imp (ps_expr (pe_bm PySem.F.plainAttrs_list PySem.F.slot_list_insert PySem.F.type_list_insert mt_insert ho (pa_cons hi (pa_cons he pa_nil hst2) hst) hbase hfew hline hst hplain) hs) fun D σ H h => by
  obtain ⟨n0, I, β, ρ, μ, hn, s, e, h⟩ := h
  refine ⟨I, β, ρ, μ, s, e, OutOk.bind hn e h fun o μ1 I1 β1 H1 w q x1 s1 n1 r1 h1 => ?_⟩
  split at h1
  · rename_i l
    obtain ⟨rfl, hl⟩ := r1
    split at h1
    · rename_i xs0 hc
      obtain ⟨ys0, g0, t0⟩ := s1.cell l _ hc
      refine ⟨.inl ⟨rfl, ys0, SqL.of g0⟩, I1, β1, ρ, μ1, s1, e.ext x1, OutOk.bind n1 (e.ext x1) h1 fun k μ2 I2 β2 H2 w2 q2 x2 s2 n2 r2 h2 => ?_⟩
      refine ⟨I2, β2, ρ, μ2, s2, (e.ext x1).ext x2, OutOk.bind n2 ((e.ext x1).ext x2) h2 fun v μ3 I3 β3 H3 w3 q3 x3 s3 n3 r3 h3 => ?_⟩
      split at h3
      · rename_i j x xs hj hc2
        split at h3
        · rename_i hlim
          simp only [Bool.and_eq_true, decide_eq_true_eq] at hlim
          have hz := lim_size hlim.1
          obtain ⟨ys, g1, t1⟩ := s3.cell l _ hc2
          have hl3 : l < μ3.length := Nat.lt_of_lt_of_le (Nat.lt_of_lt_of_le hl x2.len) x3.len
          have eb : β1 l = β3 l := by rw [← x2.bet l hl, ← x3.bet l (Nat.lt_of_lt_of_le hl x2.len)]
          have hk := ((r2.mono x3.imm x3.bet x3.len).rd s3 hj).of_int
          subst hk
          have tt := ((t1.take j.toNat).app (.cons r3 .nil)).app (t1.drop j.toNat)
          obtain ⟨s', x'⟩ := s3.put hl3 tt
          have hlen := t1.length
          refine ⟨β1 l, ys, j, w3, rfl, rfl, by rw [eb]; exact g1, by omega, hlim.2.1, by omega, ?_⟩
          rw [eb]
          exact h3 I3 β3 σ _ (x'.lower n3 (Nat.le_refl _)) s' ((((e.ext x1).ext x2).ext x3).ext x')
        · exact h3.elim
      · exact h3.elim
    · exact h1.elim
  · exact h1.elim
theorem ss_ext {o e : Expr} {fo fe : Cd Val} {apos cpos : Pos} (ho : SE C X W fo o) (he : SE C X W fe e)
    (hbase : attributeBase o "extend" X.env (eval o X.env) = eval o X.env := by rfl)
    (hfew : ((backTo cpos (starEach [e] X.env)).all (fun x => !x.1) && (backToKw cpos (keywordEach [] X.env)).all (fun x => x.1.isSome)
      && decide ([e].length + ([] : List Keyword).length + (if ([] : List Keyword).isEmpty then 0 else 1) < 30)) = true := by rfl)
    (hline : (apos.endLine == cpos.line) = true := by rfl) (hst : starEach [e] X.env = (false, eval e X.env) :: starEach [] X.env := by rfl) (hplain : (backTo cpos (starEach [] X.env)).any (·.1) = false := by rfl)
    (hs : swapsWith (.Call (.Attribute o "extend" apos) [e] [] cpos) none pos.line X.env = pure false := by rfl) : SS C X W (sExt fo fe) (.Expr (.Call (.Attribute o "extend" apos) [e] [] cpos) pos) :=
  PS_imp (ps_expr (pe_bm PySem.F.plainAttrs_list PySem.F.slot_list_extend PySem.F.type_list_extend mt_extA ho (pa_cons he pa_nil hst) hbase hfew hline hst hplain) hs) fun D σ H h => by
  obtain ⟨n0, I, β, ρ, μ, hn, s, e, h⟩ := h
  refine ⟨I, β, ρ, μ, s, e, OutOk.bind hn e h fun o μ1 I1 β1 H1 w q x1 s1 n1 r1 h1 => ?_⟩
  split at h1
  · rename_i l
    obtain ⟨rfl, hl⟩ := r1
    split at h1
    · rename_i xs0 hc
      obtain ⟨ys0, g0, t0⟩ := s1.cell l _ hc
      refine ⟨.inl ⟨rfl, ys0, SqL.of g0⟩, I1, β1, ρ, μ1, s1, e.ext x1, OutOk.bind n1 (e.ext x1) h1 fun v μ2 I2 β2 H2 w2 q2 x2 s2 n2 r2 h2 => ?_⟩
      split at h2
      · rename_i zs xs hc2
        split at h2
        · rename_i hlim
          obtain ⟨a, vs, rfl, g2, t2⟩ := Rp.of_list r2
          obtain ⟨ys, g1, t1⟩ := s2.cell l _ hc2
          have hl2 : l < μ2.length := Nat.lt_of_lt_of_le hl x2.len
          have eb : β1 l = β2 l := (x2.bet l hl).symm
          obtain ⟨s', x'⟩ := s2.put hl2 (t1.app t2)
          have hlen := t1.length
          have hlen2 := t2.length
          have hlim := of_decide_eq_true hlim
          refine ⟨β1 l, a, ys, vs, rfl, rfl, by rw [eb]; exact g1, s2.imm.seqL g2, by omega, ?_⟩
          rw [eb]
          exact h2 I2 β2 σ _ (x'.lower n2 (Nat.le_refl _)) s' (((e.ext x1).ext x2).ext x')
        · exact h2.elim
      · exact h2.elim
    · exact h1.elim
  · exact h1.elim
/-- l.pop() -/
def cPop (fo : Cd Val) : Cd Val := fun ρ μ => (fo ρ μ).bind fun o μ1 => match o with
  | .loc l => match μ1[l]? with
    | some (.lst xs) => match xs.getLast? with
      | some x => .ok (.d x) (μ1.set l (.lst xs.dropLast))
      | none => .stuck
    | _ => .stuck
  | _ => .stuck
theorem RpAll.dropLast {I : Hp} : ∀ {vs : List V} {ds : List D}, RpAll K I vs ds → RpAll K I vs.dropLast ds.dropLast
  | [], [], h => h
  | [], _ :: _, h => nomatch h.dp
  | _ :: _, [], h => nomatch h.dp
  | [v], [d], h => .nil
  | [v], d :: d' :: ds, h => nomatch h.head.2.dp
  | v :: v' :: vs, [d], h => nomatch h.head.2.dp
  | v :: v' :: vs, d :: d' :: ds, h => .cons h.head.1 (RpAll.dropLast h.head.2)
theorem se_pop {o : Expr} {fo : Cd Val} {apos cpos : Pos} (ho : SE C X W fo o) (hbase : attributeBase o "pop" X.env (eval o X.env) = eval o X.env := by rfl) (hline : (apos.endLine == cpos.line) = true := by rfl) : SE C X W (cPop fo) (.Call (.Attribute o "pop" apos) [] [] cpos) :=
  PE_imp (pe_bm0 PySem.F.plainAttrs_list PySem.F.slot_list_pop PySem.F.type_list_pop mt_pop ho hbase hline) fun σ H Q h => by
  obtain ⟨I, β, ρ, μ, s, e, h⟩ := h
  refine ⟨I, β, ρ, μ, s, e, Res.bind h fun v μ1 I1 β1 H1 w q x1 s1 r1 h1 => ?_⟩
  split at h1
  · rename_i l
    obtain ⟨rfl, hl⟩ := r1
    split at h1
    · rename_i xs hc
      split at h1
      · rename_i x hx
        obtain ⟨ys, g1, t1⟩ := s1.cell l _ hc
        have hlen := t1.length
        rw [List.getLast?_eq_getElem?] at hx
        obtain ⟨u, hu, ru⟩ := t1.get hx
        obtain ⟨s', x'⟩ := s1.put hl t1.dropLast
        refine ⟨.inl ⟨rfl, ys, SqL.of g1⟩, β1 l, ys, u, rfl, rfl, g1, by rw [hlen]; exact hu, ?_⟩
        exact h1 I1 β1 _ u x' s' ru
      · exact h1.elim
    · exact h1.elim
  · exact h1.elim
end
end FW


set_option Elab.async false
set_option linter.all false
set_option maxRecDepth 100000
set_option maxHeartbeats 4000000
/-! # A tuple's parts are assigned -/
namespace FW
open PySem PySem.Spec PyProof.Rows L2
section
variable {C : Ctx} {X : Cx} {W : WX} {pos : Pos} {K : PySem.W.Frag} {tg : Expr}
def bP3 (i j l : Nat) : D → Env → Option Env := fun x ρ => match x with
  | .tuple [a, b, c] => some (((ρ.set i (some (.d a))).set j (some (.d b))).set l (some (.d c)))
  | _ => none
theorem bd_p3 {vs : List Nat} {i j l : Nat} (hi : i ∈ vs) (hj : j ∈ vs) (hl : l ∈ vs) : Bd K vs (gTup K 3 (gCons (gName i) (gCons (gName j) (gCons (gName l) gNil)))) (bP3 i j l) := by
  intro C I β ρ ρ' μ σ v x H Q s e r h k
  unfold bP3 at h
  split at h
  · rename_i a b c
    cases h
    obtain ⟨p, ys, rfl, h1, t1⟩ := r.of_tup
    match ys, t1 with
    | [y1, y2, y3], t1 =>
      refine ⟨p, [y1, y2, y3], rfl, s.seqT h1, rfl, y1, [y2, y3], rfl, y2, [y3], rfl, y3, [], rfl, rfl, ?_⟩
      refine k _ (((e.set (v := .d a) t1.head.1).set (v := .d b) t1.head.2.head.1).set (v := .d c) t1.head.2.head.2.head.1) (wipe_same (by rw [List.length_set, List.length_set, List.length_set]) fun m hm => ?_)
      rw [List.getElem?_set_ne (fun z => hm (by rw [← z]; exact hl)), List.getElem?_set_ne (fun z => hm (by rw [← z]; exact hj)), List.getElem?_set_ne (fun z => hm (by rw [← z]; exact hi))]
    | [], t1 => exact nomatch t1.dp
    | [_], t1 => exact absurd t1.length (by simp)
    | [_, _], t1 => exact absurd t1.length (by simp)
    | _ :: _ :: _ :: _ :: _, t1 => exact absurd t1.length (by simp)
  · cases h
def sUnp (bd : D → Env → Option Env) (f : Cd Val) : Sc := fun n0 ρ μ => lift (f ρ μ) ρ fun v μ1 => match v with
  | .d x => match bd x ρ with
    | some ρ' => .next ρ' μ1
    | none => .stuck
  | _ => .stuck
theorem ss_unp {e : Expr} {g : TG} {vs : List Nat} {bd : D → Env → Option Env} {f : Cd Val} (hg : PG X tg g) (hb : Bd X.K vs g bd) (he : SE C X W f e) (hw : swappedStores [tg] e X.env = pure none := by rfl) (hs : swapsWithSole [tg] e pos.line X.env = pure false := by rfl)
    (h1 : (assignEach [tg] X.env).map (·.2) = [assign tg X.env] := by rfl) : SS C X W (sUnp bd f) (.Assign [tg] e pos) := PS_imp (ps_asg he hg hs hw h1) fun D σ H h => by
  obtain ⟨n0, I, β, ρ, μ, hn, s, e, h⟩ := h
  refine ⟨I, β, ρ, μ, s, e, OutOk.bind hn e h fun v μ1 I1 β1 H1 w q x1 s1 n1 r1 h1 => ?_⟩
  split at h1
  · rename_i x
    split at h1
    · rename_i ρ' hρ
      exact hb C I1 β1 ρ ρ' μ1 σ w x H1 D.nx s1.imm (e.ext x1) r1 hρ fun σ' e' _ => OutOk.here n1 s1 e' h1
    · exact h1.elim
  · exact h1.elim
end
end FW


set_option Elab.async false
set_option linter.all false
set_option maxRecDepth 100000
/-! # Typed code behind the pure code: what is meant -/
namespace FW
open PySem PySem.Spec
/-! ### typed code -/
inductive X (α : Type) where
  | ok (a : α) | exc (cn : Str) (pl : D) | no
variable {α β γ δ : Type}
def X.bind (x : X α) (k : α → X β) : X β := match x with
  | .ok a => k a
  | .exc c p => .exc c p
  | .no => .no
@[simp] theorem X.bind_ok {a : α} {k : α → X β} : X.bind (.ok a) k = k a := rfl
@[simp] theorem X.bind_exc {c : Str} {p : D} {k : α → X β} : X.bind (.exc c p) k = .exc c p := rfl
@[simp] theorem X.bind_no {k : α → X β} : X.bind .no k = .no := rfl
def X.of (o : Option α) : X α := match o with
  | some a => .ok a
  | none => .no
@[simp] theorem X.of_some {a : α} : X.of (some a) = .ok a := rfl
@[simp] theorem X.of_none : X.of (none : Option α) = .no := rfl
def X.sure (x : X α) : X α := match x with
  | .ok a => .ok a
  | _ => .no
@[simp] theorem X.sure_ok {a : α} : X.sure (.ok a) = .ok a := rfl
@[simp] theorem X.sure_exc {c : Str} {p : D} : X.sure (.exc c p : X α) = .no := rfl
@[simp] theorem X.sure_no : X.sure (.no : X α) = .no := rfl
/-- how a statement ends -/
inductive Fl (σ τ β : Type) where
  | next (s : σ) | ret (b : β) | brk (s : τ) | cont (s : τ)
/-! ### with draws: what is asked behind it -/
abbrev M (α : Type) := (α → Prop) → (Str → D → Prop) → Prop
def X.m (x : X α) : M α := fun Q E => match x with
  | .ok a => Q a
  | .exc c p => E c p
  | .no => False
def M.pure (a : α) : M α := fun Q _ => Q a
def M.bind (m : M α) (k : α → M β) : M β := fun Q E => m (fun a => k a Q E) E
def M.sure (m : M α) : M α := fun Q _ => m Q (fun _ _ => False)
def M.no : M α := fun _ _ => False
def M.exc (c : Str) (p : D) : M α := fun _ E => E c p
def M.ite (c : Bool) (a b : M α) : M α := fun Q E => if c = true then a Q E else b Q E
theorem X.m_ok {a : α} : (X.ok a).m = M.pure a := rfl
theorem X.m_exc {c : Str} {p : D} : (X.exc c p : X α).m = M.exc c p := rfl
theorem X.m_no : (X.no : X α).m = M.no := rfl
theorem X.m_bind {x : X α} {k : α → X β} : (X.bind x k).m = M.bind x.m (fun a => (k a).m) := by cases x <;> rfl
theorem X.m_sure {x : X α} : (X.sure x).m = M.sure x.m := by cases x <;> rfl
theorem X.m_ite {c : Bool} {a b : X α} : (if c = true then a else b).m = M.ite c a.m b.m := by
  cases c
  · simp only [Bool.false_eq_true, if_false]; rfl
  · simp only [if_true]; rfl
theorem M.pure_bind {a : α} {k : α → M β} : M.bind (M.pure a) k = k a := rfl
theorem M.bind_pure {m : M α} : M.bind m M.pure = m := rfl
theorem M.bind_bind {m : M α} {k : α → M β} {l : β → M γ} : M.bind (M.bind m k) l = M.bind m (fun a => M.bind (k a) l) := rfl

/-! ### outcomes of pure code -/
def okE (r : R α) (Q : α → Sto → Prop) (E : Str → D → Sto → Prop) : Prop := match r with
  | .ok a μ => Q a μ
  | .exc c p μ => E c p μ
  | .stuck => False
theorem okE_bind {r : R α} {f : α → Sto → R β} {Q : β → Sto → Prop} {E : Str → D → Sto → Prop} : okE (r.bind f) Q E = okE r (fun a μ => okE (f a μ) Q E) E := by cases r <;> rfl
theorem okE_mono {r : R α} {Q Q' : α → Sto → Prop} {E E' : Str → D → Sto → Prop} (h : okE r Q E) (k : ∀ a μ, Q a μ → Q' a μ) (k' : ∀ c p μ, E c p μ → E' c p μ) : okE r Q' E' := by
  cases r with
  | ok a μ => exact k a μ h
  | exc c p μ => exact k' c p μ h
  | stuck => exact h.elim
/-! ### what is known of the slots -/
inductive Slot where
  | u | d (x : D) | f (x : D) | c (xs : List D) | t | x | k (xs : List D)
structure Cf where
  n0 : Nat
  base : Sto
  tp : Option Nat
  ti : List D → Prop
  ow : Bool := false
/-- a cell that was there before, or data -/
def Fd (c : Cf) (v : Val) (x : D) : Prop := v = .d x ∨ ∃ l xs, v = .loc l ∧ l < c.n0 ∧ c.tp ≠ some l ∧ c.base[l]? = some (.lst xs) ∧ x = .list xs
def SlI (c : Cf) (μ : Sto) : Slot → Option (Option Val) → Prop
  | .u, o => ∃ v, o = some v ∧ v ≠ some .exn
  | .d x, o => o = some (some (.d x))
  | .f x, o => ∃ v, o = some (some v) ∧ Fd c v x
  | .c xs, o => ∃ l, o = some (some (.loc l)) ∧ c.n0 ≤ l ∧ μ[l]? = some (.lst xs)
  | .t, o => ∃ l, o = some (some (.loc l)) ∧ c.tp = some l
  | .x, o => o = some (some .exn)
  | .k xs, o => ∃ l, o = some (some (.loc l)) ∧ c.tp = some l ∧ c.ow = true ∧ μ[l]? = some (.lst xs)
/-- the store, as the caller left it -/
structure Bs (c : Cf) (μ : Sto) : Prop where
  n0 : c.base.length = c.n0
  le : c.n0 ≤ μ.length
  bas : ∀ l, l < c.n0 → c.tp ≠ some l → μ[l]? = c.base[l]?
  tap : ∀ l, c.tp = some l → l < c.n0 ∧ ∃ xs, μ[l]? = some (.lst xs) ∧ c.ti xs
  tr : c.ow = true → ∀ xs, c.ti xs
structure Rl (c : Cf) (sl : List Slot) (ρ : Env) (μ : Sto) : Prop where
  len : ρ.length = sl.length
  at' : ∀ (i : Nat) (s : Slot), sl[i]? = some s → SlI c μ s ρ[i]?
  dist : ∀ (i j : Nat) (xs ys : List D), i ≠ j → sl[i]? = some (.c xs) → sl[j]? = some (.c ys) → ρ[i]? ≠ ρ[j]?
  one : ∀ (i j : Nat) (xs ys : List D), sl[i]? = some (.k xs) → sl[j]? = some (.k ys) → i = j
  bs : Bs c μ
/-- a value is read as x -/
def RdV (c : Cf) (sl : List Slot) (ρ : Env) (v : Val) (x : D) : Prop := Fd c v x ∨ ∃ (i : Nat) (xs : List D), (sl[i]? = some (.c xs) ∨ sl[i]? = some (.k xs)) ∧ ρ[i]? = some (some v) ∧ x = .list xs
theorem Fd.rd {c : Cf} {μ : Sto} {v : Val} {x : D} (b : Bs c μ) (h : Fd c v x) : rd v μ = some x := by
  rcases h with rfl | ⟨l, xs, rfl, hl, ht, hb, rfl⟩
  · rfl
  · show (match μ[l]? with | some (.lst xs) => some (PyData.list xs) | some (.dct kvs) => some (.dict kvs) | none => none) = _
    rw [b.bas l hl ht, hb]
theorem Fd.ne {c : Cf} {v : Val} {x : D} (h : Fd c v x) : notExn v = true := by
  rcases h with rfl | ⟨l, xs, rfl, _⟩ <;> rfl
theorem RdV.rd {c : Cf} {sl : List Slot} {ρ : Env} {μ : Sto} {v : Val} {x : D} (h : Rl c sl ρ μ) (r : RdV c sl ρ v x) : FW.rd v μ = some x := by
  rcases r with r | ⟨i, xs, h1, h2, rfl⟩
  · exact r.rd h.bs
  · rcases h1 with h1 | h1
    · obtain ⟨l, e, _, q⟩ := h.at' i _ h1
      rw [h2] at e
      cases e
      show (match μ[l]? with | some (.lst xs) => some (PyData.list xs) | some (.dct kvs) => some (.dict kvs) | none => none) = _
      rw [q]
    · obtain ⟨l, e, _, _, q⟩ := h.at' i _ h1
      rw [h2] at e
      cases e
      show (match μ[l]? with | some (.lst xs) => some (PyData.list xs) | some (.dct kvs) => some (.dict kvs) | none => none) = _
      rw [q]
theorem RdV.ne {c : Cf} {sl : List Slot} {ρ : Env} {μ : Sto} {v : Val} {x : D} (h : Rl c sl ρ μ) (r : RdV c sl ρ v x) : notExn v = true := by
  rcases r with r | ⟨i, xs, h1, h2, rfl⟩
  · exact r.ne
  · rcases h1 with h1 | h1
    · obtain ⟨l, e, _, q⟩ := h.at' i _ h1
      rw [h2] at e
      cases e
      rfl
    · obtain ⟨l, e, _, _, q⟩ := h.at' i _ h1
      rw [h2] at e
      cases e
      rfl
/-! ### the judgements -/
/-- the store goes on: the same, but for the tape -/
structure Sm (c : Cf) (μ μ' : Sto) : Prop where
  len : μ'.length = μ.length
  eq : ∀ l, (c.tp ≠ some l ∨ c.ow = true) → μ'[l]? = μ[l]?
  tap : ∀ l, c.tp = some l → ∃ xs, μ'[l]? = some (.lst xs) ∧ c.ti xs
theorem Bs.same {c : Cf} {μ : Sto} (b : Bs c μ) : Sm c μ μ := ⟨rfl, fun _ _ => rfl, fun l h => (b.tap l h).2⟩
theorem Sm.trans {c : Cf} {μ μ1 μ2 : Sto} (a : Sm c μ μ1) (b : Sm c μ1 μ2) : Sm c μ μ2 := ⟨b.len.trans a.len, fun l h => (b.eq l h).trans (a.eq l h), b.tap⟩
theorem Bs.sm {c : Cf} {μ μ1 : Sto} (b : Bs c μ) (a : Sm c μ μ1) : Bs c μ1 := ⟨b.n0, by rw [a.len]; exact b.le, fun l h1 h2 => (a.eq l (.inl h2)).trans (b.bas l h1 h2), fun l h => ⟨(b.tap l h).1, a.tap l h⟩, b.tr⟩
theorem SlI.sm {c : Cf} {μ μ1 : Sto} (b : Bs c μ) (a : Sm c μ μ1) {s : Slot} {o : Option (Option Val)} (h : SlI c μ s o) : SlI c μ1 s o := by
  cases s with
  | c xs =>
    obtain ⟨l, h1, h2, h3⟩ := h
    exact ⟨l, h1, h2, by rw [a.eq l (.inl fun z => absurd (b.tap l z).1 (Nat.not_lt.mpr h2))]; exact h3⟩
  | k xs =>
    obtain ⟨l, h1, h2, h3, h4⟩ := h
    exact ⟨l, h1, h2, h3, by rw [a.eq l (.inr h3)]; exact h4⟩
  | _ => exact h
theorem Rl.sm {c : Cf} {sl : List Slot} {ρ : Env} {μ μ1 : Sto} (h : Rl c sl ρ μ) (a : Sm c μ μ1) : Rl c sl ρ μ1 := ⟨h.len, fun i s e => (h.at' i s e).sm h.bs a, h.dist, h.one, h.bs.sm a⟩
/-- from this env: the code gives what m asks -/
def GG (c : Cf) (sl : List Slot) (ρ : Env) (r : Sto → R γ) (rel : γ → α → Prop) (m : M α) : Prop :=
  ∀ μ Q E, Rl c sl ρ μ → m Q E → okE (r μ) (fun v μ' => Sm c μ μ' ∧ ∃ a, rel v a ∧ Q a) (fun cn pl μ' => Sm c μ μ' ∧ E cn pl)
section
variable {c : Cf} {sl : List Slot} {ρ : Env}
theorem GG.bind {r : Sto → R γ} {rel : γ → α → Prop} {m : M α} {k : γ → Sto → R δ} {rel' : δ → β → Prop} {n : α → M β} (h : GG c sl ρ r rel m) (hk : ∀ v a, rel v a → GG c sl ρ (k v) rel' (n a)) : GG c sl ρ (fun μ => (r μ).bind k) rel' (M.bind m n) := by
  intro μ Q E R q
  show okE ((r μ).bind k) _ _
  rw [okE_bind]
  refine okE_mono (h μ (fun a => n a Q E) E R q) (fun v μ1 ⟨R1, a, ra, qa⟩ => ?_) (fun _ _ _ z => z)
  exact okE_mono (hk v a ra μ1 Q E (R.sm R1) qa) (fun v μ2 ⟨R2, z⟩ => ⟨R1.trans R2, z⟩) (fun _ _ μ2 ⟨R2, z⟩ => ⟨R1.trans R2, z⟩)
theorem GG.pure {v : γ} {a : α} {rel : γ → α → Prop} (h : rel v a) : GG c sl ρ (fun μ => .ok v μ) rel (M.pure a) := fun _ _ _ R q => ⟨R.bs.same, a, h, q⟩
theorem GG.weak {r : Sto → R γ} {rel rel' : γ → α → Prop} {m : M α} (h : GG c sl ρ r rel m) (k : ∀ v a, rel v a → rel' v a) : GG c sl ρ r rel' m := fun μ Q E R q =>
  okE_mono (h μ Q E R q) (fun v μ1 ⟨R1, a, ra, qa⟩ => ⟨R1, a, k v a ra, qa⟩) (fun _ _ _ z => z)
theorem GG.of {r : Sto → R γ} {rel : γ → α → Prop} {o : Option α} (h : ∀ μ a, Rl c sl ρ μ → o = some a → ∃ v, r μ = .ok v μ ∧ rel v a) : GG c sl ρ r rel (X.of o).m := by
  intro μ Q E R q
  cases e : o with
  | none => rw [e] at q; exact q.elim
  | some a =>
    rw [e] at q
    obtain ⟨v, h1, h2⟩ := h μ a R e
    rw [h1]
    exact ⟨R.bs.same, a, h2, q⟩
theorem GG.map {r : Sto → R γ} {rel : γ → α → Prop} {rel' : γ → β → Prop} {m : M α} {g : α → β} (h : GG c sl ρ r rel m) (k : ∀ v a, rel v a → rel' v (g a)) : GG c sl ρ r rel' (M.bind m fun a => M.pure (g a)) := fun μ Q E R q =>
  okE_mono (h μ (fun a => Q (g a)) E R q) (fun v μ1 ⟨R1, a, ra, qa⟩ => ⟨R1, g a, k v a ra, qa⟩) (fun _ _ _ z => z)
theorem GG.sure {r : Sto → R γ} {rel : γ → α → Prop} {m : M α} (h : GG c sl ρ r rel m) {μ : Sto} {Q : α → Prop} {E : Str → D → Prop} (R : Rl c sl ρ μ) (q : M.sure m Q E) : ∃ v μ' a, r μ = .ok v μ' ∧ Sm c μ μ' ∧ rel v a ∧ Q a := by
  have z := h μ Q (fun _ _ => False) R q
  cases e : r μ with
  | ok v μ' =>
    rw [e] at z
    obtain ⟨R1, a, ra, qa⟩ := z
    exact ⟨v, μ', a, rfl, R1, ra, qa⟩
  | exc _ _ _ => rw [e] at z; exact z.2.elim
  | stuck => rw [e] at z; exact z.elim
end
/-- a parameter: data; read only; the tape -/
inductive PK where
  | s | f | t
def SimD (c : Cf) (e : α → D) (sl : List Slot) (f : Cd Val) (m : M α) : Prop := ∀ ρ, GG c sl ρ (f ρ) (fun v a => v = .d (e a)) m
def SimE (c : Cf) (e : α → D) (sl : List Slot) (f : Cd Val) (m : M α) : Prop := ∀ ρ, GG c sl ρ (f ρ) (fun v a => RdV c sl ρ v (e a)) m
def SimT (c : Cf) (sl : List Slot) (f : Cd Bool) (m : M Bool) : Prop := ∀ ρ, GG c sl ρ (f ρ) (fun v a => v = a) m
def SimO (c : Cf) (sl : List Slot) (f : Cd (Option Int)) (m : M (Option Int)) : Prop := ∀ ρ, GG c sl ρ (f ρ) (fun v a => v = a) m
/-- the arguments -/
def ArgR (c : Cf) (sl : List Slot) (ρ : Env) : List PK → List Val → List D → Prop
  | [], [], [] => True
  | .s :: bs, v :: vs, x :: xs => v = .d x ∧ ArgR c sl ρ bs vs xs
  | .f :: bs, v :: vs, x :: xs => RdV c sl ρ v x ∧ ArgR c sl ρ bs vs xs
  | .t :: bs, v :: vs, xs => (∃ l, v = .loc l ∧ c.tp = some l) ∧ ArgR c sl ρ bs vs xs
  | _, _, _ => False
def SimA (c : Cf) (es : α → List D) (bs : List PK) (sl : List Slot) (f : Cd (List Val)) (m : M α) : Prop := ∀ ρ, GG c sl ρ (f ρ) (fun vs a => ArgR c sl ρ bs vs (es a)) m
/-- what is walked over, in a comprehension, in a for -/
def SimJ (c : Cf) (e : α → D) (sl : List Slot) (f : Cd Walked) (m : M (List α)) : Prop := ∀ ρ, GG c sl ρ (f ρ) (fun w xs => w.1 = xs.map e ∧ ∀ μ, Rl c sl ρ μ → okB w μ = true) m
def SimI (c : Cf) (e : α → D) (sl : List Slot) (f : Cd Walked) (m : M (List α)) : Prop := ∀ ρ, GG c sl ρ (f ρ) (fun w xs => w.2 = none ∧ w.1 = xs.map e) m
/-- what is handed back -/
def RtV (c : Cf) (μ : Sto) (v : Val) (x : D × Option (List D)) : Prop := (v = .d x.1 ∨ ∃ l xs, v = .loc l ∧ c.n0 ≤ l ∧ μ[l]? = some (.lst xs) ∧ x.1 = .list xs) ∧ ∀ xs, x.2 = some xs → ∀ l, c.tp = some l → μ[l]? = some (.lst xs)
/-- a value; a value and what stands in the parameter's cell -/
def rD (e : β → D) : β → D × Option (List D) := fun b => (e b, none)
def rC (e : β → D) (e1 : γ → D) : β × List γ → D × Option (List D) := fun p => (e p.1, some (p.2.map e1))
/-- how statements end -/
def FlR {σ τ : Type} (c : Cf) (es : σ → List Slot) (el : τ → List Slot) (eb : β → D × Option (List D)) (ex : Option (List Slot)) (Q : Fl σ τ β → Prop) (E : Str → D → Prop) : O → Prop
  | .next ρ μ => ∃ s, Rl c (es s) ρ μ ∧ Q (.next s)
  | .ret v μ => ∃ b, RtV c μ v (eb b) ∧ Bs c μ ∧ Q (.ret b)
  | .brk ρ μ => ∃ s, Rl c (el s) ρ μ ∧ Q (.brk s)
  | .cont ρ μ => ∃ s, Rl c (el s) ρ μ ∧ Q (.cont s)
  | .exc cn pl ρ μ => (∀ e, ex = some e → Rl c e ρ μ) ∧ Bs c μ ∧ E cn pl
  | .stuck => False
def SimS {σ τ : Type} (c : Cf) (es : σ → List Slot) (el : τ → List Slot) (eb : β → D × Option (List D)) (ex : Option (List Slot)) (sl : List Slot) (f : Sc) (m : M (Fl σ τ β)) : Prop :=
  ∀ n ρ μ Q E, Rl c sl ρ μ → m Q E → FlR c es el eb ex Q E (f n ρ μ)
end FW


set_option Elab.async false
set_option linter.all false
set_option maxRecDepth 100000
/-! # Typed code: expressions -/
namespace FW
open PySem PySem.Spec
variable {α β γ δ ε : Type} {c : Cf} {sl : List Slot} {e : α → D} {e1 : β → D} {e2 : γ → D} {f g h : Cd Val} {m : M α}
/-! ### how data is told -/
abbrev eD : D → D := fun x => x
abbrev eI : Int → D := PyData.int
abbrev eB : Bool → D := PyData.bool
abbrev eS : Str → D := PyData.str
abbrev eU : Unit → D := fun _ => PyData.none
abbrev eL (e : α → D) : List α → D := fun xs => .list (xs.map e)
abbrev eT (e : α → D) : List α → D := fun xs => .tuple (xs.map e)
abbrev eP2 (e : α → D) (e1 : β → D) : α × β → D := fun p => .tuple [e p.1, e1 p.2]
abbrev eP3 (e : α → D) (e1 : β → D) (e2 : γ → D) : α × β × γ → D := fun p => .tuple [e p.1, e1 p.2.1, e2 p.2.2]
/-! ### lists of arguments -/
abbrev aN : Unit → List D := fun _ => []
abbrev aC (e : α → D) (es : β → List D) : α × β → List D := fun p => e p.1 :: es p.2
theorem SimD.toE (q : SimD c e sl f m) : SimE c e sl f m := fun ρ => (q ρ).weak fun v a hv => .inl (.inl hv)
theorem RdV.dat {ρ : Env} {v : Val} {x : D} (r : RdV c sl ρ v x) (n : ∀ xs, x ≠ .list xs) : v = .d x := by
  rcases r with (h | ⟨l, xs, _, _, _, _, h⟩) | ⟨i, xs, _, _, h⟩
  · exact h
  · exact (n _ h).elim
  · exact (n _ h).elim
theorem SimE.toD (q : SimE c e sl f m) (n : ∀ a xs, e a ≠ .list xs := by intro _ _ h; cases h) : SimD c e sl f m := fun ρ => (q ρ).weak fun v a hv => hv.dat (n a)
theorem q_const {x : D} {a : α} (hx : x = e a) : SimD c e sl (cK x) (M.pure a) := fun ρ => GG.pure (by rw [hx])
theorem GG.var {ρ : Env} {i : Nat} {a : α} {rel : Val → α → Prop} (k : ∀ μ, Rl c sl ρ μ → ∃ v, ρ[i]? = some (some v) ∧ rel v a) : GG c sl ρ (cV i ρ) rel (M.pure a) := by
  intro μ Q E R q
  obtain ⟨v, h1, h2⟩ := k μ R
  unfold cV
  rw [h1]
  exact ⟨R.bs.same, a, h2, q⟩
theorem q_var {a : α} (i : Nat) (hs : sl[i]? = some (.d (e a))) : SimD c e sl (cV i) (M.pure a) := fun ρ => GG.var fun μ R => ⟨_, R.at' i _ hs, rfl⟩
theorem q_varF {a : α} (i : Nat) (hs : sl[i]? = some (.f (e a))) : SimE c e sl (cV i) (M.pure a) := fun ρ => GG.var fun μ R => by
  obtain ⟨v, h1, h2⟩ := R.at' i _ hs
  exact ⟨v, h1, .inl h2⟩
theorem q_varC {xs : List α} (i : Nat) (hs : sl[i]? = some (.c (xs.map e))) : SimE c (eL e) sl (cV i) (M.pure xs) := fun ρ => GG.var fun μ R => by
  obtain ⟨l, h1, h2, h3⟩ := R.at' i _ hs
  exact ⟨_, h1, .inr ⟨i, _, .inl hs, h1, rfl⟩⟩
theorem q_varK {xs : List α} (i : Nat) (hs : sl[i]? = some (.k (xs.map e))) : SimE c (eL e) sl (cV i) (M.pure xs) := fun ρ => GG.var fun μ R => by
  obtain ⟨l, h1, h2, h3, h4⟩ := R.at' i _ hs
  exact ⟨_, h1, .inr ⟨i, _, .inr hs, h1, rfl⟩⟩
theorem q_cast {g' : α → β} (q : SimE c e sl f m) (he : ∀ a, e a = e1 (g' a)) : SimE c e1 sl f (M.bind m fun a => M.pure (g' a)) := fun ρ => (q ρ).map fun v a r => by rw [← he]; exact r
theorem q_castD {g' : α → β} (q : SimD c e sl f m) (he : ∀ a, e a = e1 (g' a)) : SimD c e1 sl f (M.bind m fun a => M.pure (g' a)) := fun ρ => (q ρ).map fun v a r => by rw [← he]; exact r
/-! ### operators -/
def OpT (e : α → D) (e1 : β → D) (e2 : γ → D) (o : D → D → Option D) (tf : α → β → Option γ) : Prop := ∀ x y z, tf x y = some z → o (e x) (e1 y) = some (e2 z)
theorem q_op {n : M β} {o : D → D → Option D} {tf : α → β → Option γ} (ho : OpT e e1 e2 o tf) (q1 : SimE c e sl f m) (q2 : SimE c e1 sl g n) :
    SimD c e2 sl (cOp o f g) (M.bind m fun x => M.bind n fun y => (X.of (tf x y)).m) := fun ρ =>
  GG.bind (q1 ρ) fun v a ra => GG.bind (q2 ρ) fun u b rb => GG.of fun μ z R hz => ⟨.d (e2 z), by
    unfold p2
    rw [ra.rd R, rb.rd R]
    simp only [ho _ _ _ hz], rfl⟩
def OpU (e : α → D) (e2 : γ → D) (o : D → Option D) (tf : α → Option γ) : Prop := ∀ x z, tf x = some z → o (e x) = some (e2 z)
theorem q_un {o : D → Option D} {tf : α → Option γ} (ho : OpU e e2 o tf) (q1 : SimE c e sl f m) :
    SimD c e2 sl (cUn o f) (M.bind m fun x => (X.of (tf x)).m) := fun ρ =>
  GG.bind (q1 ρ) fun v a ra => GG.of fun μ z R hz => ⟨.d (e2 z), by
    unfold p1
    rw [ra.rd R]
    simp only [ho _ _ hz], rfl⟩
theorem bo_of {ρ : Env} {μ : Sto} {v : Val} {b : Bool} (R : Rl c sl ρ μ) (r : RdV c sl ρ v (.bool b)) : bo v μ = some b := by
  unfold bo
  rw [r.rd R]
theorem GG.ite {ρ : Env} {v : Val} {a : Bool} {r1 r2 : Sto → R δ} {r : Sto → R δ} {rel : δ → γ → Prop} {m1 m2 : M γ} (hr : ∀ μ, Rl c sl ρ μ → r μ = if a = true then r1 μ else r2 μ) (h1 : GG c sl ρ r1 rel m1) (h2 : GG c sl ρ r2 rel m2) : GG c sl ρ r rel (M.ite a m1 m2) := by
  intro μ Q E R q
  rw [hr μ R]
  unfold M.ite at q
  cases a with
  | true => simp only [if_true] at q ⊢; exact h1 μ Q E R q
  | false => simp only [Bool.false_eq_true, if_false] at q ⊢; exact h2 μ Q E R q
theorem q_and {m n : M Bool} (q1 : SimE c eB sl f m) (q2 : SimE c eB sl g n) : SimD c eB sl (cAnd f g) (M.bind m fun a => M.ite a n (M.pure false)) := fun ρ =>
  GG.bind (q1 ρ) fun v a ra => GG.ite (v := v) (r1 := g ρ) (r2 := fun μ => .ok (.d (.bool false)) μ) (fun μ R => by rw [bo_of R ra]; cases a <;> rfl) (SimE.toD q2 (fun _ _ h => by cases h) ρ) (GG.pure rfl)
theorem q_or {m n : M Bool} (q1 : SimE c eB sl f m) (q2 : SimE c eB sl g n) : SimD c eB sl (cOr f g) (M.bind m fun a => M.ite a (M.pure true) n) := fun ρ =>
  GG.bind (q1 ρ) fun v a ra => GG.ite (v := v) (r2 := g ρ) (r1 := fun μ => .ok (.d (.bool true)) μ) (fun μ R => by rw [bo_of R ra]; cases a <;> rfl) (GG.pure (v := .d (.bool true)) (a := true) (rel := fun v a => v = Val.d (eB a)) rfl) (SimE.toD q2 (fun _ _ h => by cases h) ρ)
theorem q_not {m : M Bool} (q1 : SimE c eB sl f m) : SimD c eB sl (cNot f) (M.bind m fun a => M.pure (!a)) := fun ρ =>
  GG.bind (q1 ρ) fun v a ra => fun μ Q E R q => by
    rw [bo_of R ra]
    exact ⟨R.bs.same, _, rfl, q⟩
theorem q_if {t : Cd Bool} {m : M Bool} {m1 m2 : M α} (qt : SimT c sl t m) (q1 : SimD c e sl f m1) (q2 : SimD c e sl g m2) : SimD c e sl (cIf t f g) (M.bind m fun a => M.ite a m1 m2) := fun ρ =>
  GG.bind (qt ρ) fun v a ra => GG.ite (v := .exn) (r1 := f ρ) (r2 := g ρ) (fun μ R => by rw [ra]; cases a <;> rfl) (q1 ρ) (q2 ρ)
theorem q_ifE {t : Cd Bool} {m : M Bool} {m1 m2 : M α} (qt : SimT c sl t m) (q1 : SimE c e sl f m1) (q2 : SimE c e sl g m2) : SimE c e sl (cIf t f g) (M.bind m fun a => M.ite a m1 m2) := fun ρ =>
  GG.bind (qt ρ) fun v a ra => GG.ite (v := .exn) (r1 := f ρ) (r2 := g ρ) (fun μ R => by rw [ra]; cases a <;> rfl) (q1 ρ) (q2 ρ)
theorem q_ch {n : M β} {k : M γ} {o o' : D → D → Option D} {tf : α → β → Option Bool} {tf' : β → γ → Option Bool} (ho : OpT e e1 eB o tf) (ho' : OpT e1 e2 eB o' tf') (q1 : SimE c e sl f m) (q2 : SimE c e1 sl g n) (q3 : SimE c e2 sl h k) :
    SimD c eB sl (cCh o o' f g h) (M.bind m fun x => M.bind n fun y => M.bind (X.of (tf x y)).m fun b => M.ite b (M.bind k fun z => (X.of (tf' y z)).m) (M.pure false)) := fun ρ =>
  GG.bind (q1 ρ) fun v a ra => GG.bind (q2 ρ) fun u b rb => GG.bind (r := fun μ => p2 o v u μ) (rel := fun w z => w = .d (eB z)) (GG.of fun μ z R hz => ⟨.d (eB z), by
    unfold p2
    rw [ra.rd R, rb.rd R]
    simp only [ho _ _ _ hz], rfl⟩) fun w z rz => GG.ite (v := w) (r1 := fun μ => (h ρ μ).bind fun c μ4 => p2 o' u c μ4) (r2 := fun μ => .ok (.d (.bool false)) μ) (fun μ R => by rw [rz]; cases z <;> rfl)
      (GG.bind (q3 ρ) fun w' c' rc => GG.of fun μ z' R hz => ⟨.d (eB z'), by
        unfold p2
        rw [rb.rd R, rc.rd R]
        simp only [ho' _ _ _ hz], rfl⟩) (GG.pure rfl)
/-! ### arguments, displays -/
theorem q_aN : SimA c aN [] sl aNil (M.pure ()) := fun ρ => GG.pure trivial
theorem q_aF {es : β → List D} {bs : List PK} {g : Cd (List Val)} {n : M β} (q1 : SimE c e sl f m) (q2 : SimA c es bs sl g n) : SimA c (aC e es) (.f :: bs) sl (aCons f g) (M.bind m fun a => M.bind n fun b => M.pure (a, b)) := fun ρ =>
  GG.bind (q1 ρ) fun v a ra => GG.bind (q2 ρ) fun vs b rb => GG.pure ⟨ra, rb⟩
theorem q_aS {es : β → List D} {bs : List PK} {g : Cd (List Val)} {n : M β} (q1 : SimD c e sl f m) (q2 : SimA c es bs sl g n) : SimA c (aC e es) (.s :: bs) sl (aCons f g) (M.bind m fun a => M.bind n fun b => M.pure (a, b)) := fun ρ =>
  GG.bind (q1 ρ) fun v a ra => GG.bind (q2 ρ) fun vs b rb => GG.pure ⟨ra, rb⟩
/-- the tape is handed on -/
theorem q_aT {es : β → List D} {bs : List PK} {g : Cd (List Val)} {n : M β} (i : Nat) (hs : sl[i]? = some .t) (q2 : SimA c es bs sl g n) : SimA c es (.t :: bs) sl (aCons (cV i) g) n := by
  intro ρ μ Q E R q
  show okE ((cV i ρ μ).bind fun v μ1 => (g ρ μ1).bind fun vs μ2 => .ok (v :: vs) μ2) _ _
  obtain ⟨l, h1, h2⟩ := R.at' i _ hs
  have e : cV i ρ μ = .ok (.loc l) μ := by unfold cV; rw [h1]
  rw [e]
  show okE ((g ρ μ).bind fun vs μ2 => .ok (.loc l :: vs) μ2) _ _
  rw [okE_bind]
  exact okE_mono (q2 ρ μ Q E R q) (fun vs μ2 ⟨S, b, rb, qb⟩ => ⟨S, b, ⟨⟨l, rfl, h2⟩, rb⟩, qb⟩) (fun _ _ _ z => z)
def allS : List PK → Bool
  | [] => true
  | .s :: r => allS r
  | _ => false
theorem ArgR.dats {ρ : Env} : ∀ {bs : List PK} {vs : List Val} {xs : List D}, allS bs = true → ArgR c sl ρ bs vs xs → dats vs = some xs
  | [], [], [], _, _ => rfl
  | .s :: bs, v :: vs, x :: xs, h, ⟨r, t⟩ => by
    subst r
    show (match FW.dats vs with | some xs => some (x :: xs) | none => none) = _
    rw [ArgR.dats (show allS bs = true from h) t]
  | [], [], _ :: _, _, h => h.elim
  | [], _ :: _, _, _, h => h.elim
  | .s :: _, [], _, _, h => h.elim
  | .s :: _, _ :: _, [], _, h => h.elim
  | .f :: _, _, _, h, _ => nomatch h
  | .t :: _, _, _, h, _ => nomatch h
theorem q_tup {es : β → List D} {bs : List PK} {g : Cd (List Val)} {n : M β} {g' : β → α} (q : SimA c es bs sl g n) (hb : allS bs = true) (he : ∀ b, .tuple (es b) = e (g' b)) (hl : ∀ b, lim (es b).length = true) : SimD c e sl (cTup g) (M.bind n fun b => M.pure (g' b)) := fun ρ =>
  GG.bind (q ρ) fun vs b rb => fun μ Q E R z => by
    simp only [rb.dats hb, hl, if_true]
    exact ⟨R.bs.same, _, by rw [he], z⟩
theorem q_lst {es : β → List D} {bs : List PK} {g : Cd (List Val)} {n : M β} {g' : β → α} (q : SimA c es bs sl g n) (hb : allS bs = true) (he : ∀ b, .list (es b) = e (g' b)) (hl : ∀ b, lim (es b).length = true) : SimD c e sl (cLst g) (M.bind n fun b => M.pure (g' b)) := fun ρ =>
  GG.bind (q ρ) fun vs b rb => fun μ Q E R z => by
    simp only [rb.dats hb, hl, if_true]
    exact ⟨R.bs.same, _, by rw [he], z⟩
def noT : List PK → Bool
  | [] => true
  | .t :: _ => false
  | _ :: r => noT r
theorem ArgR.rds {ρ : Env} {μ : Sto} (R : Rl c sl ρ μ) : ∀ {bs : List PK} {vs : List Val} {xs : List D}, noT bs = true → ArgR c sl ρ bs vs xs → rds vs μ = some xs
  | [], [], [], _, _ => rfl
  | .s :: bs, v :: vs, x :: xs, h, ⟨r, t⟩ => by
    subst r
    show (match rd (.d x) μ, FW.rds vs μ with | some x, some xs => some (x :: xs) | _, _ => none) = _
    rw [ArgR.rds R (show noT bs = true from h) t]
    rfl
  | .f :: bs, v :: vs, x :: xs, h, ⟨r, t⟩ => by
    show (match rd v μ, FW.rds vs μ with | some x, some xs => some (x :: xs) | _, _ => none) = _
    rw [ArgR.rds R (show noT bs = true from h) t, r.rd R]
  | [], [], _ :: _, _, h => h.elim
  | [], _ :: _, _, _, h => h.elim
  | .s :: _, [], _, _, h => h.elim
  | .s :: _, _ :: _, [], _, h => h.elim
  | .f :: _, [], _, _, h => h.elim
  | .f :: _, _ :: _, [], _, h => h.elim
  | .t :: _, _, _, h, _ => nomatch h
def OpB (es : β → List D) (e : α → D) (o : List D → Option D) (tf : β → Option α) : Prop := ∀ b z, tf b = some z → o (es b) = some (e z)
theorem q_b {es : β → List D} {bs : List PK} {g : Cd (List Val)} {n : M β} {o : List D → Option D} {tf : β → Option α} (ho : OpB es e o tf) (q : SimA c es bs sl g n) (hb : noT bs = true) : SimD c e sl (cB o g) (M.bind n fun b => (X.of (tf b)).m) := fun ρ =>
  GG.bind (q ρ) fun vs b rb => GG.of fun μ z R hz => ⟨.d (e z), by
    unfold pB
    rw [rb.rds R hb]
    simp only [ho _ _ hz], rfl⟩
def isiD (T : String) (x : D) : Option Bool := match tyN x with
  | some n => some (isiB n T)
  | none => none
theorem q_isi {T : String} {m : M D} (q : SimE c eD sl f m) : SimD c eB sl (cIsi T f) (M.bind m fun x => (X.of (isiD T x)).m) := fun ρ =>
  GG.bind (q ρ) fun v a ra => GG.of fun μ z R hz => ⟨.d (eB z), by
    rw [ra.rd R]
    unfold isiD at hz
    cases e : tyN a with
    | none => rw [e] at hz; cases hz
    | some n =>
      rw [e] at hz
      cases hz
      simp only [eD, e], rfl⟩
/-! ### slices -/
theorem q_no : SimO c sl cNo (M.pure none) := fun ρ => GG.pure rfl
theorem q_part {m : M Int} (q : SimE c eI sl f m) : SimO c sl (cPart f) (M.bind m fun i => M.pure (some i)) := fun ρ =>
  GG.bind (q ρ) fun v a ra => fun μ Q E R z => by
    rw [ra.rd R]
    exact ⟨R.bs.same, _, rfl, z⟩
def cutT (xs : List α) (lo hi : Option Int) : List α := (xs.drop (HT.sIx xs.length 0 lo)).take (HT.sIx xs.length xs.length hi - HT.sIx xs.length 0 lo)
theorem cut_map (xs : List α) (lo hi : Option Int) : cut (xs.map e) lo hi = (cutT xs lo hi).map e := by
  unfold cut cutT
  rw [List.length_map, List.map_take, List.map_drop]
theorem q_slT {m : M (List α)} {l h : Cd (Option Int)} {n k : M (Option Int)} (q : SimE c (eT e) sl f m) (ql : SimO c sl l n) (qh : SimO c sl h k) : SimD c (eT e) sl (cSl f l h) (M.bind m fun xs => M.bind n fun lo => M.bind k fun hi => M.pure (cutT xs lo hi)) := fun ρ =>
  GG.bind (q ρ) fun v xs r => GG.bind (ql ρ) fun lo' lo rl => GG.bind (qh ρ) fun hi' hi rh => fun μ Q E R z => by
    subst rl rh
    unfold pSl
    rw [r.rd R]
    exact ⟨R.bs.same, _, by rw [cut_map], z⟩
theorem q_slL {m : M (List α)} {l h : Cd (Option Int)} {n k : M (Option Int)} (q : SimE c (eL e) sl f m) (ql : SimO c sl l n) (qh : SimO c sl h k) : SimD c (eL e) sl (cSl f l h) (M.bind m fun xs => M.bind n fun lo => M.bind k fun hi => M.pure (cutT xs lo hi)) := fun ρ =>
  GG.bind (q ρ) fun v xs r => GG.bind (ql ρ) fun lo' lo rl => GG.bind (qh ρ) fun hi' hi rh => fun μ Q E R z => by
    subst rl rh
    unfold pSl
    rw [r.rd R]
    exact ⟨R.bs.same, _, by rw [cut_map], z⟩
/-! ### tests -/
theorem q_tr {m : M Bool} (q : SimE c eB sl f m) : SimT c sl (cTr f) m := by
  intro ρ μ Q E R z
  show okE ((f ρ μ).bind tr) _ _
  rw [okE_bind]
  refine okE_mono (q ρ μ Q E R z) (fun v μ1 ⟨S, a, ra, qa⟩ => ?_) (fun _ _ _ z => z)
  unfold tr
  rw [ra.rd (R.sm S)]
  exact ⟨S, a, rfl, qa⟩
def OpP (e : α → D) (tf : α → Option Bool) : Prop := ∀ a b, tf a = some b → truB (e a) = some b
theorem q_tru {tf : α → Option Bool} (ho : OpP e tf) (q : SimE c e sl f m) : SimT c sl (cTru f) (M.bind m fun a => (X.of (tf a)).m) := fun ρ =>
  GG.bind (q ρ) fun v a ra => GG.of fun μ z R hz => ⟨z, by
    rw [ra.rd R]
    simp only [ho _ _ hz], rfl⟩
theorem q_truB {m : M Bool} (q : SimE c eB sl f m) : SimT c sl (cTru f) m := by
  intro ρ μ Q E R z
  show okE ((f ρ μ).bind _) _ _
  rw [okE_bind]
  refine okE_mono (q ρ μ Q E R z) (fun v μ1 ⟨S, a, ra, qa⟩ => ?_) (fun _ _ _ z => z)
  rw [ra.rd (R.sm S)]
  exact ⟨S, a, rfl, qa⟩
theorem q_tand {t u : Cd Bool} {m n : M Bool} (q1 : SimT c sl t m) (q2 : SimT c sl u n) : SimT c sl (tAndC t u) (M.bind m fun a => M.ite a n (M.pure false)) := fun ρ =>
  GG.bind (q1 ρ) fun v a ra => GG.ite (v := .exn) (r1 := u ρ) (r2 := fun μ => .ok false μ) (fun μ R => by rw [ra]; cases a <;> rfl) (q2 ρ) (GG.pure rfl)
theorem q_tor {t u : Cd Bool} {m n : M Bool} (q1 : SimT c sl t m) (q2 : SimT c sl u n) : SimT c sl (tOrC t u) (M.bind m fun a => M.ite a (M.pure true) n) := fun ρ =>
  GG.bind (q1 ρ) fun v a ra => GG.ite (v := .exn) (r2 := u ρ) (r1 := fun μ => .ok true μ) (fun μ R => by rw [ra]; cases a <;> rfl) (GG.pure rfl) (q2 ρ)
theorem q_tnot {t : Cd Bool} {m : M Bool} (q1 : SimT c sl t m) : SimT c sl (tNotC t) (M.bind m fun a => M.pure (!a)) := fun ρ =>
  GG.bind (q1 ρ) fun v a ra => fun μ Q E R z => by
    subst ra
    exact ⟨R.bs.same, _, rfl, z⟩
theorem q_yes : SimT c sl cYes (M.pure true) := fun ρ => GG.pure rfl
end FW


set_option Elab.async false
set_option linter.all false
set_option maxRecDepth 100000
/-! # Typed code: walks, comprehensions, calls -/
namespace FW
open PySem PySem.Spec
variable {α β γ δ ε : Type} {c : Cf} {sl : List Slot} {e : α → D} {e1 : β → D} {e2 : γ → D} {f g h : Cd Val} {m : M α}
/-! ### comprehensions, typed -/
def X.lc (p : α → X Bool) (g : α → X β) : List α → X (List β)
  | [] => .ok []
  | x :: xs => X.bind (X.sure (p x)) fun b => if b = true then X.bind (X.sure (g x)) fun y => X.bind (X.lc p g xs) fun ys => .ok (y :: ys) else X.lc p g xs
def M.lc (p : α → M Bool) (g : α → M β) : List α → M (List β)
  | [] => M.pure []
  | x :: xs => M.bind (M.sure (p x)) fun b => M.ite b (M.bind (M.sure (g x)) fun y => M.bind (M.lc p g xs) fun ys => M.pure (y :: ys)) (M.lc p g xs)
theorem X.m_lc {p : α → X Bool} {g : α → X β} : ∀ {xs : List α}, (X.lc p g xs).m = M.lc (fun x => (p x).m) (fun x => (g x).m) xs
  | [] => rfl
  | x :: xs => by
    unfold X.lc M.lc
    simp only [X.m_bind, X.m_sure, X.m_ite, X.m_lc (xs := xs), X.m_ok]
def X.lc2 (p : α → X Bool) (it : α → X (List β)) (p1 : α → β → X Bool) (g : α → β → X γ) : List α → X (List γ)
  | [] => .ok []
  | x :: xs => X.bind (X.sure (p x)) fun b => if b = true then X.bind (X.sure (it x)) fun ws => X.bind (X.lc (p1 x) (g x) ws) fun ys => X.bind (X.lc2 p it p1 g xs) fun zs => .ok (ys ++ zs) else X.lc2 p it p1 g xs
def M.lc2 (p : α → M Bool) (it : α → M (List β)) (p1 : α → β → M Bool) (g : α → β → M γ) : List α → M (List γ)
  | [] => M.pure []
  | x :: xs => M.bind (M.sure (p x)) fun b => M.ite b (M.bind (M.sure (it x)) fun ws => M.bind (M.lc (p1 x) (g x) ws) fun ys => M.bind (M.lc2 p it p1 g xs) fun zs => M.pure (ys ++ zs)) (M.lc2 p it p1 g xs)
theorem X.m_lc2 {p : α → X Bool} {it : α → X (List β)} {p1 : α → β → X Bool} {g : α → β → X γ} : ∀ {xs : List α}, (X.lc2 p it p1 g xs).m = M.lc2 (fun x => (p x).m) (fun x => (it x).m) (fun x y => (p1 x y).m) (fun x y => (g x y).m) xs
  | [] => rfl
  | x :: xs => by
    unfold X.lc2 M.lc2
    simp only [X.m_bind, X.m_sure, X.m_ite, X.m_lc, X.m_lc2 (xs := xs), X.m_ok]
def limO (xs : List β) : Option (List β) := if lim xs.length = true then some xs else none
/-! ### slots -/
def wipeS (sl : List Slot) : List Nat → List Slot
  | [] => sl
  | v :: vs => (wipeS sl vs).set v .u
theorem SlI.u {c : Cf} {μ : Sto} : SlI c μ .u (some none) := ⟨none, rfl, by intro h; cases h⟩
theorem Rl.set {ρ : Env} {μ : Sto} {i : Nat} {s : Slot} {o : Option Val} (R : Rl c sl ρ μ) (hs : SlI c μ s (some o)) (hc : ∀ xs, s ≠ .c xs ∧ s ≠ .k xs) : Rl c (sl.set i s) (ρ.set i o) μ where
  len := by rw [List.length_set, List.length_set]; exact R.len
  at' := fun j t h => by
    rcases getElem?_set_eq h with ⟨rfl, rfl, hl⟩ | ⟨hj, h⟩
    · rw [List.getElem?_set_self (by rw [R.len]; exact hl)]; exact hs
    · rw [List.getElem?_set_ne hj]; exact R.at' j t h
  dist := fun j k xs ys hjk h1 h2 => by
    rcases getElem?_set_eq h1 with ⟨rfl, h, _⟩ | ⟨hj, h1⟩
    · exact ((hc _).1 h.symm).elim
    rcases getElem?_set_eq h2 with ⟨rfl, h, _⟩ | ⟨hk, h2⟩
    · exact ((hc _).1 h.symm).elim
    rw [List.getElem?_set_ne hj, List.getElem?_set_ne hk]
    exact R.dist j k xs ys hjk h1 h2
  one := fun j k xs ys h1 h2 => by
    rcases getElem?_set_eq h1 with ⟨rfl, h, _⟩ | ⟨hj, h1⟩
    · exact ((hc _).2 h.symm).elim
    rcases getElem?_set_eq h2 with ⟨rfl, h, _⟩ | ⟨hk, h2⟩
    · exact ((hc _).2 h.symm).elim
    exact R.one j k xs ys h1 h2
  bs := R.bs
theorem Rl.setD {ρ : Env} {μ : Sto} {i : Nat} {x : D} (R : Rl c sl ρ μ) : Rl c (sl.set i (.d x)) (ρ.set i (some (.d x))) μ := R.set rfl (fun _ => ⟨fun h => (by cases h), fun h => (by cases h)⟩)
theorem Rl.setU {ρ : Env} {μ : Sto} {i : Nat} (R : Rl c sl ρ μ) : Rl c (sl.set i .u) (ρ.set i none) μ := R.set SlI.u (fun _ => ⟨fun h => (by cases h), fun h => (by cases h)⟩)
theorem Rl.wipe {ρ : Env} {μ : Sto} (R : Rl c sl ρ μ) : ∀ vs : List Nat, Rl c (wipeS sl vs) (wipeE ρ vs) μ
  | [] => R
  | v :: vs => (R.wipe vs).setU
/-- how a target is set -/
def BdT (vs : List Nat) (bd : D → Env → Option Env) (e : α → D) (sx : List Slot → α → List Slot) : Prop := ∀ (c : Cf) (sl : List Slot) (ρ : Env) (x : α), ∃ ρ1, bd (e x) (wipeE ρ vs) = some ρ1 ∧ ∀ μ, Rl c sl ρ μ → Rl c (sx (wipeS sl vs) x) ρ1 μ
theorem q_bn {vs : List Nat} (i : Nat) : BdT vs (bN i) e (fun sl x => sl.set i (.d (e x))) := fun c sl ρ x => ⟨_, rfl, fun μ R => (R.wipe vs).setD⟩
theorem q_bp {vs : List Nat} (i j : Nat) : BdT vs (bP i j) (eP2 e e1) (fun sl x => (sl.set i (.d (e x.1))).set j (.d (e1 x.2))) := fun c sl ρ x => ⟨_, rfl, fun μ R => ((R.wipe vs).setD).setD⟩
theorem lc_go {w : Walked} {ρ : Env} {vs : List Nat} {bd : D → Env → Option Env} {cnd : Cd Bool} {sx : List Slot → α → List Slot} {mc : α → M Bool} {mf : α → M β} (hw : ∀ μ, Rl c sl ρ μ → okB w μ = true) (hb : BdT vs bd e sx)
    (hc : ∀ x, SimT c (sx (wipeS sl vs) x) cnd (mc x)) (hf : ∀ x, SimD c e1 (sx (wipeS sl vs) x) f (mf x)) : ∀ (xs : List α) (acc : List D) (μ : Sto) (Q : List β → Prop) (E : Str → D → Prop), Rl c sl ρ μ → M.lc mc mf xs Q E →
    ∃ ys μ', lcRun w (wipeE ρ vs) bd cnd f (xs.map e) acc μ = .ok (acc ++ ys.map e1) μ' ∧ Sm c μ μ' ∧ Q ys
  | [], acc, μ, Q, E, R, q => ⟨[], μ, by simp [lcRun], R.bs.same, q⟩
  | x :: xs, acc, μ, Q, E, R, q => by
    obtain ⟨ρ1, hb1, hb2⟩ := hb c sl ρ x
    obtain ⟨v, μ1, a, h1, S1, rfl, q⟩ := (hc x ρ1).sure (E := E) (hb2 μ R) q
    have R1 := R.sm S1
    cases v with
    | false =>
      obtain ⟨ys, μ', h2, S2, q2⟩ := lc_go hw hb hc hf xs acc μ1 Q E R1 q
      refine ⟨ys, μ', ?_, S1.trans S2, q2⟩
      rw [List.map_cons]
      unfold lcRun
      simp only [hb1, h1, hw μ1 R1, if_true]
      exact h2
    | true =>
      obtain ⟨v, μ2, y, h2, S2, rfl, q⟩ := (hf x ρ1).sure (E := E) (hb2 μ1 R1) q
      have R2 := R1.sm S2
      obtain ⟨ys, μ', h3, S3, q3⟩ := lc_go hw hb hc hf xs (acc ++ [e1 y]) μ2 _ E R2 q
      refine ⟨y :: ys, μ', ?_, (S1.trans S2).trans S3, q3⟩
      rw [List.map_cons]
      unfold lcRun
      simp only [hb1, h1, h2, hw μ2 R2, if_true, h3]
      simp
theorem q_lc {fw : Cd Walked} {vs : List Nat} {bd : D → Env → Option Env} {cnd : Cd Bool} {sx : List Slot → α → List Slot} {m : M (List α)} {mc : α → M Bool} {mf : α → M β} (hi : SimJ c e sl fw m) (hb : BdT vs bd e sx)
    (hc : ∀ x, SimT c (sx (wipeS sl vs) x) cnd (mc x)) (hf : ∀ x, SimD c e1 (sx (wipeS sl vs) x) f (mf x)) : SimD c (eL e1) sl (cLc fw bd vs cnd f) (M.bind m fun xs => M.bind (M.lc mc mf xs) fun ys => (X.of (limO ys)).m) := fun ρ =>
  GG.bind (hi ρ) fun w xs rw' => fun μ Q E R q => by
    rw [if_pos (rw'.2 μ R)]
    obtain ⟨ys, μ', h1, S, q⟩ := lc_go (w := w) rw'.2 hb hc hf xs [] μ _ E R q
    rw [rw'.1, h1]
    rw [List.nil_append]
    unfold limO at q
    by_cases hl : lim ys.length = true
    · rw [if_pos hl] at q
      simp only [List.length_map, hl, if_true]
      exact ⟨S, ys, rfl, q⟩
    · rw [if_neg hl] at q
      exact q.elim
theorem lc2_go {w : Walked} {ρ : Env} {vs vs1 : List Nat} {bd bd1 : D → Env → Option Env} {cnd cnd1 : Cd Bool} {fw1 : Cd Walked} {sx : List Slot → α → List Slot} {sy : List Slot → β → List Slot} {mc : α → M Bool} {mi : α → M (List β)} {mc1 : α → β → M Bool} {mf : α → β → M γ} (hw : ∀ μ, Rl c sl ρ μ → okB w μ = true) (hb : BdT vs bd e sx) (hb1 : BdT vs1 bd1 e1 sy)
    (hc : ∀ x, SimT c (sx (wipeS sl vs) x) cnd (mc x)) (hi : ∀ x, SimJ c e1 (sx (wipeS sl vs) x) fw1 (mi x)) (hc1 : ∀ x y, SimT c (sy (wipeS (sx (wipeS sl vs) x) vs1) y) cnd1 (mc1 x y)) (hf : ∀ x y, SimD c e2 (sy (wipeS (sx (wipeS sl vs) x) vs1) y) f (mf x y)) :
    ∀ (xs : List α) (acc : List D) (μ : Sto) (Q : List γ → Prop) (E : Str → D → Prop), Rl c sl ρ μ → M.lc2 mc mi mc1 mf xs Q E →
    ∃ ys μ', lc2Run w (wipeE ρ vs) bd cnd fw1 bd1 vs1 cnd1 f (xs.map e) acc μ = .ok (acc ++ ys.map e2) μ' ∧ Sm c μ μ' ∧ Q ys
  | [], acc, μ, Q, E, R, q => ⟨[], μ, by simp [lc2Run], R.bs.same, q⟩
  | x :: xs, acc, μ, Q, E, R, q => by
    obtain ⟨ρ1, hbx, hb2⟩ := hb c sl ρ x
    obtain ⟨v, μ1, a, h1, S1, rfl, q⟩ := (hc x ρ1).sure (E := E) (hb2 μ R) q
    have R1 := R.sm S1
    cases v with
    | false =>
      obtain ⟨ys, μ', h2, S2, q2⟩ := lc2_go hw hb hb1 hc hi hc1 hf xs acc μ1 Q E R1 q
      refine ⟨ys, μ', ?_, S1.trans S2, q2⟩
      rw [List.map_cons]
      unfold lc2Run
      simp only [hbx, h1, hw μ1 R1, if_true]
      exact h2
    | true =>
      obtain ⟨w1, μ2, ws, h2, S2, rw', q⟩ := (hi x ρ1).sure (E := E) (hb2 μ1 R1) q
      have R2 := R1.sm S2
      obtain ⟨ys, μ3, h3, S3, q⟩ := lc_go (w := w1) rw'.2 hb1 (hc1 x) (hf x) ws acc μ2 _ E (hb2 μ2 R2) q
      have R3 := R2.sm S3
      obtain ⟨zs, μ4, h4, S4, q⟩ := lc2_go hw hb hb1 hc hi hc1 hf xs (acc ++ ys.map e2) μ3 _ E R3 q
      refine ⟨ys ++ zs, μ4, ?_, ((S1.trans S2).trans S3).trans S4, q⟩
      rw [List.map_cons]
      unfold lc2Run
      simp only [hbx, h1, h2, rw'.1, rw'.2 μ2 (hb2 μ2 R2), h3, hw μ3 R3, if_true, h4]
      simp
theorem q_lc2 {fw fw1 : Cd Walked} {vs vs1 : List Nat} {bd bd1 : D → Env → Option Env} {cnd cnd1 : Cd Bool} {sx : List Slot → α → List Slot} {sy : List Slot → β → List Slot} {m : M (List α)} {mc : α → M Bool} {mi : α → M (List β)} {mc1 : α → β → M Bool} {mf : α → β → M γ} (hi0 : SimJ c e sl fw m) (hb : BdT vs bd e sx)
    (hc : ∀ x, SimT c (sx (wipeS sl vs) x) cnd (mc x)) (hi : ∀ x, SimJ c e1 (sx (wipeS sl vs) x) fw1 (mi x)) (hb1 : BdT vs1 bd1 e1 sy) (hc1 : ∀ x y, SimT c (sy (wipeS (sx (wipeS sl vs) x) vs1) y) cnd1 (mc1 x y)) (hf : ∀ x y, SimD c e2 (sy (wipeS (sx (wipeS sl vs) x) vs1) y) f (mf x y)) :
    SimD c (eL e2) sl (cLc2 fw bd vs cnd fw1 bd1 vs1 cnd1 f) (M.bind m fun xs => M.bind (M.lc2 mc mi mc1 mf xs) fun ys => (X.of (limO ys)).m) := fun ρ =>
  GG.bind (hi0 ρ) fun w xs rw' => fun μ Q E R q => by
    rw [if_pos (rw'.2 μ R)]
    obtain ⟨ys, μ', h1, S, q⟩ := lc2_go (w := w) rw'.2 hb hb1 hc hi hc1 hf xs [] μ _ E R q
    rw [rw'.1, h1]
    rw [List.nil_append]
    unfold limO at q
    by_cases hl : lim ys.length = true
    · rw [if_pos hl] at q
      simp only [List.length_map, hl, if_true]
      exact ⟨S, ys, rfl, q⟩
    · rw [if_neg hl] at q
      exact q.elim
/-! ### what is walked over -/
theorem SimI.j {fw : Cd Walked} {m : M (List α)} (q : SimI c e sl fw m) : SimJ c e sl fw m := fun ρ => (q ρ).weak fun w xs ⟨h1, h2⟩ => ⟨h2, fun μ R => by unfold okB; rw [h1]⟩
theorem q_ivL {m : M (List α)} (q : SimD c (eL e) sl f m) : SimI c e sl (iV f) m := by
  intro ρ μ Q E R z
  show okE ((f ρ μ).bind _) _ _
  rw [okE_bind]
  refine okE_mono (q ρ μ Q E R z) (fun v μ1 ⟨S, a, ra, qa⟩ => ?_) (fun _ _ _ z => z)
  subst ra
  exact ⟨S, a, ⟨rfl, rfl⟩, qa⟩
theorem q_ivT {m : M (List α)} (q : SimE c (eT e) sl f m) : SimI c e sl (iV f) m := by
  intro ρ μ Q E R z
  show okE ((f ρ μ).bind _) _ _
  rw [okE_bind]
  refine okE_mono (q ρ μ Q E R z) (fun v μ1 ⟨S, a, ra, qa⟩ => ?_) (fun _ _ _ z => z)
  have ra := ra.dat (fun _ h => by cases h)
  subst ra
  exact ⟨S, a, ⟨rfl, rfl⟩, qa⟩
/-- a telling without dicts -/
def Gd (e : α → D) : Prop := ∀ a, sameD (e a) (e a) = true
theorem Gd.all {e : α → D} (h : Gd e) : ∀ xs : List α, sameA (xs.map e) (xs.map e) = true
  | [] => by simp [sameA]
  | x :: xs => by
    show sameA (e x :: xs.map e) (e x :: xs.map e) = true
    simp only [sameA, Bool.and_eq_true]
    exact ⟨h x, Gd.all h xs⟩
theorem gd_i : Gd eI := fun a => by show sameD (.int a) (.int a) = true; simp [sameD]
theorem gd_b : Gd eB := fun a => by show sameD (.bool a) (.bool a) = true; simp [sameD]
theorem gd_s : Gd eS := fun a => by show sameD (.str a) (.str a) = true; simp [sameD]
theorem gd_t {e : α → D} (h : Gd e) : Gd (eT e) := fun a => by show sameD (.tuple _) (.tuple _) = true; simp only [sameD]; exact h.all a
theorem gd_l {e : α → D} (h : Gd e) : Gd (eL e) := fun a => by show sameD (.list _) (.list _) = true; simp only [sameD]; exact h.all a
theorem gd_p {e : α → D} {e1 : β → D} (h : Gd e) (h1 : Gd e1) : Gd (eP2 e e1) := fun a => by
  show sameD (.tuple _) (.tuple _) = true
  simp only [sameD, sameA, h a.1, h1 a.2, Bool.and_true]
theorem gd_p3 {e : α → D} {e1 : β → D} {e2 : γ → D} (h : Gd e) (h1 : Gd e1) (h2 : Gd e2) : Gd (eP3 e e1 e2) := fun a => by
  show sameD (.tuple _) (.tuple _) = true
  simp only [sameD, sameA, h a.1, h1 a.2.1, h2 a.2.2, Bool.and_true]
/-- over a cell of one's own -/
theorem q_ivC {xs : List α} (i : Nat) (hs : sl[i]? = some (.c (xs.map e))) (hg : Gd e) : SimJ c e sl (iV (cV i)) (M.pure xs) := by
  intro ρ μ Q E R z
  obtain ⟨l, h1, h2, h3⟩ := R.at' i _ hs
  have e1 : iV (cV i) ρ μ = .ok (xs.map e, some l) μ := by
    unfold iV cV
    rw [h1]
    show (match itOf (.loc l) μ with | some w => FW.R.ok w μ | none => FW.R.stuck) = _
    unfold itOf
    simp only [h3]
  rw [e1]
  refine ⟨R.bs.same, xs, ⟨rfl, fun μ' R' => ?_⟩, z⟩
  obtain ⟨l', h1', h2', h3'⟩ := R'.at' i _ hs
  rw [h1] at h1'
  cases h1'
  unfold okB
  simp only [h3']
  exact hg.all xs
/-- over a parameter that is read only -/
theorem q_ivF {xs : List α} (i : Nat) (hs : sl[i]? = some (.f (.list (xs.map e)))) (hg : Gd e) : SimJ c e sl (iV (cV i)) (M.pure xs) := by
  intro ρ μ Q E R z
  obtain ⟨v, h1, h2⟩ := R.at' i _ hs
  have hv : cV i ρ μ = .ok v μ := by unfold cV; rw [h1]
  rcases h2 with rfl | ⟨l, ys, rfl, hl, ht, hb, hx⟩
  · unfold iV
    rw [hv]
    exact ⟨R.bs.same, xs, ⟨rfl, fun μ' R' => rfl⟩, z⟩
  · cases hx
    have hm := (R.bs.bas l hl ht).trans hb
    have e1 : iV (cV i) ρ μ = .ok (xs.map e, some l) μ := by
      unfold iV
      rw [hv]
      show (match itOf (.loc l) μ with | some w => FW.R.ok w μ | none => FW.R.stuck) = _
      unfold itOf
      simp only [hm]
    rw [e1]
    refine ⟨R.bs.same, xs, ⟨rfl, fun μ' R' => ?_⟩, z⟩
    unfold okB
    simp only [(R'.bs.bas l hl ht).trans hb]
    exact hg.all xs
def rngT (lo : Int) (n : Nat) : List Int := (List.range n).map fun (k : Nat) => lo + (k : Int)
theorem rng_T (lo : Int) (n : Nat) : rng lo n = (rngT lo n).map eI := by
  unfold rng rngT
  rw [List.map_map]
  rfl
def rg1 (n : Int) : Option (List Int) := if decide (-(2 ^ 62) ≤ n ∧ n < 2 ^ 62) = true then some (rngT 0 n.toNat) else none
def rg2 (a b : Int) : Option (List Int) := if decide (-(2 ^ 62) ≤ a ∧ a < 2 ^ 62 ∧ -(2 ^ 62) ≤ b ∧ b < 2 ^ 62) = true then some (rngT a (b - a).toNat) else none
theorem q_r1 {bs : List PK} {g : Cd (List Val)} {m : M (Int × Unit)} (q : SimA c (aC eI aN) bs sl g m) (hb : noT bs = true) : SimI c eI sl (iR1 g) (M.bind m fun p => (X.of (rg1 p.1)).m) := fun ρ =>
  GG.bind (q ρ) fun vs p r => GG.of fun μ z R hz => by
    rw [r.rds R hb]
    unfold rg1 at hz
    by_cases hd : decide (-(2 ^ 62) ≤ p.1 ∧ p.1 < 2 ^ 62) = true
    · rw [if_pos hd] at hz
      cases hz
      refine ⟨_, if_pos hd, rfl, ?_⟩
      exact rng_T _ _
    · rw [if_neg hd] at hz
      cases hz
theorem q_r2 {bs : List PK} {g : Cd (List Val)} {m : M (Int × Int × Unit)} (q : SimA c (aC eI (aC eI aN)) bs sl g m) (hb : noT bs = true) : SimI c eI sl (iR2 g) (M.bind m fun p => (X.of (rg2 p.1 p.2.1)).m) := fun ρ =>
  GG.bind (q ρ) fun vs p r => GG.of fun μ z R hz => by
    rw [r.rds R hb]
    unfold rg2 at hz
    by_cases hd : decide (-(2 ^ 62) ≤ p.1 ∧ p.1 < 2 ^ 62 ∧ -(2 ^ 62) ≤ p.2.1 ∧ p.2.1 < 2 ^ 62) = true
    · rw [if_pos hd] at hz
      cases hz
      refine ⟨_, if_pos hd, rfl, ?_⟩
      exact rng_T _ _
    · rw [if_neg hd] at hz
      cases hz
/-! ### calls -/
/-- arguments, as they stand in a store -/
def ArgF (μ : Sto) (tp : Option Nat) : List PK → List Val → List D → Prop
  | [], [], [] => True
  | .s :: bs, v :: vs, x :: xs => v = .d x ∧ ArgF μ tp bs vs xs
  | .f :: bs, v :: vs, x :: xs => (v = .d x ∨ ∃ l ys, v = .loc l ∧ tp ≠ some l ∧ μ[l]? = some (.lst ys) ∧ x = .list ys) ∧ ArgF μ tp bs vs xs
  | .t :: bs, v :: vs, xs => (∃ l, v = .loc l ∧ tp = some l) ∧ ArgF μ tp bs vs xs
  | _, _, _ => False
theorem RdV.toF {ρ : Env} {μ : Sto} {v : Val} {x : D} (R : Rl c sl ρ μ) (r : RdV c sl ρ v x) {tp : Option Nat} (ht : tp = none ∨ (tp = c.tp ∧ c.ow = false)) : v = .d x ∨ ∃ l ys, v = .loc l ∧ tp ≠ some l ∧ μ[l]? = some (.lst ys) ∧ x = .list ys := by
  rcases r with (h | ⟨l, xs, rfl, h1, h2, h3, rfl⟩) | ⟨i, xs, h1, h2, rfl⟩
  · exact .inl h
  · refine .inr ⟨l, xs, rfl, ?_, (R.bs.bas l h1 h2).trans h3, rfl⟩
    rcases ht with rfl | ⟨rfl, _⟩
    · intro z; cases z
    · exact h2
  · rcases h1 with h1 | h1
    · obtain ⟨l, e, hl, q⟩ := R.at' i _ h1
      rw [h2] at e
      cases e
      refine .inr ⟨l, xs, rfl, ?_, q, rfl⟩
      rcases ht with rfl | ⟨rfl, _⟩
      · intro z; cases z
      · exact fun z => absurd (R.bs.tap l z).1 (Nat.not_lt.mpr hl)
    · obtain ⟨l, e, hl, ho, q⟩ := R.at' i _ h1
      rw [h2] at e
      cases e
      refine .inr ⟨l, xs, rfl, ?_, q, rfl⟩
      rcases ht with rfl | ⟨rfl, hf⟩
      · intro z; cases z
      · rw [ho] at hf; cases hf
theorem ArgR.ln {ρ : Env} {μ : Sto} (R : Rl c sl ρ μ) : ∀ {bs : List PK} {vs : List Val} {xs : List D}, ArgR c sl ρ bs vs xs → vs.length = bs.length ∧ vs.all notExn = true
  | [], [], [], _ => ⟨rfl, rfl⟩
  | .s :: bs, v :: vs, x :: xs, ⟨r, t⟩ => by
    obtain ⟨h2, h3⟩ := ArgR.ln R (bs := bs) t
    exact ⟨by simp [h2], by subst r; simpa [notExn] using h3⟩
  | .f :: bs, v :: vs, x :: xs, ⟨r, t⟩ => by
    obtain ⟨h2, h3⟩ := ArgR.ln R (bs := bs) t
    exact ⟨by simp [h2], by rw [List.all_cons, r.ne R, h3]; rfl⟩
  | .t :: bs, v :: vs, xs, ⟨r, t⟩ => by
    obtain ⟨h2, h3⟩ := ArgR.ln R (bs := bs) t
    exact ⟨by simp [h2], by obtain ⟨l, rfl, _⟩ := r; simpa [notExn] using h3⟩
  | [], [], _ :: _, h => h.elim
  | [], _ :: _, _, h => h.elim
  | .s :: _, [], _, h => h.elim
  | .s :: _, _ :: _, [], h => h.elim
  | .f :: _, [], _, h => h.elim
  | .f :: _, _ :: _, [], h => h.elim
  | .t :: _, [], _, h => h.elim
theorem ArgR.toF {ρ : Env} {μ : Sto} (R : Rl c sl ρ μ) {tp : Option Nat} (ht : tp = none ∨ (tp = c.tp ∧ c.ow = false)) : ∀ {bs : List PK} {vs : List Val} {xs : List D}, (tp = none → noT bs = true) → ArgR c sl ρ bs vs xs → ArgF μ tp bs vs xs
  | [], [], [], _, _ => trivial
  | .s :: bs, v :: vs, x :: xs, hn, ⟨r, t⟩ => ⟨r, ArgR.toF R ht (bs := bs) hn t⟩
  | .f :: bs, v :: vs, x :: xs, hn, ⟨r, t⟩ => ⟨r.toF R ht, ArgR.toF R ht (bs := bs) hn t⟩
  | .t :: bs, v :: vs, xs, hn, ⟨r, t⟩ => by
    rcases ht with rfl | ⟨rfl, hf⟩
    · exact absurd (hn rfl) (by simp [noT])
    · exact ⟨r, ArgR.toF R (.inr ⟨rfl, hf⟩) (bs := bs) (fun z => by obtain ⟨l, _, h⟩ := r; rw [z] at h; cases h) t⟩
  | [], [], _ :: _, _, h => h.elim
  | [], _ :: _, _, _, h => h.elim
  | .s :: _, [], _, _, h => h.elim
  | .s :: _, _ :: _, [], _, h => h.elim
  | .f :: _, [], _, _, h => h.elim
  | .f :: _, _ :: _, [], _, h => h.elim
  | .t :: _, [], _, _, h => h.elim
/-- what a call gives -/
def FnM (F : Fn) (ti : List D → Prop) (bs : List PK) (es : α → List D) (e : β → D) (t : α → M β) : Prop :=
  ∀ (a : α) (vs : List Val) (μ : Sto) (tp : Option Nat) (Q : β → Prop) (E : Str → D → Prop), (∀ l, tp = some l → l < μ.length ∧ ∃ xs, μ[l]? = some (.lst xs) ∧ ti xs) → ArgF μ tp bs vs (es a) → t a Q E →
    okE (F vs μ) (fun v μ' => Sm ⟨μ.length, μ, tp, ti, false⟩ μ μ' ∧ ∃ b, v = .d (e b) ∧ Q b) (fun cn pl μ' => Sm ⟨μ.length, μ, tp, ti, false⟩ μ μ' ∧ E cn pl)
def FnX (F : Fn) (bs : List PK) (es : α → List D) (e : β → D) (t : α → X β) : Prop := ∀ ti, FnM F ti bs es e (fun a => (t a).m)
theorem callGo {F : Fn} {vs : List Val} {μ : Sto} {k : Nat} {Q : Val → Sto → Prop} {E : Str → D → Sto → Prop} (h1 : vs.length = k) (h2 : vs.all notExn = true) (h : okE (F vs μ) (fun v μ' => notExn v = true ∧ Q v μ') E) :
    okE (if vs.length = k ∧ vs.all notExn = true then match F vs μ with
      | .ok v μ2 => if notExn v = true then .ok v μ2 else .stuck
      | o => o
    else .stuck) Q E := by
  rw [if_pos ⟨h1, h2⟩]
  cases e : F vs μ with
  | ok v μ' =>
    rw [e] at h
    obtain ⟨h3, h4⟩ := h
    simp only [h3, if_true]
    exact h4
  | exc cn pl μ' => rw [e] at h; exact h
  | stuck => rw [e] at h; exact h.elim
theorem q_callM {F : Fn} {bs : List PK} {es : α → List D} {t : α → M β} {k : Nat} {g : Cd (List Val)} {m : M α} (hF : FnM F c.ti bs es e1 t) (q : SimA c es bs sl g m) (hk : k = bs.length) (ho : c.ow = false := by rfl) : SimD c e1 sl (cCall k F g) (M.bind m t) := fun ρ =>
  GG.bind (q ρ) fun vs a r => fun μ Q E R z => by
    obtain ⟨h2, h3⟩ := r.ln R
    refine callGo (h2.trans hk.symm) h3 ?_
    by_cases hn : c.tp = none ∧ noT bs = false
    · exfalso
      have : ∀ {bs : List PK} {vs : List Val} {xs : List D}, noT bs = false → ArgR c sl ρ bs vs xs → ∃ l, c.tp = some l := by
        intro bs
        induction bs with
        | nil => intro _ _ h _; cases h
        | cons b bs ih =>
          intro vs xs h r
          cases b with
          | s =>
            match vs, xs, r with
            | v :: vs, x :: xs, ⟨_, t⟩ => exact ih h t
          | f =>
            match vs, xs, r with
            | v :: vs, x :: xs, ⟨_, t⟩ => exact ih h t
          | t =>
            match vs, xs, r with
            | v :: vs, xs, ⟨⟨l, _, hl⟩, _⟩ => exact ⟨l, hl⟩
      obtain ⟨l, hl⟩ := this hn.2 r
      rw [hn.1] at hl
      cases hl
    · have h1 := r.toF R (tp := c.tp) (.inr ⟨rfl, ho⟩) (fun z => by cases hh : noT bs with | true => rfl | false => exact (hn ⟨z, hh⟩).elim)
      refine okE_mono (hF a vs μ c.tp Q E (fun l hl => ⟨Nat.lt_of_lt_of_le (R.bs.tap l hl).1 R.bs.le, (R.bs.tap l hl).2⟩) h1 z) ?_ ?_
      · rintro v μ' ⟨S, b, rfl, qb⟩
        exact ⟨rfl, ⟨S.len, fun l hl => S.eq l (by rcases hl with hl | hl; exact .inl hl; rw [ho] at hl; cases hl), S.tap⟩, b, rfl, qb⟩
      · rintro cn pl μ' ⟨S, qe⟩
        exact ⟨⟨S.len, fun l hl => S.eq l (by rcases hl with hl | hl; exact .inl hl; rw [ho] at hl; cases hl), S.tap⟩, qe⟩
theorem q_call {F : Fn} {bs : List PK} {es : α → List D} {t : α → X β} {k : Nat} {g : Cd (List Val)} {m : M α} (hF : FnX F bs es e1 t) (q : SimA c es bs sl g m) (hk : k = bs.length) (hn : noT bs = true := by rfl) : SimD c e1 sl (cCall k F g) (M.bind m fun a => (t a).m) := fun ρ =>
  GG.bind (q ρ) fun vs a r => fun μ Q E R z => by
    obtain ⟨h2, h3⟩ := r.ln R
    refine callGo (h2.trans hk.symm) h3 ?_
    have same : ∀ {μ' : Sto}, Sm ⟨μ.length, μ, none, c.ti, false⟩ μ μ' → Sm c μ μ' := fun S => ⟨S.len, fun l _ => S.eq l (.inl fun z => by cases z), fun l hl => by
      obtain ⟨xs, h1, h2⟩ := (R.bs.tap l hl).2
      exact ⟨xs, by rw [S.eq l (.inl fun z => by cases z)]; exact h1, h2⟩⟩
    refine okE_mono (hF c.ti a vs μ none Q E (fun l hl => by cases hl) (r.toF R (.inl rfl) fun _ => hn) z) ?_ ?_
    · rintro v μ' ⟨S, b, rfl, qb⟩
      exact ⟨rfl, same S, b, rfl, qb⟩
    · rintro cn pl μ' ⟨S, qe⟩
      exact ⟨same S, qe⟩
end FW


set_option Elab.async false
set_option linter.all false
set_option maxRecDepth 100000
/-! # Typed code: statements, functions -/
namespace FW
open PySem PySem.Spec
variable {α β γ δ ε σ σ1 τ : Type} {c : Cf} {sl : List Slot} {e : α → D} {e1 : γ → D} {eb : β → D × Option (List D)} {ex : Option (List Slot)} {el : τ → List Slot} {es : σ → List Slot} {f g h : Cd Val} {m : M α}
/-! ### typed statements -/
def X.seq (x : X (Fl σ1 τ β)) (k : σ1 → X (Fl σ τ β)) : X (Fl σ τ β) := X.bind x fun o => match o with
  | .next s => k s
  | .ret b => .ok (.ret b)
  | .brk s => .ok (.brk s)
  | .cont s => .ok (.cont s)
def M.seq (x : M (Fl σ1 τ β)) (k : σ1 → M (Fl σ τ β)) : M (Fl σ τ β) := M.bind x fun o => match o with
  | .next s => k s
  | .ret b => M.pure (.ret b)
  | .brk s => M.pure (.brk s)
  | .cont s => M.pure (.cont s)
theorem X.m_seq {x : X (Fl σ1 τ β)} {k : σ1 → X (Fl σ τ β)} : (X.seq x k).m = M.seq x.m (fun s => (k s).m) := by
  cases x with
  | ok o => cases o <;> rfl
  | exc _ _ => rfl
  | no => rfl
def X.for (body : σ → α → X (Fl σ σ β)) : List α → σ → X (Fl σ τ β)
  | [], s => .ok (.next s)
  | x :: xs, s => X.bind (body s x) fun o => match o with
    | .next s => X.for body xs s
    | .cont s => X.for body xs s
    | .brk s => .ok (.next s)
    | .ret b => .ok (.ret b)
def M.for (body : σ → α → M (Fl σ σ β)) : List α → σ → M (Fl σ τ β)
  | [], s => M.pure (.next s)
  | x :: xs, s => M.bind (body s x) fun o => match o with
    | .next s => M.for body xs s
    | .cont s => M.for body xs s
    | .brk s => M.pure (.next s)
    | .ret b => M.pure (.ret b)
theorem X.m_for {body : σ → α → X (Fl σ σ β)} : ∀ {xs : List α} {s : σ}, (X.for body xs s : X (Fl σ τ β)).m = M.for (fun s x => (body s x).m) xs s
  | [], s => rfl
  | x :: xs, s => by
    unfold X.for M.for
    cases body s x with
    | ok o =>
      cases o with
      | next s' => exact X.m_for (xs := xs)
      | cont s' => exact X.m_for (xs := xs)
      | brk _ => rfl
      | ret _ => rfl
    | exc _ _ => rfl
    | no => rfl
def X.wh (cn : σ → X Bool) (b : σ → X (Fl σ σ β)) : Nat → σ → X (Fl σ τ β)
  | 0, _ => .no
  | k + 1, s => X.bind (cn s) fun t => if t = true then X.bind (b s) fun o => match o with
      | .next s => X.wh cn b k s
      | .cont s => X.wh cn b k s
      | .brk s => .ok (.next s)
      | .ret r => .ok (.ret r)
    else .ok (.next s)
def M.wh (cn : σ → M Bool) (b : σ → M (Fl σ σ β)) : Nat → σ → M (Fl σ τ β)
  | 0, _ => M.no
  | k + 1, s => M.bind (cn s) fun t => M.ite t (M.bind (b s) fun o => match o with
      | .next s => M.wh cn b k s
      | .cont s => M.wh cn b k s
      | .brk s => M.pure (.next s)
      | .ret r => M.pure (.ret r)) (M.pure (.next s))
theorem X.m_wh {cn : σ → X Bool} {b : σ → X (Fl σ σ β)} : ∀ {k : Nat} {s : σ}, (X.wh cn b k s : X (Fl σ τ β)).m = M.wh (fun s => (cn s).m) (fun s => (b s).m) k s
  | 0, s => rfl
  | k + 1, s => by
    unfold X.wh M.wh
    rw [X.m_bind]
    congr 1
    funext t
    rw [X.m_ite]
    congr 1
    cases b s with
    | ok o =>
      cases o with
      | next s' => exact X.m_wh (k := k)
      | cont s' => exact X.m_wh (k := k)
      | brk _ => rfl
      | ret _ => rfl
    | exc _ _ => rfl
    | no => rfl
def X.try (x : X α) (h : Str → D → X α) : X α := match x with
  | .exc cn pl => h cn pl
  | o => o
def M.try (x : M α) (h : Str → D → M α) : M α := fun Q E => x Q (fun cn pl => h cn pl Q E)
theorem X.m_try {x : X α} {h : Str → D → X α} : (X.try x h).m = M.try x.m (fun cn pl => (h cn pl).m) := by cases x <;> rfl
def X.retO (x : X (Fl σ τ β)) : X (Fl σ τ β) := X.bind x fun o => match o with
  | .ret b => .ok (.ret b)
  | _ => .no
def M.retO (x : M (Fl σ τ β)) : M (Fl σ τ β) := M.bind x fun o => match o with
  | .ret b => M.pure (.ret b)
  | _ => M.no
theorem X.m_retO {x : X (Fl σ τ β)} : (X.retO x).m = M.retO x.m := by
  cases x with
  | ok o => cases o <;> rfl
  | exc _ _ => rfl
  | no => rfl
def X.fn (o : Option β) (x : X (Fl σ Empty β)) : X β := X.bind x fun r => match r with
  | .next _ => X.of o
  | .ret b => .ok b
  | .brk s => nomatch s
  | .cont s => nomatch s
def M.fn (o : Option β) (x : M (Fl σ Empty β)) : M β := M.bind x fun r => match r with
  | .next _ => (X.of o).m
  | .ret b => M.pure b
  | .brk s => nomatch s
  | .cont s => nomatch s
theorem X.m_fn {o : Option β} {x : X (Fl σ Empty β)} : (X.fn o x).m = M.fn o x.m := by
  cases x with
  | ok r => cases r with
    | next _ => rfl
    | ret _ => rfl
    | brk s => nomatch s
    | cont s => nomatch s
  | exc _ _ => rfl
  | no => rfl
/-! ### less is known -/
def LeS : List Slot → List Slot → Prop
  | [], [] => True
  | a :: as, b :: bs => (b = a ∨ (b = .u ∧ a ≠ .x)) ∧ LeS as bs
  | _, _ => False
theorem ls_n : LeS [] [] := trivial
theorem ls_k {a : Slot} {as bs : List Slot} (h : LeS as bs) : LeS (a :: as) (a :: bs) := ⟨.inl rfl, h⟩
theorem ls_u {a : Slot} {as bs : List Slot} (h : LeS as bs) (ha : a ≠ .x := by intro h; cases h) : LeS (a :: as) (.u :: bs) := ⟨.inr ⟨rfl, ha⟩, h⟩
theorem LeS.len : ∀ {as bs : List Slot}, LeS as bs → as.length = bs.length
  | [], [], _ => rfl
  | _ :: _, _ :: _, ⟨_, h⟩ => by rw [List.length_cons, List.length_cons, LeS.len h]
  | [], _ :: _, h => h.elim
  | _ :: _, [], h => h.elim
theorem LeS.get : ∀ {as bs : List Slot} {i : Nat} {b : Slot}, LeS as bs → bs[i]? = some b → ∃ a, as[i]? = some a ∧ (b = a ∨ (b = .u ∧ a ≠ .x))
  | a :: as, b :: bs, 0, b', ⟨h, _⟩, e => by
    simp at e; subst e
    exact ⟨a, rfl, h⟩
  | a :: as, b :: bs, i + 1, b', ⟨_, h⟩, e => LeS.get (i := i) h (by simpa using e)
  | [], [], _, _, _, e => by simp at e
  | [], _ :: _, _, _, h, _ => h.elim
  | _ :: _, [], _, _, h, _ => h.elim
theorem SlI.toU {μ : Sto} {s : Slot} {o : Option (Option Val)} (h : SlI c μ s o) (hx : s ≠ .x) : SlI c μ .u o := by
  cases s with
  | u => exact h
  | d x => exact ⟨_, h, by intro z; cases z⟩
  | f x =>
    obtain ⟨v, h1, h2⟩ := h
    refine ⟨_, h1, fun z => ?_⟩
    cases z
    have := h2.ne
    cases this
  | c xs => obtain ⟨l, h1, _⟩ := h; exact ⟨_, h1, by intro z; cases z⟩
  | t => obtain ⟨l, h1, _⟩ := h; exact ⟨_, h1, by intro z; cases z⟩
  | x => exact (hx rfl).elim
  | k xs => obtain ⟨l, h1, _⟩ := h; exact ⟨_, h1, by intro z; cases z⟩
theorem Rl.le {sl' : List Slot} {ρ : Env} {μ : Sto} (R : Rl c sl ρ μ) (h : LeS sl sl') : Rl c sl' ρ μ where
  len := R.len.trans h.len
  at' := fun i s hs => by
    obtain ⟨a, h1, h2 | ⟨h2, h3⟩⟩ := h.get hs
    · subst h2; exact R.at' i _ h1
    · subst h2; exact (R.at' i _ h1).toU h3
  dist := fun i j xs ys hij h1 h2 => by
    obtain ⟨a, h3, h4 | ⟨h4, _⟩⟩ := h.get h1
    · obtain ⟨b, h5, h6 | ⟨h6, _⟩⟩ := h.get h2
      · subst h4 h6; exact R.dist i j xs ys hij h3 h5
      · cases h6
    · cases h4
  one := fun i j xs ys h1 h2 => by
    obtain ⟨a, h3, h4 | ⟨h4, _⟩⟩ := h.get h1
    · obtain ⟨b, h5, h6 | ⟨h6, _⟩⟩ := h.get h2
      · subst h4 h6; exact R.one i j xs ys h3 h5
      · cases h6
    · cases h4
  bs := R.bs
/-! ### rules -/
abbrev ExR (c : Cf) (ex : Option (List Slot)) (sl : List Slot) : Prop := ∀ e, ex = some e → LeS sl e
theorem ExR.go {ρ : Env} {μ : Sto} (hx : ExR c ex sl) (R : Rl c sl ρ μ) : ∀ e, ex = some e → Rl c e ρ μ := fun e h => R.le (hx e h)
theorem lift_of {rel : γ → α → Prop} {r : Sto → R γ} {ρ : Env} {k : γ → Sto → O} {Q : Fl σ τ β → Prop} {E : Str → D → Prop} {n : α → M (Fl σ τ β)} {μ : Sto} (hg : GG c sl ρ r rel m) (R : Rl c sl ρ μ) (q : M.bind m n Q E) (hx : ExR c ex sl)
    (hk : ∀ v a μ1, rel v a → Rl c sl ρ μ1 → n a Q E → FlR c es el eb ex Q E (k v μ1)) : FlR c es el eb ex Q E (lift (r μ) ρ k) := by
  have z := hg μ (fun a => n a Q E) E R q
  cases hr : r μ with
  | ok v μ1 =>
    rw [hr] at z
    obtain ⟨S, a, ra, qa⟩ := z
    exact hk v a μ1 ra (R.sm S) qa
  | exc cn pl μ1 =>
    rw [hr] at z
    exact ⟨hx.go (R.sm z.1), R.bs.sm z.1, z.2⟩
  | stuck => rw [hr] at z; exact z.elim
theorem q_seq {f g : Sc} {es1 : σ1 → List Slot} {m : M (Fl σ1 τ β)} {n : σ1 → M (Fl σ τ β)} (h1 : SimS c es1 el eb ex sl f m) (h2 : ∀ s, SimS c es el eb ex (es1 s) g (n s)) : SimS c es el eb ex sl (sSeq f g) (M.seq m n) := by
  intro k ρ μ Q E R q
  have z := h1 k ρ μ _ E R q
  unfold sSeq
  cases hr : f k ρ μ with
  | next ρ1 μ1 =>
    rw [hr] at z
    obtain ⟨s, R1, q1⟩ := z
    exact h2 s k ρ1 μ1 Q E R1 q1
  | ret v μ1 => rw [hr] at z; exact z
  | brk ρ1 μ1 => rw [hr] at z; exact z
  | cont ρ1 μ1 => rw [hr] at z; exact z
  | exc cn pl ρ1 μ1 => rw [hr] at z; exact z
  | stuck => rw [hr] at z; exact z
/-- at the end of a block: only what goes on is kept -/
theorem q_end {f : Sc} {es1 : σ1 → List Slot} {m : M (Fl σ1 τ β)} {k : σ1 → σ} (h1 : SimS c es1 el eb ex sl f m) (h2 : ∀ s, LeS (es1 s) (es (k s))) : SimS c es el eb ex sl f (M.seq m fun s => M.pure (.next (k s))) := by
  intro n ρ μ Q E R q
  have z := h1 n ρ μ _ E R q
  cases hr : f n ρ μ with
  | next ρ1 μ1 =>
    rw [hr] at z
    obtain ⟨s, R1, q1⟩ := z
    exact ⟨k s, R1.le (h2 s), q1⟩
  | ret v μ1 => rw [hr] at z; exact z
  | brk ρ1 μ1 => rw [hr] at z; exact z
  | cont ρ1 μ1 => rw [hr] at z; exact z
  | exc cn pl ρ1 μ1 => rw [hr] at z; exact z
  | stuck => rw [hr] at z; exact z
theorem q_skip {s : σ} (hs : LeS sl (es s)) : SimS c es el eb ex sl sSkip (M.pure (.next s)) := fun n ρ μ Q E R q => ⟨s, R.le hs, q⟩
theorem q_brk {s : τ} (hs : LeS sl (el s)) : SimS c es el eb ex sl sBrk (M.pure (.brk s)) := fun n ρ μ Q E R q => ⟨s, R.le hs, q⟩
theorem q_cont {s : τ} (hs : LeS sl (el s)) : SimS c es el eb ex sl sCont (M.pure (.cont s)) := fun n ρ μ Q E R q => ⟨s, R.le hs, q⟩
theorem q_set {e : γ → D} {m : M γ} (i : Nat) (q : SimD c e sl f m) (hx : ExR c ex sl := by exact fun _ h => nomatch h) : SimS c (fun a => sl.set i (.d (e a))) el eb ex sl (sSet i f) (M.bind m fun a => M.pure (.next a)) :=
  fun n ρ μ Q E R z => lift_of (q ρ) R z hx fun v a μ1 ra R1 qa => by
    subst ra
    exact ⟨a, R1.setD, qa⟩
theorem q_ret {e : β → D} {m : M β} (q : SimD c e sl f m) (hx : ExR c ex sl := by exact fun _ h => nomatch h) : SimS c es el (rD e) ex sl (sRet f) (M.bind m fun b => M.pure (.ret b)) :=
  fun n ρ μ Q E R z => lift_of (q ρ) R z hx fun v a μ1 ra R1 qa => ⟨a, ⟨.inl ra, fun _ h => by cases h⟩, R1.bs, qa⟩
/-- with what stands in the parameter's cell -/
theorem q_retK {e : γ → D} {e1 : δ → D} {xs : List δ} {m : M γ} (i : Nat) (hs : sl[i]? = some (.k (xs.map e1))) (q : SimD c e sl f m) (hx : ExR c ex sl := by exact fun _ h => nomatch h) : SimS c es el (rC e e1) ex sl (sRet f) (M.bind m fun b => M.pure (.ret (b, xs))) :=
  fun n ρ μ Q E R z => lift_of (q ρ) R z hx fun v a μ1 ra R1 qa => ⟨(a, xs), ⟨.inl ra, fun ys h l hl => by
    cases h
    obtain ⟨l', _, h2, _, h4⟩ := R1.at' i _ hs
    rw [hl] at h2
    cases h2
    exact h4⟩, R1.bs, qa⟩
theorem q_retC {xs : List α} (i : Nat) (hs : sl[i]? = some (.c (xs.map e))) : SimS c es el (rD (eL e)) ex sl (sRet (cV i)) (M.pure (.ret xs)) := by
  intro n ρ μ Q E R q
  obtain ⟨l, h1, h2, h3⟩ := R.at' i _ hs
  unfold sRet cV
  rw [h1]
  exact ⟨xs, ⟨.inr ⟨l, _, rfl, h2, h3, rfl⟩, fun _ h => by cases h⟩, R.bs, q⟩
theorem q_retN {e : β → D} {b : β} (hb : e b = .none) : SimS c es el (rD e) ex sl sRetN (M.pure (.ret b)) := fun n ρ μ Q E R q => ⟨b, ⟨.inl (by show _ = Val.d (e b); rw [hb]), fun _ h => by cases h⟩, R.bs, q⟩
theorem q_expr {e : γ → D} {m : M γ} (q : SimE c e sl f m) (hx : ExR c ex sl := by exact fun _ h => nomatch h) : SimS c (fun _ : Unit => sl) el eb ex sl (sExpr f) (M.bind m fun _ => M.pure (.next ())) :=
  fun n ρ μ Q E R z => lift_of (q ρ) R z hx fun v a μ1 ra R1 qa => ⟨(), R1, qa⟩
theorem q_sif {t : Cd Bool} {f g : Sc} {m : M Bool} {m1 m2 : M (Fl σ τ β)} (qt : SimT c sl t m) (q1 : SimS c es el eb ex sl f m1) (q2 : SimS c es el eb ex sl g m2) (hx : ExR c ex sl := by exact fun _ h => nomatch h) :
    SimS c es el eb ex sl (sIf t f g) (M.bind m fun a => M.ite a m1 m2) :=
  fun n ρ μ Q E R z => lift_of (qt ρ) R z hx fun v a μ1 ra R1 qa => by
    subst ra
    unfold M.ite at qa
    cases v with
    | true => simp only [if_true] at qa; exact q1 n ρ μ1 Q E R1 qa
    | false => simp only [Bool.false_eq_true, if_false] at qa; exact q2 n ρ μ1 Q E R1 qa
theorem for_go {bd : D → Env → Option Env} {sx : List Slot → α → List Slot} {b : Sc} {mb : σ → α → M (Fl σ σ β)} (hb : BdT [] bd e sx) (hbody : ∀ s x, SimS c es es eb ex (sx (es s) x) b (mb s x)) :
    ∀ (xs : List α) (s : σ) (n : Nat) (ρ : Env) (μ : Sto) (Q : Fl σ τ β → Prop) (E : Str → D → Prop), Rl c (es s) ρ μ → M.for mb xs s Q E → FlR c es el eb ex Q E (forRun bd b n (xs.map e) ρ μ)
  | [], s, n, ρ, μ, Q, E, R, q => ⟨s, R, q⟩
  | x :: xs, s, n, ρ, μ, Q, E, R, q => by
    obtain ⟨ρ1, h1, h2⟩ := hb c (es s) ρ x
    have z := hbody s x n ρ1 μ _ E (h2 μ R) q
    rw [List.map_cons]
    unfold forRun
    rw [show bd (e x) ρ = some ρ1 from h1]
    cases hr : b n ρ1 μ with
    | next ρ2 μ2 =>
      rw [hr] at z
      obtain ⟨s', R1, q1⟩ := z
      simp only [hr]
      exact for_go hb hbody xs s' n ρ2 μ2 Q E R1 q1
    | cont ρ2 μ2 =>
      rw [hr] at z
      obtain ⟨s', R1, q1⟩ := z
      simp only [hr]
      exact for_go hb hbody xs s' n ρ2 μ2 Q E R1 q1
    | brk ρ2 μ2 => rw [hr] at z; simp only [hr]; exact z
    | ret v μ2 => rw [hr] at z; simp only [hr]; exact z
    | exc cn pl ρ2 μ2 => rw [hr] at z; simp only [hr]; exact z
    | stuck => rw [hr] at z; exact z.elim
theorem q_for {fw : Cd Walked} {bd : D → Env → Option Env} {sx : List Slot → α → List Slot} {b : Sc} {m : M (List α)} {mb : σ → α → M (Fl σ σ β)} (s0 : σ) (hi : SimI c e sl fw m) (h0 : LeS sl (es s0)) (hb : BdT [] bd e sx) (hbody : ∀ s x, SimS c es es eb ex (sx (es s) x) b (mb s x))
    (hx : ExR c ex sl := by exact fun _ h => nomatch h) : SimS c es el eb ex sl (sFor fw bd b) (M.bind m fun xs => M.for mb xs s0) :=
  fun n ρ μ Q E R z => lift_of (hi ρ) R z hx fun w xs μ1 rw' R1 qa => by
    rw [rw'.1, rw'.2]
    exact for_go hb hbody xs s0 n ρ μ1 Q E (R1.le h0) qa
theorem wh_go {t : Cd Bool} {b : Sc} {mc : σ → M Bool} {mb : σ → M (Fl σ σ β)} (ht : ∀ s, SimT c (es s) t (mc s)) (hbody : ∀ s, SimS c es es eb ex (es s) b (mb s)) (hx : ∀ s, ExR c ex (es s)) :
    ∀ (k : Nat) (s : σ) (n : Nat) (ρ : Env) (μ : Sto) (Q : Fl σ τ β → Prop) (E : Str → D → Prop), Rl c (es s) ρ μ → M.wh mc mb k s Q E → FlR c es el eb ex Q E (whN t b k n ρ μ)
  | 0, s, n, ρ, μ, Q, E, R, q => q.elim
  | k + 1, s, n, ρ, μ, Q, E, R, q => by
    unfold whN
    refine lift_of (ht s ρ) R q (hx s) fun v a μ1 ra R1 qa => ?_
    subst ra
    unfold M.ite at qa
    cases v with
    | false => simp only [Bool.false_eq_true, if_false] at qa; exact ⟨s, R1, qa⟩
    | true =>
      simp only [if_true] at qa
      have z := hbody s n ρ μ1 _ E R1 qa
      dsimp only
      cases hr : b n ρ μ1 with
      | next ρ2 μ2 =>
        rw [hr] at z
        obtain ⟨s', R1, q1⟩ := z
        exact wh_go ht hbody hx k s' n ρ2 μ2 Q E R1 q1
      | cont ρ2 μ2 =>
        rw [hr] at z
        obtain ⟨s', R1, q1⟩ := z
        exact wh_go ht hbody hx k s' n ρ2 μ2 Q E R1 q1
      | brk ρ2 μ2 => rw [hr] at z; exact z
      | ret v μ2 => rw [hr] at z; exact z
      | exc cn pl ρ2 μ2 => rw [hr] at z; exact z
      | stuck => rw [hr] at z; exact z.elim
theorem q_wh {t : Cd Bool} {b : Sc} {mc : σ → M Bool} {mb : σ → M (Fl σ σ β)} (s0 : σ) (h0 : LeS sl (es s0)) (ht : ∀ s, SimT c (es s) t (mc s)) (hbody : ∀ s, SimS c es es eb ex (es s) b (mb s)) (hx : ∀ s, ExR c ex (es s) := by exact fun _ _ h => nomatch h) :
    SimS c es el eb ex sl (sWh t b) (M.wh mc mb fuel s0) := fun n ρ μ Q E R z => wh_go ht hbody hx fuel s0 n ρ μ Q E (R.le h0) z
theorem q_raise {cn : Str} {m : M D} (q : SimD c eD sl f m) (hx : ExR c ex sl := by exact fun _ h => nomatch h) : SimS c es el eb ex sl (sRaise cn f) (M.bind m fun x => M.exc cn x) :=
  fun n ρ μ Q E R z => lift_of (q ρ) R z hx fun v a μ1 ra R1 qa => by
    subst ra
    exact ⟨hx.go R1, R1.bs, qa⟩
/-! ### cells -/
def X.app (xs : List γ) (a : γ) : X (List γ) := if lim (xs.length + 1) = true then .ok (xs ++ [a]) else .no
theorem Rl.put {ρ : Env} {μ : Sto} {i l : Nat} {xs ys : List D} (R : Rl c sl ρ μ) (hs : sl[i]? = some (.c xs)) (hl : ρ[i]? = some (some (.loc l))) : Rl c (sl.set i (.c ys)) ρ (μ.set l (.lst ys)) := by
  obtain ⟨l', h1, h2, h3⟩ := R.at' i _ hs
  rw [hl] at h1
  cases h1
  have hlt : l < μ.length := (List.getElem?_eq_some_iff.mp h3).1
  refine ⟨by rw [List.length_set]; exact R.len, fun j t h => ?_, fun j k xs' ys' hjk h1 h2 => ?_, fun j k xs' ys' h1 h2 => ?_, ⟨R.bs.n0, by rw [List.length_set]; exact R.bs.le, fun a ha ht => ?_, fun a ha => ?_, R.bs.tr⟩⟩
  · rcases getElem?_set_eq h with ⟨rfl, rfl, _⟩ | ⟨hj, h⟩
    · exact ⟨l, hl, h2, List.getElem?_set_self hlt⟩
    · have q := R.at' j t h
      cases t with
      | c zs =>
        obtain ⟨l2, g1, g2, g3⟩ := q
        have hne : l ≠ l2 := fun z => R.dist i j xs zs hj hs h (by rw [hl, g1, z])
        exact ⟨l2, g1, g2, by rw [List.getElem?_set_ne hne]; exact g3⟩
      | k zs =>
        obtain ⟨l2, g1, g2, g3, g4⟩ := q
        have hlt2 := (R.bs.tap l2 g2).1
        exact ⟨l2, g1, g2, g3, by rw [List.getElem?_set_ne (by omega)]; exact g4⟩
      | _ => exact q
  · have aux : ∀ (j : Nat) (xs' : List D), (sl.set i (.c ys))[j]? = some (.c xs') → ∃ zs, sl[j]? = some (.c zs) := fun j xs' h => by
      rcases getElem?_set_eq h with ⟨rfl, _, _⟩ | ⟨_, h⟩
      · exact ⟨xs, hs⟩
      · exact ⟨xs', h⟩
    obtain ⟨z1, h1⟩ := aux j xs' h1
    obtain ⟨z2, h2⟩ := aux k ys' h2
    exact R.dist j k z1 z2 hjk h1 h2
  · rcases getElem?_set_eq h1 with ⟨_, h, _⟩ | ⟨_, h1⟩
    · cases h
    · rcases getElem?_set_eq h2 with ⟨_, h, _⟩ | ⟨_, h2⟩
      · cases h
      · exact R.one j k xs' ys' h1 h2
  · rw [List.getElem?_set_ne (by omega)]
    exact R.bs.bas a ha ht
  · obtain ⟨h4, zs, h5, h6⟩ := R.bs.tap a ha
    exact ⟨h4, zs, by rw [List.getElem?_set_ne (by omega)]; exact h5, h6⟩
theorem q_app {xs : List γ} {m : M γ} (i : Nat) (hs : sl[i]? = some (.c (xs.map e1))) (q : SimD c e1 sl f m) (hx : ExR c ex sl := by exact fun _ h => nomatch h) :
    SimS c (fun ys : List γ => sl.set i (.c (ys.map e1))) el eb ex sl (sApp (cV i) f) (M.bind m fun a => M.bind (X.app xs a).m fun ys => M.pure (.next ys)) := by
  intro n ρ μ Q E R z
  obtain ⟨l, h1, h2, h3⟩ := R.at' i _ hs
  have hv : cV i ρ μ = .ok (.loc l) μ := by unfold cV; rw [h1]
  show FlR _ _ _ _ _ _ _ (lift (cV i ρ μ) ρ fun o μ1 => match o with
    | .loc l => match μ1[l]? with
      | some (.lst _) => lift (f ρ μ1) ρ fun v μ2 => match v, μ2[l]? with
        | .d x, some (.lst xs) => if lim (xs.length + 1) = true then .next ρ (μ2.set l (.lst (xs ++ [x]))) else .stuck
        | _, _ => .stuck
      | _ => .stuck
    | _ => .stuck)
  rw [hv]
  show FlR _ _ _ _ _ _ _ (match μ[l]? with
      | some (.lst _) => lift (f ρ μ) ρ fun v μ2 => match v, μ2[l]? with
        | .d x, some (.lst xs) => if lim (xs.length + 1) = true then .next ρ (μ2.set l (.lst (xs ++ [x]))) else .stuck
        | _, _ => .stuck
      | _ => .stuck)
  simp only [h3]
  refine lift_of (q ρ) R z hx fun v a μ1 ra R1 qa => ?_
  subst ra
  obtain ⟨l', g1, g2, g3⟩ := R1.at' i _ hs
  rw [h1] at g1
  cases g1
  simp only [g3]
  have qa : (X.app xs a).m (fun ys => Q (.next ys)) E := qa
  unfold X.app at qa
  rw [List.length_map]
  by_cases hl : lim (xs.length + 1) = true
  · rw [if_pos hl] at qa ⊢
    refine ⟨xs ++ [a], ?_, qa⟩
    show Rl c (sl.set i (.c ((xs ++ [a]).map e1))) ρ _
    rw [List.map_append]
    exact R1.put hs h1
  · rw [if_neg hl] at qa
    exact qa.elim
def X.put (xs : List γ) (j : Int) (a : γ) : X (List γ) := match L2.ixN xs.length j with
  | some k => .ok (xs.set k a)
  | none => .no
theorem q_put {xs : List γ} {m : M γ} {n : M Int} (i : Nat) (hs : sl[i]? = some (.c (xs.map e1))) (q : SimD c e1 sl f m) (q2 : SimE c eI sl g n) (hx : ExR c ex sl := by exact fun _ h => nomatch h) :
    SimS c (fun ys : List γ => sl.set i (.c (ys.map e1))) el eb ex sl (sPut (cV i) g f) (M.bind m fun a => M.bind n fun j => M.bind (X.put xs j a).m fun ys => M.pure (.next ys)) := by
  intro k ρ μ Q E R z
  refine lift_of (q ρ) R z hx fun v a μ1 ra R1 qa => ?_
  subst ra
  obtain ⟨l, h1, h2, h3⟩ := R1.at' i _ hs
  have hv : cV i ρ μ1 = .ok (.loc l) μ1 := by unfold cV; rw [h1]
  rw [hv]
  show FlR _ _ _ _ _ _ _ (lift (g ρ μ1) ρ fun k μ3 => match (Val.loc l), rd k μ3, (Val.d (e1 a)) with
    | .loc l, some (.int j), .d x => match μ3[l]? with
      | some (.lst xs) => match L2.ixN xs.length j with
        | some m => .next ρ (μ3.set l (.lst (xs.set m x)))
        | none => .stuck
      | _ => .stuck
    | _, _, _ => .stuck)
  refine lift_of (q2 ρ) R1 qa hx fun w j μ2 rj R2 qj => ?_
  obtain ⟨l', g1, g2, g3⟩ := R2.at' i _ hs
  rw [h1] at g1
  cases g1
  rw [rj.rd R2]
  simp only [g3]
  have qj : (X.put xs j a).m (fun ys => Q (.next ys)) E := qj
  unfold X.put at qj
  rw [List.length_map]
  cases hk : L2.ixN xs.length j with
  | none => rw [hk] at qj; exact qj.elim
  | some k =>
    rw [hk] at qj
    refine ⟨xs.set k a, ?_, qj⟩
    show Rl c (sl.set i (.c ((xs.set k a).map e1))) ρ _
    rw [List.map_set]
    exact R2.put hs h1
/-! ### values to be stored, cells too -/
structure Ex2 (c : Cf) (μ μ' : Sto) : Prop where
  len : μ.length ≤ μ'.length
  eq : ∀ l, l < μ.length → (c.tp ≠ some l ∨ c.ow = true) → μ'[l]? = μ[l]?
  tap : ∀ l, c.tp = some l → ∃ xs, μ'[l]? = some (.lst xs) ∧ c.ti xs
theorem Sm.ex2 {μ μ' : Sto} (h : Sm c μ μ') : Ex2 c μ μ' := ⟨Nat.le_of_eq h.len.symm, fun l _ h2 => h.eq l h2, h.tap⟩
theorem Ex2.trans {μ μ1 μ2 : Sto} (a : Ex2 c μ μ1) (b : Ex2 c μ1 μ2) : Ex2 c μ μ2 := ⟨Nat.le_trans a.len b.len, fun l h1 h2 => (b.eq l (Nat.lt_of_lt_of_le h1 a.len) h2).trans (a.eq l h1 h2), b.tap⟩
theorem Bs.ex2 {μ μ' : Sto} (b : Bs c μ) (a : Ex2 c μ μ') : Bs c μ' := ⟨b.n0, Nat.le_trans b.le a.len, fun l h1 h2 => (a.eq l (Nat.lt_of_lt_of_le h1 b.le) (.inl h2)).trans (b.bas l h1 h2), fun l h => ⟨(b.tap l h).1, a.tap l h⟩, b.tr⟩
theorem Rl.ex2 {ρ : Env} {μ μ' : Sto} (R : Rl c sl ρ μ) (a : Ex2 c μ μ') : Rl c sl ρ μ' := ⟨R.len, fun i s e => by
  have q := R.at' i s e
  cases s with
  | c xs =>
    obtain ⟨l, h1, h2, h3⟩ := q
    exact ⟨l, h1, h2, by rw [a.eq l (List.getElem?_eq_some_iff.mp h3).1 (.inl fun z => absurd (R.bs.tap l z).1 (Nat.not_lt.mpr h2))]; exact h3⟩
  | k xs =>
    obtain ⟨l, h1, h2, h3, h4⟩ := q
    exact ⟨l, h1, h2, h3, by rw [a.eq l (List.getElem?_eq_some_iff.mp h4).1 (.inr h3)]; exact h4⟩
  | _ => exact q, R.dist, R.one, R.bs.ex2 a⟩
def VsR (c : Cf) (μ : Sto) : Nat → List Val → List Slot → Prop
  | _, [], [] => True
  | n, v :: vs, .d x :: ss => v = .d x ∧ VsR c μ n vs ss
  | n, v :: vs, .c xs :: ss => ∃ l, v = .loc l ∧ n ≤ l ∧ μ[l]? = some (.lst xs) ∧ VsR c μ (l + 1) vs ss
  | _, _, _ => False
def SimV (c : Cf) (ss : α → List Slot) (sl : List Slot) (f : Cd (List Val)) (m : M α) : Prop := ∀ ρ μ Q E, Rl c sl ρ μ → m Q E →
  okE (f ρ μ) (fun vs μ' => Ex2 c μ μ' ∧ ∃ a, VsR c μ' μ.length vs (ss a) ∧ Q a) (fun cn pl μ' => Ex2 c μ μ' ∧ E cn pl)
theorem VsR.lower {μ : Sto} : ∀ {vs : List Val} {ss : List Slot} {n k : Nat}, k ≤ n → VsR c μ n vs ss → VsR c μ k vs ss
  | [], [], _, _, _, h => h
  | v :: vs, .d x :: ss, n, k, hk, ⟨h, t⟩ => ⟨h, VsR.lower hk t⟩
  | v :: vs, .c xs :: ss, n, k, hk, ⟨l, h1, h2, h3, t⟩ => ⟨l, h1, Nat.le_trans hk h2, h3, t⟩
  | v :: vs, .u :: ss, _, _, _, h => h
  | v :: vs, .f _ :: ss, _, _, _, h => h
  | v :: vs, .t :: ss, _, _, _, h => h
  | v :: vs, .x :: ss, _, _, _, h => h
  | v :: vs, .k _ :: ss, _, _, _, h => h
  | [], .d _ :: _, _, _, _, h => h
  | [], .c _ :: _, _, _, _, h => h
  | [], .u :: _, _, _, _, h => h
  | [], .f _ :: _, _, _, _, h => h
  | [], .t :: _, _, _, _, h => h
  | [], .x :: _, _, _, _, h => h
  | [], .k _ :: _, _, _, _, h => h
  | _ :: _, [], _, _, _, h => h
theorem v_nil : SimV c (fun _ : Unit => []) sl aNil (M.pure ()) := fun ρ μ Q E R q => ⟨R.bs.same.ex2, (), trivial, q⟩
theorem v_d {e : γ → D} {m : M γ} {ss : α → List Slot} {g : Cd (List Val)} {n : M α} (q1 : SimD c e sl f m) (q2 : SimV c ss sl g n) : SimV c (fun p : γ × α => .d (e p.1) :: ss p.2) sl (aCons f g) (M.bind m fun a => M.bind n fun b => M.pure (a, b)) := by
  intro ρ μ Q E R q
  show okE ((f ρ μ).bind fun v μ1 => (g ρ μ1).bind fun vs μ2 => .ok (v :: vs) μ2) _ _
  rw [okE_bind]
  refine okE_mono (q1 ρ μ _ E R q) (fun v μ1 ⟨S, a, ra, qa⟩ => ?_) (fun _ _ _ ⟨S, z⟩ => ⟨S.ex2, z⟩)
  rw [okE_bind]
  refine okE_mono (q2 ρ μ1 _ E (R.sm S) qa) (fun vs μ2 ⟨S2, b, rb, qb⟩ => ?_) (fun _ _ _ ⟨S2, z⟩ => ⟨S.ex2.trans S2, z⟩)
  exact ⟨S.ex2.trans S2, (a, b), ⟨ra, by rw [S.len] at rb; exact rb⟩, qb⟩
/-- a list display that will be a cell -/
theorem v_c {e : γ → D} {es' : δ → List D} {bs : List PK} {fa : Cd (List Val)} {m : M δ} {k : δ → List γ} {ss : α → List Slot} {g : Cd (List Val)} {n : M α} (q1 : SimA c es' bs sl fa m) (hb : allS bs = true) (he : ∀ a, es' a = (k a).map e) (hl : ∀ a, lim (es' a).length = true) (q2 : SimV c ss sl g n) :
    SimV c (fun p : List γ × α => .c (p.1.map e) :: ss p.2) sl (aCons (cLstC fa) g) (M.bind m fun a => M.bind n fun b => M.pure (k a, b)) := by
  intro ρ μ Q E R q
  show okE ((cLstC fa ρ μ).bind fun v μ1 => (g ρ μ1).bind fun vs μ2 => .ok (v :: vs) μ2) _ _
  rw [okE_bind]
  unfold cLstC
  rw [okE_bind]
  refine okE_mono (q1 ρ μ _ E R q) (fun v μ1 ⟨S, a, ra, qa⟩ => ?_) (fun _ _ _ ⟨S, z⟩ => ⟨S.ex2, z⟩)
  simp only [ra.dats hb, hl, if_true]
  have R1 := R.sm S
  have S1 : Ex2 c μ1 (μ1 ++ [.lst (es' a)]) := ⟨by rw [List.length_append]; exact Nat.le_add_right _ _, fun l hl _ => List.getElem?_append_left hl, fun l hl => by
    obtain ⟨h1, xs, h2, h3⟩ := R1.bs.tap l hl
    exact ⟨xs, by rw [List.getElem?_append_left (Nat.lt_of_lt_of_le h1 R1.bs.le)]; exact h2, h3⟩⟩
  show okE ((g ρ (μ1 ++ [.lst (es' a)])).bind fun vs μ2 => .ok (.loc μ1.length :: vs) μ2) _ _
  rw [okE_bind]
  refine okE_mono (q2 ρ _ _ E (R1.ex2 S1) qa) (fun vs μ2 ⟨S2, b, rb, qb⟩ => ?_) (fun _ _ _ ⟨S2, z⟩ => ⟨(S.ex2.trans S1).trans S2, z⟩)
  refine ⟨(S.ex2.trans S1).trans S2, (k a, b), ⟨μ1.length, rfl, Nat.le_of_eq S.len.symm, ?_, ?_⟩, qb⟩
  · rw [S2.eq _ (by rw [List.length_append]; exact Nat.lt_succ_self _) (.inl fun z => by have := (R1.bs.tap _ z).1; have := R1.bs.le; omega)]
    rw [List.getElem?_append_right (Nat.le_refl _), Nat.sub_self, he]
    rfl
  · rw [List.length_append] at rb
    exact rb
def setAllE : Env → List Nat → List Val → Env
  | ρ, i :: is, v :: vs => setAllE (ρ.set i (some v)) is vs
  | ρ, _, _ => ρ
def setAllS : List Slot → List Nat → List Slot → List Slot
  | sl, i :: is, s :: ss => setAllS (sl.set i s) is ss
  | sl, _, _ => sl
def sParN (is : List Nat) (f : Cd (List Val)) : Sc := fun n0 ρ μ => lift (f ρ μ) ρ fun vs μ1 => .next (setAllE ρ is vs) μ1
theorem par_N {i j : Nat} {f g : Cd Val} : sPar i j f g = sParN [i, j] (aCons f (aCons g aNil)) := by
  funext n0 ρ μ
  unfold sPar sParN aCons aNil
  cases f ρ μ with
  | ok v μ1 =>
    simp only [lift, R.bind]
    cases g ρ μ1 <;> rfl
  | exc _ _ _ => rfl
  | stuck => rfl
theorem set_N {i : Nat} {f : Cd Val} : sSet i f = sParN [i] (aCons f aNil) := by
  funext n0 ρ μ
  unfold sSet sParN aCons aNil
  cases f ρ μ <;> rfl
theorem Rl.setAll {μ : Sto} : ∀ {is : List Nat} {vs : List Val} {ss : List Slot} {n : Nat} {sl : List Slot} {ρ : Env}, Rl c sl ρ μ → c.n0 ≤ n → (∀ (j l : Nat) (ys : List D), sl[j]? = some (.c ys) → ρ[j]? = some (some (.loc l)) → l < n) → VsR c μ n vs ss → Rl c (setAllS sl is ss) (setAllE ρ is vs) μ
  | [], vs, ss, n, sl, ρ, R, hn, hl, h => by
    unfold setAllS setAllE
    exact R
  | i :: is, [], [], n, sl, ρ, R, hn, hl, h => by
    unfold setAllS setAllE
    exact R
  | i :: is, v :: vs, .d x :: ss, n, sl, ρ, R, hn, hl, ⟨hv, t⟩ => by
    subst hv
    unfold setAllS setAllE
    refine Rl.setAll R.setD hn (fun j l ys h1 h2 => ?_) t
    rcases getElem?_set_eq h1 with ⟨_, h, _⟩ | ⟨hj, h1⟩
    · cases h
    · rw [List.getElem?_set_ne hj] at h2
      exact hl j l ys h1 h2
  | i :: is, v :: vs, .c xs :: ss, n, sl, ρ, R, hn, hl, ⟨l, hv, h2, h3, t⟩ => by
    subst hv
    unfold setAllS setAllE
    have R' : Rl c (sl.set i (.c xs)) (ρ.set i (some (.loc l))) μ := by
      refine ⟨by rw [List.length_set, List.length_set]; exact R.len, fun j t h => ?_, fun j k xs' ys' hjk h1 h2' => ?_, fun j k xs' ys' h1 h2' => ?_, R.bs⟩
      · rcases getElem?_set_eq h with ⟨rfl, rfl, hh⟩ | ⟨hj, h⟩
        · rw [List.getElem?_set_self (by rw [R.len]; exact hh)]; exact ⟨l, rfl, Nat.le_trans hn h2, h3⟩
        · rw [List.getElem?_set_ne hj]; exact R.at' j t h
      · rcases getElem?_set_eq h1 with ⟨rfl, _, g1⟩ | ⟨hj, h1⟩
        · rcases getElem?_set_eq h2' with ⟨rfl, _, _⟩ | ⟨hk, h2'⟩
          · exact (hjk rfl).elim
          · rw [List.getElem?_set_self (by rw [R.len]; exact g1), List.getElem?_set_ne hk]
            intro z
            have := hl k l ys' h2' z.symm
            omega
        · rcases getElem?_set_eq h2' with ⟨rfl, _, g1⟩ | ⟨hk, h2'⟩
          · rw [List.getElem?_set_self (by rw [R.len]; exact g1), List.getElem?_set_ne hj]
            intro z
            have := hl j l xs' h1 z
            omega
          · rw [List.getElem?_set_ne hj, List.getElem?_set_ne hk]
            exact R.dist j k xs' ys' hjk h1 h2'
      · rcases getElem?_set_eq h1 with ⟨_, h, _⟩ | ⟨_, h1⟩
        · cases h
        · rcases getElem?_set_eq h2' with ⟨_, h, _⟩ | ⟨_, h2'⟩
          · cases h
          · exact R.one j k xs' ys' h1 h2'
    refine Rl.setAll R' (by omega) (fun j l' ys h1 h2' => ?_) t
    rcases getElem?_set_eq h1 with ⟨rfl, _, hh⟩ | ⟨hj, h1⟩
    · rw [List.getElem?_set_self (by rw [R.len]; exact hh)] at h2'
      cases h2'
      omega
    · rw [List.getElem?_set_ne hj] at h2'
      have := hl j l' ys h1 h2'
      omega
  | i :: is, v :: vs, .u :: ss, _, _, _, _, _, _, h => h.elim
  | i :: is, v :: vs, .f _ :: ss, _, _, _, _, _, _, h => h.elim
  | i :: is, v :: vs, .t :: ss, _, _, _, _, _, _, h => h.elim
  | i :: is, v :: vs, .x :: ss, _, _, _, _, _, _, h => h.elim
  | i :: is, v :: vs, .k _ :: ss, _, _, _, _, _, _, h => h.elim
  | i :: is, [], .d _ :: _, _, _, _, _, _, _, h => h.elim
  | i :: is, [], .c _ :: _, _, _, _, _, _, _, h => h.elim
  | i :: is, [], .u :: _, _, _, _, _, _, _, h => h.elim
  | i :: is, [], .f _ :: _, _, _, _, _, _, _, h => h.elim
  | i :: is, [], .t :: _, _, _, _, _, _, _, h => h.elim
  | i :: is, [], .x :: _, _, _, _, _, _, _, h => h.elim
  | i :: is, [], .k _ :: _, _, _, _, _, _, _, h => h.elim
  | i :: is, _ :: _, [], _, _, _, _, _, _, h => h.elim
theorem Rl.lows {ρ : Env} {μ : Sto} (R : Rl c sl ρ μ) (j l : Nat) (ys : List D) (h1 : sl[j]? = some (.c ys)) (h2 : ρ[j]? = some (some (.loc l))) : l < μ.length := by
  obtain ⟨l', g1, _, g3⟩ := R.at' j _ h1
  rw [h2] at g1
  cases g1
  exact (List.getElem?_eq_some_iff.mp g3).1
theorem q_parN {is : List Nat} {ss : σ → List Slot} {g : Cd (List Val)} {m : M σ} (q : SimV c ss sl g m) (hx : ExR c ex sl := by exact fun _ h => nomatch h) : SimS c (fun a => setAllS sl is (ss a)) el eb ex sl (sParN is g) (M.bind m fun a => M.pure (.next a)) := by
  intro n ρ μ Q E R z
  unfold sParN
  have w := q ρ μ (fun a => Q (.next a)) E R z
  cases hr : g ρ μ with
  | ok vs μ1 =>
    rw [hr] at w
    obtain ⟨S, a, ra, qa⟩ := w
    exact ⟨a, Rl.setAll (R.ex2 S) R.bs.le (fun j l ys h1 h2 => R.lows j l ys h1 h2) ra, qa⟩
  | exc cn pl μ1 =>
    rw [hr] at w
    exact ⟨fun e h => (R.ex2 w.1).le (hx e h), R.bs.ex2 w.1, w.2⟩
  | stuck => rw [hr] at w; exact w.elim
theorem q_par {i j : Nat} {ss : σ → List Slot} {m : M σ} (q : SimV c ss sl (aCons f (aCons g aNil)) m) (hx : ExR c ex sl := by exact fun _ h => nomatch h) : SimS c (fun a => setAllS sl [i, j] (ss a)) el eb ex sl (sPar i j f g) (M.bind m fun a => M.pure (.next a)) := by
  rw [par_N]
  exact q_parN q hx
theorem q_new {i : Nat} {ss : σ → List Slot} {m : M σ} (q : SimV c ss sl (aCons f aNil) m) (hx : ExR c ex sl := by exact fun _ h => nomatch h) : SimS c (fun a => setAllS sl [i] (ss a)) el eb ex sl (sSet i f) (M.bind m fun a => M.pure (.next a)) := by
  rw [set_N]
  exact q_parN q hx
/-- list(x), to be a cell -/
theorem q_newL {i : Nat} {e : γ → D} {e0 : List γ → D} {m : M (List γ)} (q : SimE c e0 sl f m) (he : (∀ a, e0 a = .list (a.map e)) ∨ ∀ a, e0 a = .tuple (a.map e)) (hx : ExR c ex sl := by exact fun _ h => nomatch h) :
    SimS c (fun a : List γ => sl.set i (.c (a.map e))) el eb ex sl (sNewL i f) (M.bind m fun a => M.pure (.next a)) :=
  fun n ρ μ Q E R z => lift_of (q ρ) R z hx fun v a μ1 ra R1 qa => by
    have S1 : Ex2 c μ1 (μ1 ++ [.lst (a.map e)]) := ⟨by rw [List.length_append]; exact Nat.le_add_right _ _, fun l hl _ => List.getElem?_append_left hl, fun l hl => by
      obtain ⟨h1, xs, h2, h3⟩ := R1.bs.tap l hl
      exact ⟨xs, by rw [List.getElem?_append_left (Nat.lt_of_lt_of_le h1 R1.bs.le)]; exact h2, h3⟩⟩
    have w : Rl c (sl.set i (.c (a.map e))) (ρ.set i (some (.loc μ1.length))) (μ1 ++ [.lst (a.map e)]) := by
      have := Rl.setAll (is := [i]) (vs := [.loc μ1.length]) (ss := [.c (a.map e)]) (R1.ex2 S1) R1.bs.le (fun j l ys h1 h2 => R1.lows j l ys h1 h2) ⟨μ1.length, rfl, Nat.le_refl _, by rw [List.getElem?_append_right (Nat.le_refl _), Nat.sub_self]; rfl, trivial⟩
      simpa [setAllS, setAllE] using this
    rw [ra.rd R1]
    rcases he with he | he
    · rw [he]
      exact ⟨a, w, qa⟩
    · rw [he]
      exact ⟨a, w, qa⟩
/-! ### try -/
def SimH (c : Cf) (es : σ → List Slot) (el : τ → List Slot) (eb : β → D × Option (List D)) (ex : Option (List Slot)) (exs : List Slot) (hds : List Hd) (cn : Str) (pl : D) (m : M (Fl σ τ β)) : Prop :=
  ∀ n ρ μ Q E, Rl c exs ρ μ → m Q E → FlR c es el eb ex Q E (catchX hds cn pl n ρ μ)
theorem q_try {b : Sc} {hds : List Hd} {exs : List Slot} {m : M (Fl σ τ β)} {mh : Str → D → M (Fl σ τ β)} (hb : SimS c es el eb (some exs) sl b m) (hh : ∀ cn pl, SimH c es el eb ex exs hds cn pl (mh cn pl)) : SimS c es el eb ex sl (sTry b hds) (M.try m mh) := by
  intro n ρ μ Q E R q
  have z := hb n ρ μ Q _ R q
  unfold sTry
  cases hr : b n ρ μ with
  | next ρ1 μ1 => rw [hr] at z; exact z
  | ret v μ1 => rw [hr] at z; exact z
  | brk ρ1 μ1 => rw [hr] at z; exact z
  | cont ρ1 μ1 => rw [hr] at z; exact z
  | exc cn pl ρ1 μ1 =>
    rw [hr] at z
    exact hh cn pl n ρ1 μ1 Q E (z.1 exs rfl) z.2.2
  | stuck => rw [hr] at z; exact z.elim
theorem q_hnil {exs : List Slot} {cn : Str} {pl : D} (hx : ExR c ex exs := by exact fun _ h => nomatch h) : SimH c es el eb ex exs [] cn pl (M.exc cn pl) := fun n ρ μ Q E R q => ⟨hx.go R, R.bs, q⟩
def noX : List Slot → Bool
  | [] => true
  | .x :: _ => false
  | _ :: r => noX r
theorem noX_at : ∀ {sl : List Slot} {i : Nat}, noX sl = true → sl[i]? ≠ some .x
  | [], i, _ => by simp
  | s :: sl, 0, h => by
    simp only [List.getElem?_cons_zero]
    intro z
    cases z
    cases h
  | s :: sl, i + 1, h => by
    simp only [List.getElem?_cons_succ]
    refine noX_at (i := i) ?_
    cases s <;> first | exact h | cases h
theorem Rl.envOk {ρ : Env} {μ : Sto} (R : Rl c sl ρ μ) (h : noX sl = true) : envOk ρ = true := by
  unfold FW.envOk
  rw [List.all_eq_true]
  intro o ho
  obtain ⟨i, hi⟩ := List.mem_iff_getElem?.mp ho
  have hlt : i < sl.length := by rw [← R.len]; exact (List.getElem?_eq_some_iff.mp hi).1
  have hs : sl[i]? = some sl[i] := List.getElem?_eq_getElem hlt
  have hne : sl[i] ≠ .x := fun z => noX_at h (by rw [hs, z])
  obtain ⟨v, h1, h2⟩ := (R.at' i _ hs).toU hne
  rw [hi] at h1
  cases h1
  cases o with
  | none => rfl
  | some w =>
    cases w with
    | exn => exact (h2 rfl).elim
    | _ => rfl
theorem FlR.retO {o : O} {Q : Fl σ τ β → Prop} {E : Str → D → Prop} {es1 : σ1 → List Slot} {el1 : τ → List Slot} {m : M (Fl σ1 τ β)} (h : ∀ Q' : Fl σ1 τ β → Prop, m Q' (fun _ _ => False) → FlR c es1 el1 eb none Q' (fun _ _ => False) o)
    (q : m (fun r => match r with | .ret b => Q (.ret b) | _ => False) (fun _ _ => False)) : FlR c es el eb ex Q E (FW.retO o) := by
  have z := h _ q
  cases o with
  | ret v μ =>
    obtain ⟨b, h1, h2, h3⟩ := z
    have hv : notExn v = true := by rcases h1.1 with rfl | ⟨l, xs, rfl, _⟩ <;> rfl
    unfold FW.retO
    dsimp only
    rw [if_pos hv]
    exact ⟨b, h1, h2, h3⟩
  | next _ _ => obtain ⟨s, _, z⟩ := z; exact z.elim
  | brk _ _ => obtain ⟨s, _, z⟩ := z; exact z.elim
  | cont _ _ => obtain ⟨s, _, z⟩ := z; exact z.elim
  | exc _ _ _ _ => exact z.2.2.elim
  | stuck => exact z.elim
def M.hnd (x : M (Fl σ1 τ β)) : M (Fl σ τ β) := fun Q _ => x (fun r => match r with | .ret b => Q (.ret b) | _ => False) (fun _ _ => False)
def X.hnd (x : X (Fl σ1 τ β)) : X (Fl σ τ β) := match x with
  | .ok (.ret b) => .ok (.ret b)
  | _ => .no
theorem X.m_hnd {x : X (Fl σ1 τ β)} : (X.hnd x : X (Fl σ τ β)).m = M.hnd x.m := by
  cases x with
  | ok o => cases o <;> rfl
  | exc _ _ => rfl
  | no => rfl
theorem q_hcons {exs : List Slot} {hds : List Hd} {cn : Str} {pl : D} {x : Str} {h : Str → D → Sc} {es1 : σ1 → List Slot} {m1 : M (Fl σ1 τ β)} {m2 : M (Fl σ τ β)} (hn : noX exs = true) (h1 : SimS c es1 el eb none exs (h cn pl) m1) (h2 : SimH c es el eb ex exs hds cn pl m2) : SimH c es el eb ex exs ((x, none, h) :: hds) cn pl (M.ite (subX cn x) (M.hnd m1) m2) := by
  intro n ρ μ Q E R q
  show FlR c es el eb ex Q E (if subX cn x = true then (if envOk ρ = true then retO (h cn pl n ρ μ) else .stuck) else catchX hds cn pl n ρ μ)
  unfold M.ite at q
  by_cases hs : subX cn x = true
  · rw [if_pos hs] at q ⊢
    rw [if_pos (R.envOk hn)]
    exact FlR.retO (fun Q' w => h1 n ρ μ Q' _ R w) q
  · rw [if_neg hs] at q ⊢
    exact h2 n ρ μ Q E R q
theorem q_has {exs : List Slot} {hds : List Hd} {cn : Str} {pl : D} {x : Str} {i : Nat} {h : Str → D → Sc} {es1 : σ1 → List Slot} {m1 : M (Fl σ1 τ β)} {m2 : M (Fl σ τ β)} (hn : noX exs = true) (h1 : SimS c es1 el eb none (exs.set i .x) (h cn pl) m1) (h2 : SimH c es el eb ex exs hds cn pl m2) : SimH c es el eb ex exs ((x, some i, h) :: hds) cn pl (M.ite (subX cn x) (M.hnd m1) m2) := by
  intro n ρ μ Q E R q
  show FlR c es el eb ex Q E (if subX cn x = true then (if envOk ρ = true then retO (h cn pl n (ρ.set i (some .exn)) μ) else .stuck) else catchX hds cn pl n ρ μ)
  unfold M.ite at q
  by_cases hs : subX cn x = true
  · rw [if_pos hs] at q ⊢
    rw [if_pos (R.envOk hn)]
    exact FlR.retO (fun Q' w => h1 n _ μ Q' _ (R.set rfl (fun _ => ⟨fun h => (by cases h), fun h => (by cases h)⟩)) w) q
  · rw [if_neg hs] at q ⊢
    exact h2 n ρ μ Q E R q
theorem q_xf {x : D} (i : Nat) (hs : sl[i]? = some .x) : SimD c eD sl (cXf i x) (M.pure x) := fun ρ μ Q E R q => by
  have h1 : ρ[i]? = some (some .exn) := R.at' i _ hs
  unfold cXf
  rw [h1]
  exact ⟨R.bs.same, x, rfl, q⟩
/-! ### functions -/
def argS : List PK → List D → List Slot
  | .s :: bs, x :: xs => .d x :: argS bs xs
  | .f :: bs, x :: xs => .f x :: argS bs xs
  | .t :: bs, xs => .t :: argS bs xs
  | _, _ => []
theorem arg_len {μ : Sto} {tp : Option Nat} : ∀ {bs : List PK} {vs : List Val} {xs : List D}, ArgF μ tp bs vs xs → vs.length = bs.length ∧ (argS bs xs).length = bs.length
  | [], [], [], _ => ⟨rfl, rfl⟩
  | .s :: bs, v :: vs, x :: xs, ⟨_, t⟩ => by obtain ⟨a, b⟩ := arg_len (bs := bs) t; exact ⟨by simp [a], by simp [argS, b]⟩
  | .f :: bs, v :: vs, x :: xs, ⟨_, t⟩ => by obtain ⟨a, b⟩ := arg_len (bs := bs) t; exact ⟨by simp [a], by simp [argS, b]⟩
  | .t :: bs, v :: vs, xs, ⟨_, t⟩ => by obtain ⟨a, b⟩ := arg_len (bs := bs) t; exact ⟨by simp [a], by simp [argS, b]⟩
  | [], [], _ :: _, h => h.elim
  | [], _ :: _, _, h => h.elim
  | .s :: _, [], _, h => h.elim
  | .s :: _, _ :: _, [], h => h.elim
  | .f :: _, [], _, h => h.elim
  | .f :: _, _ :: _, [], h => h.elim
  | .t :: _, [], _, h => h.elim
theorem arg_at {μ : Sto} {tp : Option Nat} {ti : List D → Prop} (htp : ∀ l, tp = some l → l < μ.length) : ∀ {bs : List PK} {vs : List Val} {xs : List D} {i : Nat} {s : Slot}, ArgF μ tp bs vs xs → (argS bs xs)[i]? = some s → ∃ v, vs[i]? = some v ∧ SlI ⟨μ.length, μ, tp, ti, false⟩ μ s (some (some v)) ∧ ∀ ys, s ≠ .c ys ∧ s ≠ .k ys
  | .s :: bs, v :: vs, x :: xs, 0, s, ⟨h, _⟩, e => by
    simp [argS] at e; subst e
    exact ⟨v, rfl, by rw [h]; rfl, fun _ => ⟨fun h => (by cases h), fun h => (by cases h)⟩⟩
  | .f :: bs, v :: vs, x :: xs, 0, s, ⟨h, _⟩, e => by
    simp [argS] at e; subst e
    refine ⟨v, rfl, ⟨v, rfl, ?_⟩, fun _ => ⟨fun h => (by cases h), fun h => (by cases h)⟩⟩
    rcases h with h | ⟨l, ys, h1, h2, h3, h4⟩
    · exact .inl h
    · exact .inr ⟨l, ys, h1, (List.getElem?_eq_some_iff.mp h3).1, h2, h3, h4⟩
  | .t :: bs, v :: vs, xs, 0, s, ⟨⟨l, h1, h2⟩, _⟩, e => by
    simp [argS] at e; subst e
    exact ⟨v, rfl, ⟨l, by rw [h1], h2⟩, fun _ => ⟨fun h => (by cases h), fun h => (by cases h)⟩⟩
  | .s :: bs, v :: vs, x :: xs, i + 1, s, ⟨_, t⟩, e => arg_at htp (i := i) (bs := bs) t (by simpa [argS] using e)
  | .f :: bs, v :: vs, x :: xs, i + 1, s, ⟨_, t⟩, e => arg_at htp (i := i) (bs := bs) t (by simpa [argS] using e)
  | .t :: bs, v :: vs, xs, i + 1, s, ⟨_, t⟩, e => arg_at htp (i := i) (bs := bs) t (by simpa [argS] using e)
  | [], [], [], _, _, _, e => by simp [argS] at e
  | [], [], _ :: _, _, _, h, _ => h.elim
  | [], _ :: _, _, _, _, h, _ => h.elim
  | .s :: _, [], _, _, _, h, _ => h.elim
  | .s :: _, _ :: _, [], _, _, h, _ => h.elim
  | .f :: _, [], _, _, _, h, _ => h.elim
  | .f :: _, _ :: _, [], _, _, h, _ => h.elim
  | .t :: _, [], _, _, _, h, _ => h.elim
theorem Rl.start {μ : Sto} {tp : Option Nat} {ti : List D → Prop} {bs : List PK} {vs : List Val} {xs : List D} (k : Nat) (htp : ∀ l, tp = some l → l < μ.length ∧ ∃ xs, μ[l]? = some (.lst xs) ∧ ti xs) (h : ArgF μ tp bs vs xs) :
    Rl ⟨μ.length, μ, tp, ti, false⟩ (argS bs xs ++ List.replicate (k - bs.length) .u) (vs.map some ++ List.replicate (k - vs.length) none) μ := by
  obtain ⟨l1, l2⟩ := arg_len h
  refine ⟨by simp [l1, l2], fun i s hs => ?_, fun i j xs' ys' _ h1 _ => ?_, fun i j xs' ys' h1 _ => ?_, ⟨rfl, Nat.le_refl _, fun _ _ _ => rfl, htp, fun z => by cases z⟩⟩
  · by_cases hi : i < bs.length
    · rw [List.getElem?_append_left (by rw [l2]; exact hi)] at hs
      obtain ⟨v, h1, h2, _⟩ := arg_at (ti := ti) (fun l hl => (htp l hl).1) h hs
      rw [List.getElem?_append_left (by simp [l1, hi]), List.getElem?_map, h1]
      exact h2
    · rw [List.getElem?_append_right (by rw [l2]; omega), List.getElem?_replicate] at hs
      split at hs
      · rename_i hh
        cases hs
        rw [List.getElem?_append_right (by simp [l1]; omega), List.getElem?_replicate, if_pos (by simp [l1]; rw [l2] at hh; omega)]
        exact SlI.u
      · cases hs
  · by_cases hi : i < bs.length
    · rw [List.getElem?_append_left (by rw [l2]; exact hi)] at h1
      obtain ⟨v, _, _, h3⟩ := arg_at (ti := ti) (fun l hl => (htp l hl).1) h h1
      exact ((h3 _).1 rfl).elim
    · rw [List.getElem?_append_right (by rw [l2]; omega), List.getElem?_replicate] at h1
      split at h1 <;> cases h1
  · by_cases hi : i < bs.length
    · rw [List.getElem?_append_left (by rw [l2]; exact hi)] at h1
      obtain ⟨v, _, _, h3⟩ := arg_at (ti := ti) (fun l hl => (htp l hl).1) h h1
      exact ((h3 _).2 rfl).elim
    · rw [List.getElem?_append_right (by rw [l2]; omega), List.getElem?_replicate] at h1
      split at h1 <;> cases h1
theorem take_sm {μ μ' : Sto} {tp : Option Nat} {ti : List D → Prop} (b : Bs ⟨μ.length, μ, tp, ti, false⟩ μ') : Sm ⟨μ.length, μ, tp, ti, false⟩ μ (μ'.take μ.length) := by
  refine ⟨by rw [List.length_take]; exact Nat.min_eq_left b.le, fun l h => ?_, fun l h => ?_⟩
  · have h : tp ≠ some l := by rcases h with h | h; exact h; cases h
    by_cases hl : l < μ.length
    · rw [List.getElem?_take, if_pos hl]
      exact b.bas l hl h
    · rw [List.getElem?_take, if_neg hl]
      exact (List.getElem?_eq_none (Nat.le_of_not_lt hl)).symm
  · obtain ⟨h1, xs, h2, h3⟩ := b.tap l h
    exact ⟨xs, by rw [List.getElem?_take, if_pos h1]; exact h2, h3⟩
theorem q_fnM {ti : List D → Prop} {bs : List PK} {es0 : α → List D} {k : Nat} {body : Sc} {m : α → M (Fl σ Empty β)} {t : α → M β} {e0 : β → D} {el : Empty → List Slot} (o : Option β) (ho : ∀ b, o = some b → e0 b = .none) (hm : ∀ a, t a = M.fn o (m a))
    (h : ∀ (n0 : Nat) (base : Sto) (tp : Option Nat) (a : α), SimS ⟨n0, base, tp, ti, false⟩ es el (rD e0) none (argS bs (es0 a) ++ List.replicate (k - bs.length) .u) body (m a)) : FnM (runFn fin k body) ti bs es0 e0 t := by
  intro a vs μ tp Q E htp ha q
  rw [hm] at q
  have z := h μ.length μ tp a μ.length _ μ _ E (Rl.start k htp ha) q
  unfold runFn
  rw [(arg_len ha).1] at *
  cases hr : body μ.length (vs.map some ++ List.replicate (k - bs.length) none) μ with
  | next ρ1 μ1 =>
    rw [hr] at z
    obtain ⟨s, R, qs⟩ := z
    cases o with
    | none => exact qs.elim
    | some b =>
      refine ⟨take_sm R.bs, b, ?_, qs⟩
      rw [ho b rfl]
  | ret v μ1 =>
    rw [hr] at z
    obtain ⟨b, hv, hb, qb⟩ := z
    rcases hv.1 with rfl | ⟨l, xs, rfl, h1, h2, h3⟩
    · exact ⟨take_sm hb, b, rfl, qb⟩
    · show okE (fin μ.length (.loc l) μ1) _ _
      unfold fin
      simp only [if_neg (Nat.not_lt.mpr h1), h2]
      exact ⟨take_sm hb, b, by rw [← h3]; rfl, qb⟩
  | brk ρ1 μ1 => rw [hr] at z; obtain ⟨s, _⟩ := z; exact nomatch s
  | cont ρ1 μ1 => rw [hr] at z; obtain ⟨s, _⟩ := z; exact nomatch s
  | exc cn pl ρ1 μ1 => rw [hr] at z; exact ⟨take_sm z.2.1, z.2.2⟩
  | stuck => rw [hr] at z; exact z.elim
theorem q_fn {bs : List PK} {es0 : α → List D} {k : Nat} {body : Sc} {m : α → M (Fl σ Empty β)} {t : α → X β} {e0 : β → D} {el : Empty → List Slot} (o : Option β) (ho : ∀ b, o = some b → e0 b = .none) (hm : ∀ a, (t a).m = M.fn o (m a))
    (h : ∀ (c : Cf) (a : α), SimS c es el (rD e0) none (argS bs (es0 a) ++ List.replicate (k - bs.length) .u) body (m a)) : FnX (runFn fin k body) bs es0 e0 t := fun ti => q_fnM o ho hm fun n0 base tp a => h _ a
theorem q_fn0 {bs : List PK} {es0 : α → List D} {e0 : β → D} : FnX (fun _ _ => .stuck) bs es0 e0 (fun _ : α => (.no : X β)) := fun ti a vs μ tp Q E _ _ q => q.elim
end FW


set_option Elab.async false
set_option linter.all false
set_option maxRecDepth 100000
/-! # Typed code: operators, builtins, methods -/
namespace FW
open PySem PySem.Spec
variable {α β γ δ ε σ τ : Type} {c : Cf} {sl : List Slot} {e : α → D} {e1 : β → D} {e2 : γ → D} {eb : δ → D × Option (List D)} {ex : Option (List Slot)} {el : τ → List Slot} {f g h : Cd Val} {m : M α}
def catO (xs ys : List α) : Option (List α) := if lim (xs.length + ys.length) = true then some (xs ++ ys) else none
theorem o_addI : OpT eI eI eI dAdd fun x y => some (x + y) := fun x y z h => by cases h; rfl
theorem o_addT : OpT (eT e) (eT e) (eT e) dAdd catO := fun x y z h => by
  unfold catO at h
  split at h
  · rename_i hl
    cases h
    show (if lim ((x.map e).length + (y.map e).length) = true then some (PyData.tuple (x.map e ++ y.map e)) else none) = _
    rw [List.length_map, List.length_map, if_pos hl, ← List.map_append]
  · cases h
theorem o_addL : OpT (eL e) (eL e) (eL e) dAdd catO := fun x y z h => by
  unfold catO at h
  split at h
  · rename_i hl
    cases h
    show (if lim ((x.map e).length + (y.map e).length) = true then some (PyData.list (x.map e ++ y.map e)) else none) = _
    rw [List.length_map, List.length_map, if_pos hl, ← List.map_append]
  · cases h
theorem o_subI : OpT eI eI eI dSub fun x y => some (x - y) := fun x y z h => by cases h; rfl
def mulO (i j : Int) : Option Int := if mulOk i j = true then some (i * j) else none
theorem o_mulI : OpT eI eI eI dMulB mulO := fun x y z h => by
  unfold mulO at h
  split at h
  · rename_i hl
    cases h
    show (if mulOk x y = true then some (PyData.int (x * y)) else none) = _
    rw [if_pos hl]
  · cases h
def repT (k : Int) (xs : List α) : List α := (List.replicate k.toNat xs).flatten
theorem reps_map (k : Int) (xs : List α) : reps k (xs.map e) = (repT k xs).map e := by
  unfold reps repT
  generalize k.toNat = n
  induction n with
  | zero => rfl
  | succ n ih => rw [List.replicate_succ, List.replicate_succ, List.flatten_cons, List.flatten_cons, List.map_append, ih]
def repO (xs : List α) (k : Int) : Option (List α) := if decide (-1000 ≤ k ∧ k ≤ 1000 ∧ xs.length ≤ 1000) = true then some (repT k xs) else none
theorem o_mulT : OpT (eT e) eI (eT e) dMulB repO := fun x y z h => by
  unfold repO at h
  split at h
  · rename_i hl
    cases h
    show (if decide (-1000 ≤ y ∧ y ≤ 1000 ∧ (x.map e).length ≤ 1000) = true then some (PyData.tuple (reps y (x.map e))) else none) = _
    rw [List.length_map, if_pos hl, reps_map]
  · cases h
theorem o_mulL : OpT (eL e) eI (eL e) dMulB repO := fun x y z h => by
  unfold repO at h
  split at h
  · rename_i hl
    cases h
    show (if decide (-1000 ≤ y ∧ y ≤ 1000 ∧ (x.map e).length ≤ 1000) = true then some (PyData.list (reps y (x.map e))) else none) = _
    rw [List.length_map, if_pos hl, reps_map]
  · cases h
def unI : Option D → Option Int
  | some (.int i) => some i
  | _ => none
def unB : Option D → Option Bool
  | some (.bool i) => some i
  | _ => none
/-- an operator whose outcome is an int, a truth value -/
theorem o_unI {o : D → D → Option D} : OpT e e1 eI o fun x y => unI (o (e x) (e1 y)) := fun x y z h => by
  cases q : o (e x) (e1 y) with
  | none => simp only [q, unI] at h; cases h
  | some w => cases w <;> simp only [q, unI] at h <;> cases h; rfl
theorem o_unB {o : D → D → Option D} : OpT e e1 eB o fun x y => unB (o (e x) (e1 y)) := fun x y z h => by
  cases q : o (e x) (e1 y) with
  | none => simp only [q, unB] at h; cases h
  | some w => cases w <;> simp only [q, unB] at h <;> cases h; rfl
theorem o_D {o : D → D → Option D} : OpT e e1 eD o fun x y => o (e x) (e1 y) := fun x y z h => h
def divO (i j : Int) : Option Int := unI (dDivN (.int i) (.int j))
def modO (i j : Int) : Option Int := unI (dMod (.int i) (.int j))
def powO (i j : Int) : Option Int := unI (dPow (.int i) (.int j))
def shlO (i j : Int) : Option Int := unI (dShl (.int i) (.int j))
def shrO (i j : Int) : Option Int := unI (dShr (.int i) (.int j))
theorem o_divI : OpT eI eI eI dDivN divO := o_unI
theorem o_modI : OpT eI eI eI dMod modO := o_unI
theorem o_powI : OpT eI eI eI dPow powO := o_unI
theorem o_shlI : OpT eI eI eI dShl shlO := o_unI
theorem o_shrI : OpT eI eI eI dShr shrO := o_unI
theorem o_andI : OpT eI eI eI dAnd fun x y => some (Builtin.bitAnd x y) := fun x y z h => by cases h; rfl
theorem o_xorI : OpT eI eI eI dXor fun x y => some (Builtin.bitXor x y) := fun x y z h => by cases h; rfl
theorem o_ltI : OpT eI eI eB dLt fun x y => some (decide (x < y)) := fun x y z h => by cases h; rfl
theorem o_leI : OpT eI eI eB dLe fun x y => some (decide (x ≤ y)) := fun x y z h => by cases h; rfl
theorem o_gtI : OpT eI eI eB dGt fun x y => some (decide (y < x)) := fun x y z h => by cases h; rfl
theorem o_geI : OpT eI eI eB dGeA fun x y => some (decide (y ≤ x)) := fun x y z h => by cases h; rfl
theorem o_eqI : OpT eI eI eB dEq fun x y => some (decide (x = y)) := fun x y z h => by cases h; exact dEq_int
theorem o_neI : OpT eI eI eB dNe fun x y => some (!decide (x = y)) := fun x y z h => by cases h; exact dNe_int
def eqD (x y : D) : Option Bool := unB (dEq x y)
def neD (x y : D) : Option Bool := unB (dNe x y)
def inD (x y : D) : Option Bool := unB (dIn x y)
def ninD (x y : D) : Option Bool := unB (dNotIn x y)
def isD (x y : D) : Option Bool := unB (dIs x y)
def isnD (x y : D) : Option Bool := unB (dIsNot x y)
def ltD (x y : D) : Option Bool := unB (dLt x y)
def leD (x y : D) : Option Bool := unB (dLe x y)
def gtD (x y : D) : Option Bool := unB (dGt x y)
def geD (x y : D) : Option Bool := unB (dGeA x y)
theorem o_eq : OpT e e1 eB dEq fun x y => eqD (e x) (e1 y) := o_unB
theorem o_ne : OpT e e1 eB dNe fun x y => neD (e x) (e1 y) := o_unB
theorem o_in : OpT e e1 eB dIn fun x y => inD (e x) (e1 y) := o_unB
theorem o_nin : OpT e e1 eB dNotIn fun x y => ninD (e x) (e1 y) := o_unB
theorem o_is : OpT e e1 eB dIs fun x y => isD (e x) (e1 y) := o_unB
theorem o_isn : OpT e e1 eB dIsNot fun x y => isnD (e x) (e1 y) := o_unB
theorem o_lt : OpT e e1 eB dLt fun x y => ltD (e x) (e1 y) := o_unB
theorem o_le : OpT e e1 eB dLe fun x y => leD (e x) (e1 y) := o_unB
theorem o_gt : OpT e e1 eB dGt fun x y => gtD (e x) (e1 y) := o_unB
theorem o_ge : OpT e e1 eB dGeA fun x y => geD (e x) (e1 y) := o_unB
theorem atI_map (xs : List α) (i : Int) : L2.atI (xs.map e) i = (L2.atI xs i).map e := by
  unfold L2.atI
  rw [List.length_map]
  cases L2.ixN xs.length i with
  | none => rfl
  | some j => simp
theorem o_ixT : OpT (eT e) eI e dIx L2.atI := fun x y z h => by
  show L2.atI (x.map e) y = _
  rw [atI_map, h]
  rfl
theorem o_ixL : OpT (eL e) eI e dIx L2.atI := fun x y z h => by
  show L2.atI (x.map e) y = _
  rw [atI_map, h]
  rfl
theorem q_fst {m : M (α × β)} (q : SimE c (eP2 e e1) sl f m) : SimD c e sl (cOp dIx f (cK (.int 0))) (M.bind m fun p => M.pure p.1) := fun ρ =>
  GG.bind (q ρ) fun v a ra => fun μ Q E R z => by
    show okE (p2 dIx v (.d (.int 0)) μ) _ _
    unfold p2
    rw [ra.rd R]
    exact ⟨R.bs.same, _, rfl, z⟩
theorem q_snd {m : M (α × β)} (q : SimE c (eP2 e e1) sl f m) : SimD c e1 sl (cOp dIx f (cK (.int 1))) (M.bind m fun p => M.pure p.2) := fun ρ =>
  GG.bind (q ρ) fun v a ra => fun μ Q E R z => by
    show okE (p2 dIx v (.d (.int 1)) μ) _ _
    unfold p2
    rw [ra.rd R]
    exact ⟨R.bs.same, _, rfl, z⟩
theorem u_negI : OpU eI eI dNeg fun x => some (-x) := fun x z h => by cases h; rfl
/-! ### builtins -/
theorem b_lenT : OpB (aC (eT e) aN) eI bLen fun p => some (p.1.length : Int) := fun p z h => by cases h; show some (PyData.int ((p.1.map e).length : Nat)) = _; rw [List.length_map]
theorem b_lenL : OpB (aC (eL e) aN) eI bLen fun p => some (p.1.length : Int) := fun p z h => by cases h; show some (PyData.int ((p.1.map e).length : Nat)) = _; rw [List.length_map]
def lenD : D → Option Int
  | .list xs => some xs.length
  | .tuple xs => some xs.length
  | _ => none
theorem b_lenD : OpB (aC eD aN) eI bLen fun p => lenD p.1 := fun p z h => by
  obtain ⟨x, u⟩ := p
  cases x <;> cases h <;> rfl
def absT (i : Int) : Int := if i < 0 then -i else i
theorem b_absI : OpB (aC eI aN) eI bAbs fun p => some (absT p.1) := fun p z h => by cases h; rfl
theorem b_intI : OpB (aC eI aN) eI bInt fun p => some p.1 := fun p z h => by cases h; rfl
theorem b_intB : OpB (aC eB aN) eI bInt fun p => some (if p.1 = true then 1 else 0) := fun p z h => by cases h; rfl
theorem bools_map : ∀ xs : List Bool, bools? (xs.map eB) = some xs
  | [] => rfl
  | x :: xs => by
    show (match bools? (xs.map eB) with | some bs => some (x :: bs) | none => none) = _
    rw [bools_map xs]
theorem ints_map : ∀ xs : List Int, ints? (xs.map eI) = some xs
  | [] => rfl
  | x :: xs => by
    show (match ints? (xs.map eI) with | some bs => some (x :: bs) | none => none) = _
    rw [ints_map xs]
theorem b_all : OpB (aC (eL eB) aN) eB bAll fun p => some (p.1.all id) := fun p z h => by
  cases h
  show (match bools? (p.1.map eB) with | some bs => some (PyData.bool (bs.all id)) | none => none) = _
  rw [bools_map]
theorem b_any : OpB (aC (eL eB) aN) eB bAny fun p => some (p.1.any id) := fun p z h => by
  cases h
  show (match bools? (p.1.map eB) with | some bs => some (PyData.bool (bs.any id)) | none => none) = _
  rw [bools_map]
theorem b_sum : OpB (aC (eL eI) aN) eI bSum fun p => some p.1.sum := fun p z h => by
  cases h
  show (match ints? (p.1.map eI) with | some bs => some (PyData.int bs.sum) | none => none) = _
  rw [ints_map]
theorem b_tupL : OpB (aC (eL e) aN) (eT e) bTup fun p => some p.1 := fun p z h => by cases h; rfl
theorem b_tupT : OpB (aC (eT e) aN) (eT e) bTup fun p => some p.1 := fun p z h => by cases h; rfl
theorem b_lstL : OpB (aC (eL e) aN) (eL e) bLst fun p => some p.1 := fun p z h => by cases h; rfl
theorem b_lstT : OpB (aC (eT e) aN) (eL e) bLst fun p => some p.1 := fun p z h => by cases h; rfl
theorem b_maxL : OpB (aC (eL eI) aN) eI bMaxL fun p => maxL p.1 := fun p z h => by
  show (match ints? (p.1.map eI) with | some is => (maxL is).map PyData.int | none => none) = _
  rw [ints_map]
  simp only [h]
  rfl
theorem b_minL : OpB (aC (eL eI) aN) eI bMinL fun p => minL p.1 := fun p z h => by
  show (match ints? (p.1.map eI) with | some is => (minL is).map PyData.int | none => none) = _
  rw [ints_map]
  simp only [h]
  rfl
theorem b_max2 : OpB (aC eI (aC eI aN)) eI bMax2 fun p => some (if p.2.1 > p.1 then p.2.1 else p.1) := fun p z h => by cases h; rfl
theorem b_min2 : OpB (aC eI (aC eI aN)) eI bMin2 fun p => some (if p.2.1 < p.1 then p.2.1 else p.1) := fun p z h => by cases h; rfl
theorem o_maxD : OpT (eL eI) eI eI dMaxD fun xs k => some ((maxL xs).getD k) := fun x y z h => by
  cases h
  show (match ints? (x.map eI) with | some is => some (PyData.int ((maxL is).getD y)) | none => none) = _
  rw [ints_map]
theorem p_int : OpP eI fun i => some (i != 0) := fun a b h => by cases h; rfl
theorem p_list : OpP (eL e) fun xs => some (!xs.isEmpty) := fun a b h => by cases h; show some (!(a.map e).isEmpty) = _; cases a <;> rfl
theorem p_tup : OpP (eT e) fun xs => some (!xs.isEmpty) := fun a b h => by cases h; show some (!(a.map e).isEmpty) = _; cases a <;> rfl
theorem p_D : OpP eD truB := fun a b h => h
/-! ### methods that read -/
def idxO (xs d : D) : Option Int := unI (mIndex xs [d])
def cntO (xs d : D) : Option Int := unI (mCount xs [d])
def cM2 (op : D → List D → Option D) (v : Val) (g : Cd (List Val)) : Cd Val := fun ρ μ => (g ρ μ).bind fun vs μ2 => match rd v μ2, rds vs μ2 with
  | some x, some xs => match op x xs with
    | some z => .ok (.d z) μ2
    | none => .stuck
  | _, _ => .stuck
theorem meth_in {op : D → List D → Option D} {g : Cd (List Val)} {bs : List PK} {es : β → List D} {n : M β} {ρ : Env} {v : Val} {x : List α} (ra : RdV c sl ρ v (eL e x)) (qa : SimA c es bs sl g n) (hb : noT bs = true) :
    GG c sl ρ (cM2 op v g ρ) (fun v a => v = .d (eI a)) (M.bind n fun b => (X.of (unI (op (.list (x.map e)) (es b)))).m) :=
  GG.bind (qa ρ) fun vs b rb => GG.of fun μ z R hz => ⟨.d (eI z), by
    rw [ra.rd R, rb.rds R hb]
    cases q : op (.list (x.map e)) (es b) with
    | none => simp only [q, unI] at hz; cases hz
    | some w => cases w <;> simp only [q, unI] at hz <;> cases hz; simp only [eL, q], rfl⟩
theorem q_meth {op : D → List D → Option D} {g : Cd (List Val)} {bs : List PK} {es : β → List D} {n : M β} {m : M (List α)} (q : SimE c (eL e) sl f m) (qa : SimA c es bs sl g n) (hb : noT bs = true) : SimD c eI sl (cM op f g) (M.bind m fun x => M.bind n fun b => (X.of (unI (op (.list (x.map e)) (es b)))).m) := fun ρ =>
  GG.bind (q ρ) fun v x ra => fun μ Q E R z => by
    rw [ra.rd R]
    exact meth_in (op := op) ra qa hb μ Q E R z
/-! ### tuple(range(..)), list(range(..)) -/
def rgO (a b : Int) : Option (List Int) := if okRg a b = true then some (rngT a (b - a).toNat) else none
theorem q_rg1T {bs : List PK} {g : Cd (List Val)} {m : M (Int × Unit)} (q : SimA c (aC eI aN) bs sl g m) (hb : noT bs = true) : SimD c (eT eI) sl (cRg true g) (M.bind m fun p => (X.of (rgO 0 p.1)).m) := fun ρ =>
  GG.bind (q ρ) fun vs p r => GG.of fun μ z R hz => by
    rw [r.rds R hb]
    unfold rgO at hz
    split at hz
    · rename_i hd
      cases hz
      refine ⟨_, if_pos hd, ?_⟩
      show Val.d (PyData.tuple (rng 0 (p.1 - 0).toNat)) = _
      rw [rng_T]
    · cases hz
theorem q_rg1L {bs : List PK} {g : Cd (List Val)} {m : M (Int × Unit)} (q : SimA c (aC eI aN) bs sl g m) (hb : noT bs = true) : SimD c (eL eI) sl (cRg false g) (M.bind m fun p => (X.of (rgO 0 p.1)).m) := fun ρ =>
  GG.bind (q ρ) fun vs p r => GG.of fun μ z R hz => by
    rw [r.rds R hb]
    unfold rgO at hz
    split at hz
    · rename_i hd
      cases hz
      refine ⟨_, if_pos hd, ?_⟩
      show Val.d (PyData.list (rng 0 (p.1 - 0).toNat)) = _
      rw [rng_T]
    · cases hz
theorem q_rg2T {bs : List PK} {g : Cd (List Val)} {m : M (Int × Int × Unit)} (q : SimA c (aC eI (aC eI aN)) bs sl g m) (hb : noT bs = true) : SimD c (eT eI) sl (cRg true g) (M.bind m fun p => (X.of (rgO p.1 p.2.1)).m) := fun ρ =>
  GG.bind (q ρ) fun vs p r => GG.of fun μ z R hz => by
    rw [r.rds R hb]
    unfold rgO at hz
    split at hz
    · rename_i hd
      cases hz
      refine ⟨_, if_pos hd, ?_⟩
      show Val.d (PyData.tuple (rng p.1 (p.2.1 - p.1).toNat)) = _
      rw [rng_T]
    · cases hz
theorem q_rg2L {bs : List PK} {g : Cd (List Val)} {m : M (Int × Int × Unit)} (q : SimA c (aC eI (aC eI aN)) bs sl g m) (hb : noT bs = true) : SimD c (eL eI) sl (cRg false g) (M.bind m fun p => (X.of (rgO p.1 p.2.1)).m) := fun ρ =>
  GG.bind (q ρ) fun vs p r => GG.of fun μ z R hz => by
    rw [r.rds R hb]
    unfold rgO at hz
    split at hz
    · rename_i hd
      cases hz
      refine ⟨_, if_pos hd, ?_⟩
      show Val.d (PyData.list (rng p.1 (p.2.1 - p.1).toNat)) = _
      rw [rng_T]
    · cases hz
def rng3T (lo c : Int) (n : Nat) : List Int := (List.range n).map fun (k : Nat) => lo + (k : Int) * c
def rg3 (a b k : Int) : Option (List Int) := if ok3 a b k = true then some (rng3T a k (Builtin.Range.rangeSize a b k).toNat) else none
theorem q_r3 {bs : List PK} {g : Cd (List Val)} {m : M (Int × Int × Int × Unit)} (q : SimA c (aC eI (aC eI (aC eI aN))) bs sl g m) (hb : noT bs = true) : SimI c eI sl (iR3 g) (M.bind m fun p => (X.of (rg3 p.1 p.2.1 p.2.2.1)).m) := fun ρ =>
  GG.bind (q ρ) fun vs p r => GG.of fun μ z R hz => by
    rw [r.rds R hb]
    unfold rg3 at hz
    split at hz
    · rename_i hd
      cases hz
      refine ⟨_, if_pos hd, rfl, ?_⟩
      show rng3 _ _ _ = _
      unfold rng3 rng3T
      rw [List.map_map]
      rfl
    · cases hz
/-! ### writing lists -/
def X.ext (xs zs : List γ) : X (List γ) := if lim (xs.length + zs.length) = true then .ok (xs ++ zs) else .no
theorem q_ext {xs : List γ} {m : M (List γ)} (i : Nat) (hs : sl[i]? = some (.c (xs.map e2))) (q : SimD c (eL e2) sl f m) (hx : ExR c ex sl := by exact fun _ h => nomatch h) :
    SimS c (fun ys : List γ => sl.set i (.c (ys.map e2))) el eb ex sl (sExt (cV i) f) (M.bind m fun a => M.bind (X.ext xs a).m fun ys => M.pure (.next ys)) := by
  intro n ρ μ Q E R z
  obtain ⟨l, h1, h2, h3⟩ := R.at' i _ hs
  have hv : cV i ρ μ = .ok (.loc l) μ := by unfold cV; rw [h1]
  unfold sExt
  rw [hv]
  simp only [lift, h3]
  refine lift_of (q ρ) R z hx fun v a μ1 ra R1 qa => ?_
  subst ra
  obtain ⟨l', g1, g2, g3⟩ := R1.at' i _ hs
  rw [h1] at g1
  cases g1
  simp only [g3, eL]
  have qa : (X.ext xs a).m (fun ys => Q (.next ys)) E := qa
  unfold X.ext at qa
  rw [List.length_map, List.length_map]
  by_cases hl : lim (xs.length + a.length) = true
  · rw [if_pos hl] at qa ⊢
    refine ⟨xs ++ a, ?_, qa⟩
    show Rl c (sl.set i (.c ((xs ++ a).map e2))) ρ _
    rw [List.map_append]
    exact R1.put hs h1
  · rw [if_neg hl] at qa
    exact qa.elim
def X.ins (xs : List γ) (j : Int) (a : γ) : X (List γ) := if (lim (xs.length + 1) && decide (0 ≤ j ∧ j < 2 ^ 62)) = true then .ok (xs.take j.toNat ++ [a] ++ xs.drop j.toNat) else .no
theorem q_ins {xs : List γ} {m : M γ} {n : M Int} (i : Nat) (hs : sl[i]? = some (.c (xs.map e2))) (q2 : SimE c eI sl g n) (q : SimD c e2 sl f m) (hx : ExR c ex sl := by exact fun _ h => nomatch h) :
    SimS c (fun ys : List γ => sl.set i (.c (ys.map e2))) el eb ex sl (sIns (cV i) g f) (M.bind n fun j => M.bind m fun a => M.bind (X.ins xs j a).m fun ys => M.pure (.next ys)) := by
  intro k ρ μ Q E R z
  obtain ⟨l, h1, h2, h3⟩ := R.at' i _ hs
  have hv : cV i ρ μ = .ok (.loc l) μ := by unfold cV; rw [h1]
  unfold sIns
  rw [hv]
  simp only [lift, h3]
  refine lift_of (q2 ρ) R z hx fun w j μ1 rj R1 qj => ?_
  refine lift_of (q ρ) R1 qj hx fun v a μ2 ra R2 qa => ?_
  subst ra
  obtain ⟨l', g1, g2, g3⟩ := R2.at' i _ hs
  rw [h1] at g1
  cases g1
  rw [rj.rd R2]
  simp only [g3]
  have qa : (X.ins xs j a).m (fun ys => Q (.next ys)) E := qa
  unfold X.ins at qa
  rw [List.length_map]
  by_cases hl : (lim (xs.length + 1) && decide (0 ≤ j ∧ j < 2 ^ 62)) = true
  · rw [if_pos hl] at qa ⊢
    refine ⟨_, ?_, qa⟩
    have e0 : List.take j.toNat (xs.map e2) ++ [e2 a] ++ List.drop j.toNat (xs.map e2) = (xs.take j.toNat ++ [a] ++ xs.drop j.toNat).map e2 := by simp
    show Rl c (sl.set i (.c ((xs.take j.toNat ++ [a] ++ xs.drop j.toNat).map e2))) ρ _
    rw [← e0]
    exact R2.put hs h1
  · rw [if_neg hl] at qa
    exact qa.elim
def X.pop (xs : List γ) : X (γ × List γ) := match xs.getLast? with
  | some x => .ok (x, xs.dropLast)
  | none => .no
theorem q_pop {xs : List γ} (j i : Nat) (hs : sl[i]? = some (.c (xs.map e2))) (hij : i ≠ j) : SimS c (fun p : γ × List γ => (sl.set i (.c (p.2.map e2))).set j (.d (e2 p.1))) el eb ex sl (sSet j (cPop (cV i))) (M.bind (X.pop xs).m fun p => M.pure (.next p)) := by
  intro k ρ μ Q E R z
  obtain ⟨l, h1, h2, h3⟩ := R.at' i _ hs
  have hv : cV i ρ μ = .ok (.loc l) μ := by unfold cV; rw [h1]
  have z : (X.pop xs).m (fun p => Q (.next p)) E := z
  unfold X.pop at z
  cases hl : xs.getLast? with
  | none => rw [hl] at z; exact z.elim
  | some x =>
    rw [hl] at z
    have e0 : (xs.map e2).getLast? = some (e2 x) := by rw [List.getLast?_map, hl]; rfl
    have e1 : cPop (cV i) ρ μ = .ok (.d (e2 x)) (μ.set l (.lst (xs.map e2).dropLast)) := by
      unfold cPop
      rw [hv]
      show (match μ[l]? with | some (.lst xs) => (match xs.getLast? with | some x => FW.R.ok (Val.d x) (μ.set l (.lst xs.dropLast)) | none => FW.R.stuck) | _ => FW.R.stuck) = _
      simp only [h3, e0]
    unfold sSet
    rw [e1]
    refine ⟨(x, xs.dropLast), ?_, z⟩
    have e2' : (xs.map e2).dropLast = xs.dropLast.map e2 := by rw [List.map_dropLast]
    rw [e2']
    exact (R.put hs h1).setD
def X.aug (o : Int → Int → Int) (xs : List Int) (j y : Int) : X (List Int) := match L2.ixN xs.length j with
  | some k => match xs[k]? with
    | some x => .ok (xs.set k (o x y))
    | none => .no
  | none => .no
theorem q_augP {o : D → D → Option D} {op : Int → Int → Int} {xs : List Int} {m : M Int} {n : M Int} (ho : ∀ a b, o (.int a) (.int b) = some (.int (op a b))) (i : Nat) (hs : sl[i]? = some (.c (xs.map eI))) (q2 : SimE c eI sl g n) (q : SimE c eI sl f m) (hx : ExR c ex sl := by exact fun _ h => nomatch h) :
    SimS c (fun ys : List Int => sl.set i (.c (ys.map eI))) el eb ex sl (sAugP o (cV i) g f) (M.bind n fun j => M.bind (X.of (L2.atI xs j)).m fun _ => M.bind m fun y => M.bind (X.aug op xs j y).m fun ys => M.pure (.next ys)) := by
  intro k ρ μ Q E R z
  obtain ⟨l, h1, h2, h3⟩ := R.at' i _ hs
  have hv : cV i ρ μ = .ok (.loc l) μ := by unfold cV; rw [h1]
  unfold sAugP
  rw [hv]
  simp only [lift]
  refine lift_of (q2 ρ) R z hx fun w j μ1 rj R1 qj => ?_
  obtain ⟨l', g1, g2, g3⟩ := R1.at' i _ hs
  rw [h1] at g1
  cases g1
  rw [rj.rd R1]
  simp only [g3]
  cases ha : L2.atI xs j with
  | none => have qj : (X.of (L2.atI xs j)).m _ E := qj; rw [ha] at qj; exact qj.elim
  | some x =>
    have qj : (X.of (L2.atI xs j)).m _ E := qj
    rw [ha] at qj
    rw [atI_map, ha]
    simp only [Option.map]
    have ex' : ∃ k, L2.ixN xs.length j = some k ∧ xs[k]? = some x := by
      unfold L2.atI at ha
      cases hk : L2.ixN xs.length j with
      | none => rw [hk] at ha; cases ha
      | some k => rw [hk] at ha; exact ⟨k, rfl, ha⟩
    obtain ⟨k', hk, hkx⟩ := ex'
    refine lift_of (q ρ) R1 qj hx fun v y μ2 ry R2 qy => ?_
    obtain ⟨l'', g4, g5, g6⟩ := R2.at' i _ hs
    rw [h1] at g4
    cases g4
    rw [ry.rd R2]
    have qy : (X.aug op xs j y).m (fun ys => Q (.next ys)) E := qy
    unfold X.aug at qy
    rw [hk] at qy
    simp only [hkx] at qy
    simp only [ho, g6, List.length_map, hk]
    refine ⟨xs.set k' (op x y), ?_, qy⟩
    show Rl c (sl.set i (.c ((xs.set k' (op x y)).map eI))) ρ _
    rw [List.map_set]
    exact R2.put hs h1
theorem par3_N {i j l : Nat} {f g h : Cd Val} : sPar3 i j l f g h = sParN [i, j, l] (aCons f (aCons g (aCons h aNil))) := by
  funext n0 ρ μ
  unfold sPar3 sParN aCons aNil
  cases f ρ μ with
  | ok v μ1 =>
    simp only [lift, R.bind]
    cases g ρ μ1 with
    | ok u μ2 =>
      simp only [R.bind]
      cases h ρ μ2 <;> rfl
    | exc _ _ _ => rfl
    | stuck => rfl
  | exc _ _ _ => rfl
  | stuck => rfl
theorem q_par3 {i j l : Nat} {ss : σ → List Slot} {m : M σ} (q : SimV c ss sl (aCons f (aCons g (aCons h aNil))) m) (hx : ExR c ex sl := by exact fun _ h => nomatch h) : SimS c (fun a => setAllS sl [i, j, l] (ss a)) el eb ex sl (sPar3 i j l f g h) (M.bind m fun a => M.pure (.next a)) := by
  rw [par3_N]
  exact q_parN q hx
end FW


set_option Elab.async false
set_option linter.all false
set_option maxRecDepth 100000
/-! # Typed code: tuples' parts, values of any kind -/
namespace FW
open PySem PySem.Spec
variable {α β γ δ ε σ τ : Type} {c : Cf} {sl : List Slot} {e : α → D} {e1 : β → D} {e2 : γ → D} {eb : δ → D × Option (List D)} {ex : Option (List Slot)} {el : τ → List Slot} {f g h : Cd Val} {m : M α}
theorem q_unp2 {m : M (α × β)} (i j : Nat) (q : SimD c (eP2 e e1) sl f m) (hx : ExR c ex sl := by exact fun _ h => nomatch h) : SimS c (fun p : α × β => (sl.set i (.d (e p.1))).set j (.d (e1 p.2))) el eb ex sl (sUnp (bP i j) f) (M.bind m fun p => M.pure (.next p)) :=
  fun n ρ μ Q E R z => lift_of (q ρ) R z hx fun v a μ1 ra R1 qa => by
    subst ra
    exact ⟨a, R1.setD.setD, qa⟩
theorem q_unp3 {m : M (α × β × γ)} (i j l : Nat) (q : SimD c (eP3 e e1 e2) sl f m) (hx : ExR c ex sl := by exact fun _ h => nomatch h) : SimS c (fun p : α × β × γ => ((sl.set i (.d (e p.1))).set j (.d (e1 p.2.1))).set l (.d (e2 p.2.2))) el eb ex sl (sUnp (bP3 i j l) f) (M.bind m fun p => M.pure (.next p)) :=
  fun n ρ μ Q E R z => lift_of (q ρ) R z hx fun v a μ1 ra R1 qa => by
    subst ra
    exact ⟨a, R1.setD.setD.setD, qa⟩
def un2 : D → Option (D × D)
  | .tuple [a, b] => some (a, b)
  | _ => none
def un3 : D → Option (D × D × D)
  | .tuple [a, b, c] => some (a, b, c)
  | _ => none
theorem un2_is {x : D} {p : D × D} (h : un2 x = some p) : x = eP2 eD eD p := by
  unfold un2 at h
  split at h
  · cases h; rfl
  · cases h
theorem un3_is {x : D} {p : D × D × D} (h : un3 x = some p) : x = eP3 eD eD eD p := by
  unfold un3 at h
  split at h
  · cases h; rfl
  · cases h
/-- a value of any kind, read as one of a kind -/
theorem q_as {r : D → Option β} {m : M D} (hr : ∀ x b, r x = some b → x = e1 b) (q : SimD c eD sl f m) : SimD c e1 sl f (M.bind m fun x => (X.of (r x)).m) := by
  intro ρ μ Q E R z
  refine okE_mono (q ρ μ _ E R z) (fun v μ1 ⟨S, x, rx, qx⟩ => ?_) (fun _ _ _ z => z)
  have qx : (X.of (r x)).m Q E := qx
  cases hb : r x with
  | none => rw [hb] at qx; exact qx.elim
  | some b => rw [hb] at qx; exact ⟨S, b, by rw [rx]; show Val.d x = _; rw [hr x b hb], qx⟩
theorem q_asE {r : D → Option β} {m : M D} (hr : ∀ x b, r x = some b → x = e1 b) (q : SimE c eD sl f m) : SimE c e1 sl f (M.bind m fun x => (X.of (r x)).m) := by
  intro ρ μ Q E R z
  refine okE_mono (q ρ μ _ E R z) (fun v μ1 ⟨S, x, rx, qx⟩ => ?_) (fun _ _ _ z => z)
  have qx : (X.of (r x)).m Q E := qx
  cases hb : r x with
  | none => rw [hb] at qx; exact qx.elim
  | some b => rw [hb] at qx; exact ⟨S, b, (show RdV c sl ρ v (e1 b) from by rw [← hr x b hb]; exact rx), qx⟩
def asL : D → Option (List D)
  | .list xs => some xs
  | _ => none
def asT : D → Option (List D)
  | .tuple xs => some xs
  | _ => none
def asI : D → Option Int
  | .int i => some i
  | _ => none
def asB : D → Option Bool
  | .bool i => some i
  | _ => none
theorem asL_is (x : D) (b : List D) (h : asL x = some b) : x = eL eD b := by
  unfold asL at h
  split at h
  · cases h; show _ = PyData.list (b.map eD); rw [show (eD : D → D) = id from rfl, List.map_id]
  · cases h
theorem asT_is (x : D) (b : List D) (h : asT x = some b) : x = eT eD b := by
  unfold asT at h
  split at h
  · cases h; show _ = PyData.tuple (b.map eD); rw [show (eD : D → D) = id from rfl, List.map_id]
  · cases h
theorem asI_is (x : D) (b : Int) (h : asI x = some b) : x = eI b := by
  unfold asI at h
  split at h
  · cases h; rfl
  · cases h
theorem asB_is (x : D) (b : Bool) (h : asB x = some b) : x = eB b := by
  unfold asB at h
  split at h
  · cases h; rfl
  · cases h
theorem map_eD {α : Type} (e : α → D) (xs : List α) : (xs.map e).map eD = xs.map e := by rw [show (eD : D → D) = id from rfl, List.map_id]
theorem he_T (e : α → D) (xs : List α) : eT e xs = eT eD (xs.map e) := by show PyData.tuple _ = PyData.tuple _; rw [map_eD]
theorem he_L (e : α → D) (xs : List α) : eL e xs = eL eD (xs.map e) := by show PyData.list _ = PyData.list _; rw [map_eD]
/-- walked over: a list or tuple of any kind -/
def itD : D → Option (List D)
  | .list xs => some xs
  | .tuple xs => some xs
  | _ => none
theorem q_ivD {m : M D} (q : SimD c eD sl f m) : SimI c eD sl (iV f) (M.bind m fun x => (X.of (itD x)).m) := by
  intro ρ μ Q E R z
  show okE ((f ρ μ).bind _) _ _
  rw [okE_bind]
  refine okE_mono (q ρ μ _ E R z) (fun v μ1 ⟨S, a, ra, qa⟩ => ?_) (fun _ _ _ z => z)
  subst ra
  cases a with
  | list xs => exact ⟨S, xs, ⟨rfl, by rw [show (eD : D → D) = id from rfl, List.map_id]⟩, qa⟩
  | tuple xs => exact ⟨S, xs, ⟨rfl, by rw [show (eD : D → D) = id from rfl, List.map_id]⟩, qa⟩
  | _ => exact qa.elim
def cutD (x : D) (lo hi : Option Int) : Option D := match x with
  | .list xs => some (.list (cut xs lo hi))
  | .tuple xs => some (.tuple (cut xs lo hi))
  | _ => none
theorem q_slD {m : M D} {l h : Cd (Option Int)} {n k : M (Option Int)} (q : SimE c eD sl f m) (ql : SimO c sl l n) (qh : SimO c sl h k) : SimD c eD sl (cSl f l h) (M.bind m fun xs => M.bind n fun lo => M.bind k fun hi => (X.of (cutD xs lo hi)).m) := fun ρ =>
  GG.bind (q ρ) fun v xs r => GG.bind (ql ρ) fun lo' lo rl => GG.bind (qh ρ) fun hi' hi rh => GG.of fun μ z R hz => by
    subst rl rh
    unfold pSl
    rw [r.rd R]
    cases xs with
    | list xs => cases hz; exact ⟨_, rfl, rfl⟩
    | tuple xs => cases hz; exact ⟨_, rfl, rfl⟩
    | _ => cases hz
end FW


set_option Elab.async false
set_option linter.all false
set_option maxRecDepth 100000
/-! # Typed code: a parameter's cell that is written on -/
namespace FW
open PySem PySem.Spec
variable {α β γ δ ε σ τ : Type} {c : Cf} {sl : List Slot} {e : α → D} {e1 : β → D} {e2 : γ → D} {eb : δ → D × Option (List D)} {ex : Option (List Slot)} {es : σ → List Slot} {el : τ → List Slot} {f g h : Cd Val} {m : M α}
theorem Rl.putK {ρ : Env} {μ : Sto} {i l : Nat} {xs ys : List D} (R : Rl c sl ρ μ) (hs : sl[i]? = some (.k xs)) (hl : ρ[i]? = some (some (.loc l))) : Rl c (sl.set i (.k ys)) ρ (μ.set l (.lst ys)) := by
  obtain ⟨l', h1, h2, ho, h3⟩ := R.at' i _ hs
  rw [hl] at h1
  cases h1
  have hlt : l < μ.length := (List.getElem?_eq_some_iff.mp h3).1
  have hl0 := (R.bs.tap l h2).1
  refine ⟨by rw [List.length_set]; exact R.len, fun j t h => ?_, fun j k xs' ys' hjk h1 h2 => ?_, fun j k xs' ys' h1 h2 => ?_, ⟨R.bs.n0, by rw [List.length_set]; exact R.bs.le, fun a ha ht => ?_, fun a ha => ?_, R.bs.tr⟩⟩
  · rcases getElem?_set_eq h with ⟨rfl, rfl, _⟩ | ⟨hj, h⟩
    · exact ⟨l, hl, h2, ho, List.getElem?_set_self hlt⟩
    · have q := R.at' j t h
      cases t with
      | c zs =>
        obtain ⟨l2, g1, g2, g3⟩ := q
        exact ⟨l2, g1, g2, by rw [List.getElem?_set_ne (by omega)]; exact g3⟩
      | k zs => exact (hj (R.one i j xs zs hs h)).elim
      | _ => exact q
  · rcases getElem?_set_eq h1 with ⟨_, h, _⟩ | ⟨_, h1⟩
    · cases h
    · rcases getElem?_set_eq h2 with ⟨_, h, _⟩ | ⟨_, h2⟩
      · cases h
      · exact R.dist j k xs' ys' hjk h1 h2
  · have aux : ∀ (j : Nat) (xs' : List D), (sl.set i (.k ys))[j]? = some (.k xs') → ∃ zs, sl[j]? = some (.k zs) := fun j xs' h => by
      rcases getElem?_set_eq h with ⟨rfl, _, _⟩ | ⟨_, h⟩
      · exact ⟨xs, hs⟩
      · exact ⟨xs', h⟩
    obtain ⟨z1, h1⟩ := aux j xs' h1
    obtain ⟨z2, h2⟩ := aux k ys' h2
    exact R.one j k z1 z2 h1 h2
  · rw [List.getElem?_set_ne (by intro z; subst z; exact ht h2)]
    exact R.bs.bas a ha ht
  · rw [h2] at ha
    cases ha
    exact ⟨hl0, ys, List.getElem?_set_self hlt, R.bs.tr ho _⟩
theorem q_putK {xs : List γ} {m : M γ} {n : M Int} (i : Nat) (hs : sl[i]? = some (.k (xs.map e2))) (q : SimD c e2 sl f m) (q2 : SimE c eI sl g n) (hx : ExR c ex sl := by exact fun _ h => nomatch h) :
    SimS c (fun ys : List γ => sl.set i (.k (ys.map e2))) el eb ex sl (sPut (cV i) g f) (M.bind m fun a => M.bind n fun j => M.bind (X.put xs j a).m fun ys => M.pure (.next ys)) := by
  intro k ρ μ Q E R z
  refine lift_of (q ρ) R z hx fun v a μ1 ra R1 qa => ?_
  subst ra
  obtain ⟨l, h1, h2, ho, h3⟩ := R1.at' i _ hs
  have hv : cV i ρ μ1 = .ok (.loc l) μ1 := by unfold cV; rw [h1]
  rw [hv]
  simp only [lift]
  refine lift_of (q2 ρ) R1 qa hx fun w j μ2 rj R2 qj => ?_
  obtain ⟨l', g1, g2, g4, g3⟩ := R2.at' i _ hs
  rw [h1] at g1
  cases g1
  rw [rj.rd R2]
  simp only [g3]
  have qj : (X.put xs j a).m (fun ys => Q (.next ys)) E := qj
  unfold X.put at qj
  rw [List.length_map]
  cases hk : L2.ixN xs.length j with
  | none => rw [hk] at qj; exact qj.elim
  | some k =>
    rw [hk] at qj
    refine ⟨xs.set k a, ?_, qj⟩
    show Rl c (sl.set i (.k ((xs.set k a).map e2))) ρ _
    rw [List.map_set]
    exact R2.putK hs h1
theorem q_augPK {o : D → D → Option D} {op : Int → Int → Int} {xs : List Int} {m : M Int} {n : M Int} (ho : ∀ a b, o (.int a) (.int b) = some (.int (op a b))) (i : Nat) (hs : sl[i]? = some (.k (xs.map eI))) (q2 : SimE c eI sl g n) (q : SimE c eI sl f m) (hx : ExR c ex sl := by exact fun _ h => nomatch h) :
    SimS c (fun ys : List Int => sl.set i (.k (ys.map eI))) el eb ex sl (sAugP o (cV i) g f) (M.bind n fun j => M.bind (X.of (L2.atI xs j)).m fun _ => M.bind m fun y => M.bind (X.aug op xs j y).m fun ys => M.pure (.next ys)) := by
  intro k ρ μ Q E R z
  obtain ⟨l, h1, h2, h0, h3⟩ := R.at' i _ hs
  have hv : cV i ρ μ = .ok (.loc l) μ := by unfold cV; rw [h1]
  unfold sAugP
  rw [hv]
  simp only [lift]
  refine lift_of (q2 ρ) R z hx fun w j μ1 rj R1 qj => ?_
  obtain ⟨l', g1, g2, g0, g3⟩ := R1.at' i _ hs
  rw [h1] at g1
  cases g1
  rw [rj.rd R1]
  simp only [g3]
  cases ha : L2.atI xs j with
  | none => have qj : (X.of (L2.atI xs j)).m _ E := qj; rw [ha] at qj; exact qj.elim
  | some x =>
    have qj : (X.of (L2.atI xs j)).m _ E := qj
    rw [ha] at qj
    rw [atI_map, ha]
    simp only [Option.map]
    have ex' : ∃ k, L2.ixN xs.length j = some k ∧ xs[k]? = some x := by
      unfold L2.atI at ha
      cases hk : L2.ixN xs.length j with
      | none => rw [hk] at ha; cases ha
      | some k => rw [hk] at ha; exact ⟨k, rfl, ha⟩
    obtain ⟨k', hk, hkx⟩ := ex'
    refine lift_of (q ρ) R1 qj hx fun v y μ2 ry R2 qy => ?_
    obtain ⟨l'', g4, g5, g7, g6⟩ := R2.at' i _ hs
    rw [h1] at g4
    cases g4
    rw [ry.rd R2]
    have qy : (X.aug op xs j y).m (fun ys => Q (.next ys)) E := qy
    unfold X.aug at qy
    rw [hk] at qy
    simp only [hkx] at qy
    simp only [ho, g6, List.length_map, hk]
    refine ⟨xs.set k' (op x y), ?_, qy⟩
    show Rl c (sl.set i (.k ((xs.set k' (op x y)).map eI))) ρ _
    rw [List.map_set]
    exact R2.putK hs h1
/-- what a def that writes on a parameter's cell gives -/
def FnC (F : Fn) (bs : List PK) (es : α → List D) (e : β → D) (ec : γ → D) (t : α → List γ → X (β × List γ)) : Prop :=
  ∀ (a : α) (xs : List γ) (vs : List Val) (μ : Sto) (l : Nat) (Q : β × List γ → Prop) (E : Str → D → Prop), μ[l]? = some (.lst (xs.map ec)) → ArgF μ (some l) bs vs (es a) → (t a xs).m Q E →
    okE (F vs μ) (fun v μ' => ∃ p : β × List γ, v = .d (e p.1) ∧ μ' = μ.set l (.lst (p.2.map ec)) ∧ Q p) (fun cn pl μ' => (∃ ys, μ' = μ.set l (.lst ys)) ∧ E cn pl)
/-- the slots at the start, with the cell -/
def argK : List PK → List D → List D → List Slot
  | .s :: bs, x :: xs, k => .d x :: argK bs xs k
  | .f :: bs, x :: xs, k => .f x :: argK bs xs k
  | .t :: bs, xs, k => .k k :: argK bs xs k
  | _, _, _ => []
def oneT : List PK → Bool
  | [] => true
  | .t :: r => noT r
  | _ :: r => oneT r
theorem argK_len {μ : Sto} {tp : Option Nat} {k : List D} : ∀ {bs : List PK} {vs : List Val} {xs : List D}, ArgF μ tp bs vs xs → (argK bs xs k).length = bs.length
  | [], [], [], _ => rfl
  | .s :: bs, v :: vs, x :: xs, ⟨_, t⟩ => by simp [argK, argK_len (bs := bs) t]
  | .f :: bs, v :: vs, x :: xs, ⟨_, t⟩ => by simp [argK, argK_len (bs := bs) t]
  | .t :: bs, v :: vs, xs, ⟨_, t⟩ => by simp [argK, argK_len (bs := bs) t]
  | [], [], _ :: _, h => h.elim
  | [], _ :: _, _, h => h.elim
  | .s :: _, [], _, h => h.elim
  | .s :: _, _ :: _, [], h => h.elim
  | .f :: _, [], _, h => h.elim
  | .f :: _, _ :: _, [], h => h.elim
  | .t :: _, [], _, h => h.elim
theorem argK_at {μ : Sto} {l : Nat} {k : List D} {ti : List D → Prop} (hl : μ[l]? = some (.lst k)) : ∀ {bs : List PK} {vs : List Val} {xs : List D} {i : Nat} {s : Slot}, ArgF μ (some l) bs vs xs → (argK bs xs k)[i]? = some s → ∃ v, vs[i]? = some v ∧ SlI ⟨μ.length, μ, some l, ti, true⟩ μ s (some (some v)) ∧ (∀ ys, s ≠ .c ys) ∧ (∀ ys, s = .k ys → bs[i]? = some .t)
  | .s :: bs, v :: vs, x :: xs, 0, s, ⟨h, _⟩, e => by
    simp [argK] at e; subst e
    exact ⟨v, rfl, by rw [h]; rfl, (fun _ h => by cases h), (fun _ h => by cases h)⟩
  | .f :: bs, v :: vs, x :: xs, 0, s, ⟨h, _⟩, e => by
    simp [argK] at e; subst e
    refine ⟨v, rfl, ⟨v, rfl, ?_⟩, (fun _ h => by cases h), (fun _ h => by cases h)⟩
    rcases h with h | ⟨l, ys, h1, h2, h3, h4⟩
    · exact .inl h
    · exact .inr ⟨l, ys, h1, (List.getElem?_eq_some_iff.mp h3).1, h2, h3, h4⟩
  | .t :: bs, v :: vs, xs, 0, s, ⟨⟨l', h1, h2⟩, _⟩, e => by
    simp [argK] at e; subst e
    cases h2
    exact ⟨v, rfl, ⟨l, by rw [h1], rfl, rfl, hl⟩, (fun _ h => by cases h), (fun _ _ => rfl)⟩
  | .s :: bs, v :: vs, x :: xs, i + 1, s, ⟨_, t⟩, e => argK_at hl (i := i) (bs := bs) t (by simpa [argK] using e)
  | .f :: bs, v :: vs, x :: xs, i + 1, s, ⟨_, t⟩, e => argK_at hl (i := i) (bs := bs) t (by simpa [argK] using e)
  | .t :: bs, v :: vs, xs, i + 1, s, ⟨_, t⟩, e => argK_at hl (i := i) (bs := bs) t (by simpa [argK] using e)
  | [], [], [], _, _, _, e => by simp [argK] at e
  | [], [], _ :: _, _, _, h, _ => h.elim
  | [], _ :: _, _, _, _, h, _ => h.elim
  | .s :: _, [], _, _, _, h, _ => h.elim
  | .s :: _, _ :: _, [], _, _, h, _ => h.elim
  | .f :: _, [], _, _, _, h, _ => h.elim
  | .f :: _, _ :: _, [], _, _, h, _ => h.elim
  | .t :: _, [], _, _, _, h, _ => h.elim
theorem noT_at : ∀ {bs : List PK} {i : Nat}, noT bs = true → bs[i]? ≠ some .t
  | [], i, _ => by simp
  | b :: bs, 0, h => by
    simp only [List.getElem?_cons_zero]
    intro z
    cases z
    cases h
  | b :: bs, i + 1, h => by
    simp only [List.getElem?_cons_succ]
    refine noT_at (i := i) ?_
    cases b <;> first | exact h | cases h
theorem oneT_at : ∀ {bs : List PK} {i j : Nat}, oneT bs = true → bs[i]? = some .t → bs[j]? = some .t → i = j
  | [], i, j, _, h, _ => by simp at h
  | b :: bs, 0, 0, _, _, _ => rfl
  | .t :: bs, 0, j + 1, h, _, h2 => (noT_at (i := j) (show noT bs = true from h) (by simpa using h2)).elim
  | .t :: bs, i + 1, 0, h, h1, _ => (noT_at (i := i) (show noT bs = true from h) (by simpa using h1)).elim
  | .t :: bs, i + 1, j + 1, h, h1, _ => (noT_at (i := i) (show noT bs = true from h) (by simpa using h1)).elim
  | .s :: bs, 0, j + 1, _, h1, _ => by simp at h1
  | .f :: bs, 0, j + 1, _, h1, _ => by simp at h1
  | .s :: bs, i + 1, 0, _, _, h2 => by simp at h2
  | .f :: bs, i + 1, 0, _, _, h2 => by simp at h2
  | .s :: bs, i + 1, j + 1, h, h1, h2 => by rw [oneT_at (i := i) (j := j) (show oneT bs = true from h) (by simpa using h1) (by simpa using h2)]
  | .f :: bs, i + 1, j + 1, h, h1, h2 => by rw [oneT_at (i := i) (j := j) (show oneT bs = true from h) (by simpa using h1) (by simpa using h2)]
theorem Rl.startK {μ : Sto} {l : Nat} {k : List D} {bs : List PK} {vs : List Val} {xs : List D} (n : Nat) (hl : μ[l]? = some (.lst k)) (ho : oneT bs = true) (h : ArgF μ (some l) bs vs xs) :
    Rl ⟨μ.length, μ, some l, fun _ => True, true⟩ (argK bs xs k ++ List.replicate (n - bs.length) .u) (vs.map some ++ List.replicate (n - vs.length) none) μ := by
  have l1 := (arg_len h).1
  have l2 := argK_len (k := k) h
  have hlt := (List.getElem?_eq_some_iff.mp hl).1
  have key : ∀ (i : Nat) (s : Slot), (argK bs xs k ++ List.replicate (n - bs.length) .u)[i]? = some s → SlI ⟨μ.length, μ, some l, fun _ => True, true⟩ μ s (vs.map some ++ List.replicate (n - vs.length) none)[i]? ∧ (∀ ys, s ≠ .c ys) ∧ (∀ ys, s = .k ys → bs[i]? = some .t) := by
    intro i s hs
    by_cases hi : i < bs.length
    · rw [List.getElem?_append_left (by rw [l2]; exact hi)] at hs
      obtain ⟨v, h1, h2, h3, h4⟩ := argK_at (ti := fun _ => True) hl h hs
      refine ⟨?_, h3, h4⟩
      rw [List.getElem?_append_left (by simp [l1, hi]), List.getElem?_map, h1]
      exact h2
    · rw [List.getElem?_append_right (by rw [l2]; omega), List.getElem?_replicate] at hs
      split at hs
      · rename_i hh
        cases hs
        refine ⟨?_, (fun _ h => by cases h), (fun _ h => by cases h)⟩
        rw [List.getElem?_append_right (by simp [l1]; omega), List.getElem?_replicate, if_pos (by simp [l1]; rw [l2] at hh; omega)]
        exact SlI.u
      · cases hs
  exact ⟨by simp [l1, l2], fun i s hs => (key i s hs).1, fun i j xs' ys' _ h1 _ => ((key i _ h1).2.1 _ rfl).elim, fun i j xs' ys' h1 h2 => oneT_at ho ((key i _ h1).2.2 _ rfl) ((key j _ h2).2.2 _ rfl),
    ⟨rfl, Nat.le_refl _, fun _ _ _ => rfl, fun l' hl' => by cases hl'; exact ⟨hlt, _, hl, trivial⟩, fun _ _ => trivial⟩⟩
theorem take_set {μ μ' : Sto} {l : Nat} {ys : List D} {ti : List D → Prop} (b : Bs ⟨μ.length, μ, some l, ti, true⟩ μ') (h : μ'[l]? = some (.lst ys)) : μ'.take μ.length = μ.set l (.lst ys) := by
  have hl := (b.tap l rfl).1
  apply List.ext_getElem?
  intro i
  by_cases hi : i < μ.length
  · rw [List.getElem?_take, if_pos hi]
    by_cases e : l = i
    · subst e
      rw [List.getElem?_set_self hi, h]
    · rw [List.getElem?_set_ne e]
      exact b.bas i hi (fun z => e (Option.some.inj z))
  · rw [List.getElem?_take, if_neg hi]
    exact (List.getElem?_eq_none (by rw [List.length_set]; omega)).symm
theorem q_fnC {bs : List PK} {es0 : α → List D} {k : Nat} {body : Sc} {e0 : β → D} {ec : γ → D} {m : α → List γ → M (Fl σ Empty (β × List γ))} {t : α → List γ → X (β × List γ)} {el : Empty → List Slot} (ho : oneT bs = true) (hm : ∀ a xs, (t a xs).m = M.fn none (m a xs))
    (h : ∀ (n0 : Nat) (base : Sto) (l : Nat) (a : α) (xs : List γ), SimS ⟨n0, base, some l, fun _ => True, true⟩ es el (rC e0 ec) none (argK bs (es0 a) (xs.map ec) ++ List.replicate (k - bs.length) .u) body (m a xs)) : FnC (runFn fin k body) bs es0 e0 ec t := by
  intro a xs vs μ l Q E hl ha q
  rw [hm] at q
  have z := h μ.length μ l a xs μ.length _ μ _ E (Rl.startK k hl ho ha) q
  unfold runFn
  rw [(arg_len ha).1] at *
  cases hr : body μ.length (vs.map some ++ List.replicate (k - bs.length) none) μ with
  | next ρ1 μ1 =>
    rw [hr] at z
    obtain ⟨s, R, qs⟩ := z
    exact qs.elim
  | ret v μ1 =>
    rw [hr] at z
    obtain ⟨p, hv, hb, qb⟩ := z
    have hc := take_set hb (hv.2 _ rfl l rfl)
    rcases hv.1 with rfl | ⟨l', ys, rfl, h1, h2, h3⟩
    · exact ⟨p, rfl, hc, qb⟩
    · show okE (fin μ.length (.loc l') μ1) _ _
      unfold fin
      simp only [if_neg (Nat.not_lt.mpr h1), h2]
      exact ⟨p, by rw [← h3]; rfl, hc, qb⟩
  | brk ρ1 μ1 => rw [hr] at z; obtain ⟨s, _⟩ := z; exact nomatch s
  | cont ρ1 μ1 => rw [hr] at z; obtain ⟨s, _⟩ := z; exact nomatch s
  | exc cn pl ρ1 μ1 =>
    rw [hr] at z
    obtain ⟨_, ys, h1, _⟩ := z.2.1.tap l rfl
    exact ⟨⟨ys, take_set z.2.1 h1⟩, z.2.2⟩
  | stuck => rw [hr] at z; exact z.elim
theorem q_fnC0 {bs : List PK} {es0 : α → List D} {e0 : β → D} {ec : γ → D} : FnC (fun _ _ => .stuck) bs es0 e0 ec (fun (_ : α) (_ : List γ) => (.no : X (β × List γ))) := fun a xs vs μ l Q E _ _ q => q.elim
/-- x = f(.., cell): the cell is the parameter's own -/
theorem q_setK {F : Fn} {bs : List PK} {es0 : α → List D} {t : α → List γ → X (β × List γ)} {k : Nat} {ga : Cd (List Val)} {xs : List γ} (j i : Nat) (hs : sl[i]? = some (.k (xs.map e2))) (hij : i ≠ j) (hF : FnC F bs es0 e1 e2 t) (hk : k = bs.length)
    (q : ∀ ρ μ l (Q : α → Prop) (E : Str → D → Prop), Rl c sl ρ μ → ρ[i]? = some (some (.loc l)) → m Q E → okE (ga ρ μ) (fun vs μ' => μ' = μ ∧ ∃ a, ArgF μ (some l) bs vs (es0 a) ∧ vs.all notExn = true ∧ Q a) (fun cn pl μ' => μ' = μ ∧ E cn pl)) (hx : ex = none := by rfl) :
    SimS c (fun p : β × List γ => (sl.set i (.k (p.2.map e2))).set j (.d (e1 p.1))) el eb ex sl (sSet j (cCall k F ga)) (M.bind m fun a => M.bind (t a xs).m fun p => M.pure (.next p)) := by
  subst hx
  intro n ρ μ Q E R z
  obtain ⟨l, h1, h2, h0, h3⟩ := R.at' i _ hs
  unfold sSet cCall
  have w := q ρ μ l _ E R h1 z
  cases hr : ga ρ μ with
  | exc cn pl μ' =>
    rw [hr] at w
    obtain ⟨rfl, w⟩ := w
    exact ⟨(fun _ h => nomatch h), R.bs, w⟩
  | stuck => rw [hr] at w; exact w.elim
  | ok vs μ' =>
    rw [hr] at w
    obtain ⟨rfl, a, ha, hne, qa⟩ := w
    show FlR c _ el eb none Q E (lift (if vs.length = k ∧ vs.all notExn = true then _ else _) ρ _)
    rw [if_pos ⟨(arg_len ha).1.trans hk.symm, hne⟩]
    have w := hF a xs vs μ' l (fun p => Q (.next p)) E h3 ha qa
    cases hf : F vs μ' with
    | exc cn pl μ2 =>
      rw [hf] at w
      obtain ⟨⟨ys, rfl⟩, w⟩ := w
      exact ⟨(fun _ h => nomatch h), (R.putK (ys := ys) hs h1).bs, w⟩
    | stuck => rw [hf] at w; exact w.elim
    | ok v μ2 =>
      rw [hf] at w
      obtain ⟨p, rfl, rfl, qp⟩ := w
      exact ⟨p, (R.putK hs h1).setD, qp⟩
/-- arguments of such a call -/
theorem k_nil {i : Nat} : ∀ ρ μ l (Q : Unit → Prop) (E : Str → D → Prop), Rl c sl ρ μ → ρ[i]? = some (some (.loc l)) → M.pure () Q E → okE (aNil ρ μ) (fun vs μ' => μ' = μ ∧ ∃ a : Unit, ArgF μ (some l) [] vs (aN a) ∧ vs.all notExn = true ∧ Q a) (fun cn pl μ' => μ' = μ ∧ E cn pl) :=
  fun ρ μ l Q E R h q => ⟨rfl, (), trivial, rfl, q⟩
theorem sm_eq {μ μ' : Sto} (ho : c.ow = true) (h : Sm c μ μ') : μ' = μ := List.ext_getElem? fun l => h.eq l (.inr ho)
theorem k_f {es0 : β → List D} {bs : List PK} {i : Nat} {xs : List D} {ga : Cd (List Val)} {n : M β} (ho : c.ow = true) (hs : sl[i]? = some (.k xs)) (he : ∀ a ys, e a ≠ .list ys) (q1 : SimE c e sl f m)
    (q : ∀ ρ μ l (Q : β → Prop) (E : Str → D → Prop), Rl c sl ρ μ → ρ[i]? = some (some (.loc l)) → n Q E → okE (ga ρ μ) (fun vs μ' => μ' = μ ∧ ∃ a, ArgF μ (some l) bs vs (es0 a) ∧ vs.all notExn = true ∧ Q a) (fun cn pl μ' => μ' = μ ∧ E cn pl)) :
    ∀ ρ μ l (Q : α × β → Prop) (E : Str → D → Prop), Rl c sl ρ μ → ρ[i]? = some (some (.loc l)) → (M.bind m fun a => M.bind n fun b => M.pure (a, b)) Q E → okE (aCons f ga ρ μ) (fun vs μ' => μ' = μ ∧ ∃ a, ArgF μ (some l) (.f :: bs) vs (aC e es0 a) ∧ vs.all notExn = true ∧ Q a) (fun cn pl μ' => μ' = μ ∧ E cn pl) := by
  intro ρ μ l Q E R h z
  show okE ((f ρ μ).bind fun v μ1 => (ga ρ μ1).bind fun vs μ2 => .ok (v :: vs) μ2) _ _
  rw [okE_bind]
  refine okE_mono (q1 ρ μ _ E R z) (fun v μ1 ⟨S, a, ra, qa⟩ => ?_) (fun _ _ _ ⟨S, z⟩ => ⟨sm_eq ho S, z⟩)
  have := sm_eq ho S
  subst this
  rw [okE_bind]
  refine okE_mono (q ρ μ1 l _ E R h qa) (fun vs μ2 ⟨S2, b, rb, hne, qb⟩ => ?_) (fun _ _ _ z => z)
  have ra := ra.dat (he a)
  subst ra
  exact ⟨S2, (a, b), ⟨.inl rfl, rb⟩, by simpa [notExn] using hne, qb⟩
theorem k_s {es0 : β → List D} {bs : List PK} {i : Nat} {xs : List D} {ga : Cd (List Val)} {n : M β} (ho : c.ow = true) (hs : sl[i]? = some (.k xs)) (q1 : SimD c e sl f m)
    (q : ∀ ρ μ l (Q : β → Prop) (E : Str → D → Prop), Rl c sl ρ μ → ρ[i]? = some (some (.loc l)) → n Q E → okE (ga ρ μ) (fun vs μ' => μ' = μ ∧ ∃ a, ArgF μ (some l) bs vs (es0 a) ∧ vs.all notExn = true ∧ Q a) (fun cn pl μ' => μ' = μ ∧ E cn pl)) :
    ∀ ρ μ l (Q : α × β → Prop) (E : Str → D → Prop), Rl c sl ρ μ → ρ[i]? = some (some (.loc l)) → (M.bind m fun a => M.bind n fun b => M.pure (a, b)) Q E → okE (aCons f ga ρ μ) (fun vs μ' => μ' = μ ∧ ∃ a, ArgF μ (some l) (.s :: bs) vs (aC e es0 a) ∧ vs.all notExn = true ∧ Q a) (fun cn pl μ' => μ' = μ ∧ E cn pl) := by
  intro ρ μ l Q E R h z
  show okE ((f ρ μ).bind fun v μ1 => (ga ρ μ1).bind fun vs μ2 => .ok (v :: vs) μ2) _ _
  rw [okE_bind]
  refine okE_mono (q1 ρ μ _ E R z) (fun v μ1 ⟨S, a, ra, qa⟩ => ?_) (fun _ _ _ ⟨S, z⟩ => ⟨sm_eq ho S, z⟩)
  have := sm_eq ho S
  subst this
  rw [okE_bind]
  refine okE_mono (q ρ μ1 l _ E R h qa) (fun vs μ2 ⟨S2, b, rb, hne, qb⟩ => ?_) (fun _ _ _ z => z)
  subst ra
  exact ⟨S2, (a, b), ⟨rfl, rb⟩, by simpa [notExn] using hne, qb⟩
theorem k_k {es0 : β → List D} {bs : List PK} {i : Nat} {xs : List D} {ga : Cd (List Val)} {n : M β} (hs : sl[i]? = some (.k xs))
    (q : ∀ ρ μ l (Q : β → Prop) (E : Str → D → Prop), Rl c sl ρ μ → ρ[i]? = some (some (.loc l)) → n Q E → okE (ga ρ μ) (fun vs μ' => μ' = μ ∧ ∃ a, ArgF μ (some l) bs vs (es0 a) ∧ vs.all notExn = true ∧ Q a) (fun cn pl μ' => μ' = μ ∧ E cn pl)) :
    ∀ ρ μ l (Q : β → Prop) (E : Str → D → Prop), Rl c sl ρ μ → ρ[i]? = some (some (.loc l)) → n Q E → okE (aCons (cV i) ga ρ μ) (fun vs μ' => μ' = μ ∧ ∃ a, ArgF μ (some l) (.t :: bs) vs (es0 a) ∧ vs.all notExn = true ∧ Q a) (fun cn pl μ' => μ' = μ ∧ E cn pl) := by
  intro ρ μ l Q E R h z
  have hv : cV i ρ μ = .ok (.loc l) μ := by unfold cV; rw [h]
  show okE ((cV i ρ μ).bind fun v μ1 => (ga ρ μ1).bind fun vs μ2 => .ok (v :: vs) μ2) _ _
  rw [hv]
  show okE ((ga ρ μ).bind fun vs μ2 => .ok (.loc l :: vs) μ2) _ _
  rw [okE_bind]
  exact okE_mono (q ρ μ l _ E R h z) (fun vs μ2 ⟨S2, b, rb, hne, qb⟩ => ⟨S2, b, ⟨⟨l, rfl, rfl⟩, rb⟩, by simpa [notExn] using hne, qb⟩) (fun _ _ _ z => z)
theorem o_addI2 : OpT eI eI eI dAddI fun x y => some (x + y) := fun x y z h => by cases h; rfl
theorem o_subI2 : OpT eI eI eI dSubI fun x y => some (x - y) := fun x y z h => by cases h; rfl
/-! ### return f(.., [x], ..): a new cell is handed to a def that writes on it -/
def ArgB (l : Nat) : List PK → List Val → List D → Prop
  | [], [], [] => True
  | .s :: bs, v :: vs, x :: xs => v = .d x ∧ ArgB l bs vs xs
  | .f :: bs, v :: vs, x :: xs => v = .d x ∧ ArgB l bs vs xs
  | .t :: bs, v :: vs, xs => v = .loc l ∧ ArgB l bs vs xs
  | _, _, _ => False
theorem ArgB.toF {μ : Sto} {l : Nat} : ∀ {bs : List PK} {vs : List Val} {xs : List D}, ArgB l bs vs xs → ArgF μ (some l) bs vs xs ∧ vs.all notExn = true
  | [], [], [], _ => ⟨trivial, rfl⟩
  | .s :: bs, v :: vs, x :: xs, ⟨h, t⟩ => by obtain ⟨a, b⟩ := ArgB.toF (μ := μ) (bs := bs) t; subst h; exact ⟨⟨rfl, a⟩, by simpa [notExn] using b⟩
  | .f :: bs, v :: vs, x :: xs, ⟨h, t⟩ => by obtain ⟨a, b⟩ := ArgB.toF (μ := μ) (bs := bs) t; subst h; exact ⟨⟨.inl rfl, a⟩, by simpa [notExn] using b⟩
  | .t :: bs, v :: vs, xs, ⟨h, t⟩ => by obtain ⟨a, b⟩ := ArgB.toF (μ := μ) (bs := bs) t; subst h; exact ⟨⟨⟨l, rfl, rfl⟩, a⟩, by simpa [notExn] using b⟩
  | [], [], _ :: _, h => h.elim
  | [], _ :: _, _, h => h.elim
  | .s :: _, [], _, h => h.elim
  | .s :: _, _ :: _, [], h => h.elim
  | .f :: _, [], _, h => h.elim
  | .f :: _, _ :: _, [], h => h.elim
  | .t :: _, [], _, h => h.elim
theorem ArgB.any {l l' : Nat} : ∀ {bs : List PK} {vs : List Val} {xs : List D}, noT bs = true → ArgB l bs vs xs → ArgB l' bs vs xs
  | [], [], [], _, _ => trivial
  | .s :: bs, v :: vs, x :: xs, n, ⟨h, t⟩ => ⟨h, ArgB.any (bs := bs) n t⟩
  | .f :: bs, v :: vs, x :: xs, n, ⟨h, t⟩ => ⟨h, ArgB.any (bs := bs) n t⟩
  | .t :: bs, _, _, n, _ => by cases n
  | [], [], _ :: _, _, h => h.elim
  | [], _ :: _, _, _, h => h.elim
  | .s :: _, [], _, _, h => h.elim
  | .s :: _, _ :: _, [], _, h => h.elim
  | .f :: _, [], _, _, h => h.elim
  | .f :: _, _ :: _, [], _, h => h.elim
/-- the arguments; the typed part also tells what stands in the new cell -/
def SimF (c : Cf) (ec : γ → D) (es : α → List D) (bs : List PK) (sl : List Slot) (f : Cd (List Val)) (m : M (α × List γ)) : Prop := ∀ ρ μ Q E, Rl c sl ρ μ → m Q E →
  okE (f ρ μ) (fun vs μ' => Ex2 c μ μ' ∧ ∃ l p, ArgB l bs vs (es p.1) ∧ (noT bs = false → μ.length ≤ l ∧ μ'[l]? = some (.lst (p.2.map ec))) ∧ Q p) (fun cn pl μ' => Ex2 c μ μ' ∧ E cn pl)
theorem f_nil {ec : γ → D} : SimF c ec aN [] sl aNil (M.pure ((), [])) := fun ρ μ Q E R q => ⟨R.bs.same.ex2, 0, ((), []), trivial, (fun h => by cases h), q⟩
theorem f_d {ec : γ → D} {es0 : β → List D} {bs : List PK} {ga : Cd (List Val)} {n : M (β × List γ)} (b : PK) (hb : b = .s ∨ b = .f) (q1 : SimD c e sl f m) (q2 : SimF c ec es0 bs sl ga n) : SimF c ec (aC e es0) (b :: bs) sl (aCons f ga) (M.bind m fun a => M.bind n fun p => M.pure ((a, p.1), p.2)) := by
  intro ρ μ Q E R q
  show okE ((f ρ μ).bind fun v μ1 => (ga ρ μ1).bind fun vs μ2 => .ok (v :: vs) μ2) _ _
  rw [okE_bind]
  refine okE_mono (q1 ρ μ _ E R q) (fun v μ1 ⟨S, a, ra, qa⟩ => ?_) (fun _ _ _ ⟨S, z⟩ => ⟨S.ex2, z⟩)
  subst ra
  rw [okE_bind]
  refine okE_mono (q2 ρ μ1 _ E (R.sm S) qa) (fun vs μ2 ⟨S2, l, p, rb, hc, qb⟩ => ?_) (fun _ _ _ ⟨S2, z⟩ => ⟨S.ex2.trans S2, z⟩)
  rcases hb with rfl | rfl
  · exact ⟨S.ex2.trans S2, l, ((a, p.1), p.2), ⟨rfl, rb⟩, (fun h => by obtain ⟨h1, h2⟩ := hc h; exact ⟨by rw [← S.len]; exact h1, h2⟩), qb⟩
  · exact ⟨S.ex2.trans S2, l, ((a, p.1), p.2), ⟨rfl, rb⟩, (fun h => by obtain ⟨h1, h2⟩ := hc h; exact ⟨by rw [← S.len]; exact h1, h2⟩), qb⟩
theorem f_c {ec : γ → D} {ε' : Type} {es' : ε' → List D} {bs' : List PK} {fa : Cd (List Val)} {mm : M ε'} {kk : ε' → List γ} {es0 : β → List D} {bs : List PK} {ga : Cd (List Val)} {n : M (β × List γ)} (q1 : SimA c es' bs' sl fa mm) (hb : allS bs' = true) (he : ∀ a, es' a = (kk a).map ec) (hl : ∀ a, lim (es' a).length = true)
    (hn : noT bs = true) (q2 : SimF c ec es0 bs sl ga n) : SimF c ec es0 (.t :: bs) sl (aCons (cLstC fa) ga) (M.bind mm fun a => M.bind n fun p => M.pure (p.1, kk a)) := by
  intro ρ μ Q E R q
  show okE ((cLstC fa ρ μ).bind fun v μ1 => (ga ρ μ1).bind fun vs μ2 => .ok (v :: vs) μ2) _ _
  rw [okE_bind]
  unfold cLstC
  rw [okE_bind]
  refine okE_mono (q1 ρ μ _ E R q) (fun v μ1 ⟨S, a, ra, qa⟩ => ?_) (fun _ _ _ ⟨S, z⟩ => ⟨S.ex2, z⟩)
  simp only [ra.dats hb, hl, if_true]
  have R1 := R.sm S
  have S1 : Ex2 c μ1 (μ1 ++ [.lst (es' a)]) := ⟨by rw [List.length_append]; exact Nat.le_add_right _ _, fun l hl _ => List.getElem?_append_left hl, fun l hl => by
    obtain ⟨h1, xs, h2, h3⟩ := R1.bs.tap l hl
    exact ⟨xs, by rw [List.getElem?_append_left (Nat.lt_of_lt_of_le h1 R1.bs.le)]; exact h2, h3⟩⟩
  show okE ((ga ρ (μ1 ++ [.lst (es' a)])).bind fun vs μ2 => .ok (.loc μ1.length :: vs) μ2) _ _
  rw [okE_bind]
  refine okE_mono (q2 ρ _ _ E (R1.ex2 S1) qa) (fun vs μ2 ⟨S2, l, p, rb, _, qb⟩ => ?_) (fun _ _ _ ⟨S2, z⟩ => ⟨(S.ex2.trans S1).trans S2, z⟩)
  refine ⟨(S.ex2.trans S1).trans S2, μ1.length, (p.1, kk a), ⟨rfl, rb.any hn⟩, (fun _ => ⟨Nat.le_of_eq S.len.symm, ?_⟩), qb⟩
  rw [S2.eq _ (by rw [List.length_append]; exact Nat.lt_succ_self _) (.inl fun z => by have := (R1.bs.tap _ z).1; have := R1.bs.le; omega)]
  rw [List.getElem?_append_right (Nat.le_refl _), Nat.sub_self, he]
  rfl
theorem q_retF {F : Fn} {ec : γ → D} {bs : List PK} {es0 : α → List D} {t : α → List γ → X (β × List γ)} {k : Nat} {ga : Cd (List Val)} {m : M (α × List γ)} (hF : FnC F bs es0 e1 ec t) (hk : k = bs.length) (hT : noT bs = false) (q : SimF c ec es0 bs sl ga m) (hx : ex = none := by rfl) :
    SimS c es el (rD e1) ex sl (sRet (cCall k F ga)) (M.bind m fun p => M.bind (t p.1 p.2).m fun r => M.pure (.ret r.1)) := by
  subst hx
  intro n ρ μ Q E R z
  unfold sRet cCall
  have w := q ρ μ _ E R z
  cases hr : ga ρ μ with
  | exc cn pl μ' =>
    rw [hr] at w
    exact ⟨(fun _ h => nomatch h), R.bs.ex2 w.1, w.2⟩
  | stuck => rw [hr] at w; exact w.elim
  | ok vs μ1 =>
    rw [hr] at w
    obtain ⟨S, l, p, hb, hc, qp⟩ := w
    obtain ⟨hl, hcell⟩ := hc hT
    obtain ⟨ha, hne⟩ := hb.toF (μ := μ1)
    show FlR c _ el _ none Q E (lift (if vs.length = k ∧ vs.all notExn = true then _ else _) ρ _)
    rw [if_pos ⟨(arg_len ha).1.trans hk.symm, hne⟩]
    have b1 := R.bs.ex2 S
    have hset : ∀ ys, Bs c (μ1.set l (.lst ys)) := fun ys => ⟨b1.n0, by rw [List.length_set]; exact b1.le, fun i hi ht => by rw [List.getElem?_set_ne (by have := R.bs.le; omega)]; exact b1.bas i hi ht, fun i hi => by
      obtain ⟨h1, xs, h2, h3⟩ := b1.tap i hi
      exact ⟨h1, xs, by rw [List.getElem?_set_ne (by have := R.bs.le; omega)]; exact h2, h3⟩, b1.tr⟩
    have w := hF p.1 p.2 vs μ1 l (fun r => Q (.ret r.1)) E hcell ha qp
    cases hf : F vs μ1 with
    | exc cn pl μ2 =>
      rw [hf] at w
      obtain ⟨⟨ys, rfl⟩, w⟩ := w
      exact ⟨(fun _ h => nomatch h), hset ys, w⟩
    | stuck => rw [hf] at w; exact w.elim
    | ok v μ2 =>
      rw [hf] at w
      obtain ⟨r, rfl, rfl, qr⟩ := w
      exact ⟨r.1, ⟨.inl rfl, fun _ h => by cases h⟩, hset _, qr⟩
/-- the tape, from a def whose cell is known: what is drawn keeps the tape in order -/
theorem fnM_of {F : Fn} {bs : List PK} {es0 : α → List D} {ti : List D → Prop} {t : α → List γ → X (β × List γ)} {w : α → M β} {e0 : β → D} (hF : FnC F bs es0 e0 e2 t) (hT : ∀ ys, ti ys → ∃ xs : List γ, ys = xs.map e2) (ht : (noT bs) = false)
    (h : ∀ (a : α) (xs : List γ) (Q : β → Prop) (E : Str → D → Prop), ti (xs.map e2) → w a Q E → ∃ p, t a xs = .ok p ∧ ti (p.2.map e2) ∧ Q p.1) : FnM F ti bs es0 e0 w := by
  intro a vs μ tp Q E htp ha z
  cases tp with
  | none =>
    exfalso
    have : ∀ {bs : List PK} {vs : List Val} {xs : List D}, noT bs = false → ArgF μ none bs vs xs → False := by
      intro bs
      induction bs with
      | nil => intro _ _ h _; cases h
      | cons b bs ih =>
        intro vs xs h r
        cases b with
        | s => match vs, xs, r with
          | v :: vs, x :: xs, ⟨_, t⟩ => exact ih h t
        | f => match vs, xs, r with
          | v :: vs, x :: xs, ⟨_, t⟩ => exact ih h t
        | t => match vs, xs, r with
          | v :: vs, xs, ⟨⟨l, _, hl⟩, _⟩ => cases hl
    exact this ht ha
  | some l =>
    obtain ⟨hlt, ys, hy, hti⟩ := htp l rfl
    obtain ⟨xs, rfl⟩ := hT ys hti
    obtain ⟨p, hp, hti2, qp⟩ := h a xs Q E hti z
    refine okE_mono (hF a xs vs μ l (fun q => q = p) (fun _ _ => False) hy ha (by rw [hp]; rfl)) ?_ (fun _ _ _ h => h.2.elim)
    rintro v μ' ⟨q, rfl, rfl, rfl⟩
    refine ⟨⟨List.length_set .., fun i hi => ?_, fun i hi => ?_⟩, q.1, rfl, qp⟩
    · rcases hi with hi | hi
      · rw [List.getElem?_set_ne (fun z => hi (by rw [z]))]
      · cases hi
    · cases hi
      exact ⟨_, List.getElem?_set_self hlt, hti2⟩
end FW


set_option Elab.async false
set_option linter.all false
set_option maxRecDepth 100000
/-! # Typed code: the law's end; lemmas for plain proofs -/
namespace FW
open PySem PySem.Spec
variable {α β γ δ ε σ σ1 τ : Type}
theorem SimS.eq {c : Cf} {es : σ → List Slot} {el : τ → List Slot} {eb : β → D × Option (List D)} {ex : Option (List Slot)} {sl : List Slot} {f : Sc} {m m' : M (Fl σ τ β)} (h : SimS c es el eb ex sl f m) (e : m' = m) : SimS c es el eb ex sl f m' := by rw [e]; exact h
theorem law_end {slots : Nat} {l1 rest : Sc} {ti : List D → Prop} {m : M (Fl σ Empty Bool)} {x : D} {init : List D} {es : σ → List Slot} {el : Empty → List Slot} (h1 : l1 0 (some (.d x) :: List.replicate (slots - 1) none) [] = .next (some (.d x) :: some (.loc 0) :: List.replicate (slots - 2) none) [.lst init]) (ht : ti init)
    (hs : SimS ⟨1, [.lst init], some 0, ti, false⟩ es el (rD eB) none (.d x :: .t :: List.replicate (slots - 2) .u) rest m) (hm : m (fun r => r = .ret true) (fun _ _ => False)) : runFn fin slots (sSeq l1 rest) [.d x] [] = .ok (.d (.bool true)) [] := by
  have R : Rl ⟨1, [.lst init], some 0, ti, false⟩ (.d x :: .t :: List.replicate (slots - 2) .u) (some (.d x) :: some (.loc 0) :: List.replicate (slots - 2) none) [.lst init] := by
    have key : ∀ (i : Nat) (s : Slot), (Slot.d x :: Slot.t :: List.replicate (slots - 2) Slot.u)[i]? = some s → SlI ⟨1, [.lst init], some 0, ti, false⟩ [.lst init] s ((some (.d x) :: some (.loc 0) :: List.replicate (slots - 2) none : FW.Env)[i]?) ∧ (∀ ys, s ≠ .c ys) ∧ ∀ ys, s ≠ .k ys := by
      intro i s h
      match i, h with
      | 0, h => simp at h; subst h; exact ⟨rfl, fun _ h => (by cases h), fun _ h => (by cases h)⟩
      | 1, h => simp at h; subst h; exact ⟨⟨0, rfl, rfl⟩, fun _ h => (by cases h), fun _ h => (by cases h)⟩
      | i + 2, h =>
        have h : (List.replicate (slots - 2) Slot.u)[i]? = some s := by simpa using h
        rw [List.getElem?_replicate] at h
        split at h
        · rename_i hi
          cases h
          refine ⟨?_, fun _ h => (by cases h), fun _ h => (by cases h)⟩
          have e : ((some (.d x) :: some (.loc 0) :: List.replicate (slots - 2) none : FW.Env)[i + 2]?) = some none := by
            show (List.replicate (slots - 2) (none : Option Val))[i]? = _
            rw [List.getElem?_replicate, if_pos hi]
          rw [e]
          exact SlI.u
        · cases h
    exact ⟨by simp, fun i s h => (key i s h).1, fun i j xs ys _ h _ => ((key i _ h).2.1 _ rfl).elim, fun i j xs ys h _ => ((key i _ h).2.2 _ rfl).elim, ⟨rfl, Nat.le_refl _, fun _ _ _ => rfl, fun l h => by cases h; exact ⟨Nat.zero_lt_one, init, rfl, ht⟩, fun h => by cases h⟩⟩
  have z := hs 0 _ _ _ _ R hm
  unfold runFn
  show ending fin 0 (sSeq l1 rest 0 (some (.d x) :: List.replicate (slots - 1) none) []) = _
  unfold sSeq
  rw [h1]
  show ending fin 0 (rest 0 _ _) = _
  cases hr : rest 0 (some (.d x) :: some (.loc 0) :: List.replicate (slots - 2) none) [.lst init] with
  | next ρ μ => rw [hr] at z; obtain ⟨s, _, h⟩ := z; cases h
  | ret v μ =>
    rw [hr] at z
    obtain ⟨b, hv, _, hb⟩ := z
    cases hb
    rcases hv.1 with rfl | ⟨l, ys, _, _, _, h⟩
    · rfl
    · cases h
  | brk ρ μ => rw [hr] at z; obtain ⟨s, _⟩ := z; exact nomatch s
  | cont ρ μ => rw [hr] at z; obtain ⟨s, _⟩ := z; exact nomatch s
  | exc cn pl ρ μ => rw [hr] at z; exact z.2.2.elim
  | stuck => rw [hr] at z; exact z.elim
/-! ### typed code, simplified -/
@[simp] theorem X.seq_next {s : σ1} {k : σ1 → X (Fl σ τ β)} : X.seq (.ok (.next s)) k = k s := rfl
@[simp] theorem X.seq_ret {b : β} {k : σ1 → X (Fl σ τ β)} : X.seq (.ok (.ret b) : X (Fl σ1 τ β)) k = .ok (.ret b) := rfl
@[simp] theorem X.seq_brk {b : τ} {k : σ1 → X (Fl σ τ β)} : X.seq (.ok (.brk b) : X (Fl σ1 τ β)) k = .ok (.brk b) := rfl
@[simp] theorem X.seq_cont {b : τ} {k : σ1 → X (Fl σ τ β)} : X.seq (.ok (.cont b) : X (Fl σ1 τ β)) k = .ok (.cont b) := rfl
@[simp] theorem X.seq_exc {c : Str} {p : D} {k : σ1 → X (Fl σ τ β)} : X.seq (.exc c p : X (Fl σ1 τ β)) k = .exc c p := rfl
@[simp] theorem X.fn_next {s : σ} {o : Option β} : X.fn o (.ok (.next s)) = X.of o := rfl
@[simp] theorem X.fn_ret {b : β} {o : Option β} : X.fn (σ := σ) o (.ok (.ret b)) = .ok b := rfl
@[simp] theorem X.fn_exc {c : Str} {p : D} {o : Option β} : X.fn (σ := σ) o (.exc c p) = .exc c p := rfl
@[simp] theorem X.try_ok {a : α} {h : Str → D → X α} : X.try (.ok a) h = .ok a := rfl
@[simp] theorem X.try_exc {c : Str} {p : D} {h : Str → D → X α} : X.try (.exc c p) h = h c p := rfl
@[simp] theorem X.hnd_ret {b : β} : (X.hnd (.ok (.ret b) : X (Fl σ1 τ β)) : X (Fl σ τ β)) = .ok (.ret b) := rfl
@[simp] theorem X.for_nil {body : σ → α → X (Fl σ σ β)} {s : σ} : (X.for body [] s : X (Fl σ τ β)) = .ok (.next s) := rfl
/-- a branch -/
@[simp] theorem X.seq_ite {p : Prop} [Decidable p] {a b : X (Fl σ1 τ β)} {k : σ1 → X (Fl σ τ β)} : X.seq (if p then a else b) k = if p then X.seq a k else X.seq b k := by split <;> rfl
@[simp] theorem X.fn_ite {p : Prop} [Decidable p] {a b : X (Fl σ Empty β)} {o : Option β} : X.fn o (if p then a else b) = if p then X.fn o a else X.fn o b := by split <;> rfl
@[simp] theorem X.bind_ite {p : Prop} [Decidable p] {a b : X α} {k : α → X β} : X.bind (if p then a else b) k = if p then X.bind a k else X.bind b k := by split <;> rfl
theorem X.bind_bind {x : X α} {k : α → X β} {l : β → X γ} : X.bind (X.bind x k) l = X.bind x fun a => X.bind (k a) l := by cases x <;> rfl
theorem X.seq_bind {x : X α} {f : α → X (Fl σ1 τ β)} {k : σ1 → X (Fl σ τ β)} : X.seq (X.bind x f) k = X.bind x fun a => X.seq (f a) k := by cases x <;> rfl
theorem X.fn_bind {x : X α} {f : α → X (Fl σ Empty β)} {o : Option β} : X.fn o (X.bind x f) = X.bind x fun a => X.fn o (f a) := by cases x <;> rfl
/-- a comprehension whose parts are known -/
theorem X.lc_ok {p : α → X Bool} {g : α → X β} {p' : α → Bool} {g' : α → β} : ∀ {xs : List α}, (∀ x ∈ xs, p x = .ok (p' x)) → (∀ x ∈ xs, p' x = true → g x = .ok (g' x)) → X.lc p g xs = .ok ((xs.filter p').map g')
  | [], _, _ => rfl
  | x :: xs, hp, hg => by
    have ih := X.lc_ok (xs := xs) (fun y hy => hp y (List.mem_cons_of_mem _ hy)) (fun y hy => hg y (List.mem_cons_of_mem _ hy))
    unfold X.lc
    rw [hp x List.mem_cons_self, ih]
    cases h : p' x with
    | false => simp [h]
    | true => rw [hg x List.mem_cons_self h]; simp [h]
theorem X.lc_map {g : α → X β} {g' : α → β} {xs : List α} (h : ∀ x ∈ xs, g x = .ok (g' x)) : X.lc (fun _ => .ok true) g xs = .ok (xs.map g') := by
  rw [X.lc_ok (p' := fun _ => true) (fun _ _ => rfl) (fun x hx _ => h x hx), List.filter_eq_self.mpr (fun _ _ => rfl)]
/-- a for whose body always goes on -/
theorem X.for_fold {body : σ → α → X (Fl σ σ β)} {f : σ → α → σ} (I : σ → Prop) : ∀ {xs : List α} {s : σ}, I s → (∀ s x, x ∈ xs → I s → body s x = .ok (.next (f s x)) ∧ I (f s x)) → (X.for body xs s : X (Fl σ τ β)) = .ok (.next (xs.foldl f s)) ∧ I (xs.foldl f s)
  | [], s, h0, _ => ⟨rfl, h0⟩
  | x :: xs, s, h0, h => by
    obtain ⟨h1, h2⟩ := h s x List.mem_cons_self h0
    have ih := X.for_fold I (xs := xs) h2 (fun s y hy hs => h s y (List.mem_cons_of_mem _ hy) hs)
    unfold X.for
    rw [h1]
    exact ih
theorem X.for_next {body : σ → α → X (Fl σ σ β)} {f : σ → α → σ} {xs : List α} {s : σ} (h : ∀ s x, x ∈ xs → body s x = .ok (.next (f s x))) : (X.for body xs s : X (Fl σ τ β)) = .ok (.next (xs.foldl f s)) :=
  (X.for_fold (fun _ => True) trivial fun s x hx _ => ⟨h s x hx, trivial⟩).1
/-- a search: the body returns at the first x that is hit, else goes on -/
theorem X.for_find {body : Unit → α → X (Fl Unit Unit β)} {p : α → Bool} {r : α → β} : ∀ {xs : List α}, (∀ x ∈ xs, body () x = if p x = true then .ok (.ret (r x)) else .ok (.next ())) → (X.for body xs () : X (Fl Unit τ β)) = match xs.find? p with | some x => .ok (.ret (r x)) | none => .ok (.next ())
  | [], _ => rfl
  | x :: xs, h => by
    have ih := X.for_find (xs := xs) fun y hy => h y (List.mem_cons_of_mem _ hy)
    unfold X.for
    rw [h x List.mem_cons_self]
    cases hp : p x with
    | true => simp [hp]
    | false => simp only [Bool.false_eq_true, if_false, X.bind_ok, ih, List.find?_cons, hp]
theorem M.seq_x {x : X (Fl σ1 τ β)} {s : σ1} {k : σ1 → M (Fl σ τ β)} {Q : Fl σ τ β → Prop} {E : Str → D → Prop} (h : x = .ok (.next s)) (hk : k s Q E) : M.seq x.m k Q E := by rw [h]; exact hk
theorem rg1_ok {n : Int} (h0 : 0 ≤ n) (h1 : n ≤ 100000) : rg1 n = some (rngT 0 n.toNat) := by unfold rg1; rw [if_pos (decide_eq_true (dd62 h0 h1))]
theorem rg2_ok {a b : Int} (a0 : 0 ≤ a) (a1 : a ≤ 100000) (b0 : 0 ≤ b) (b1 : b ≤ 100000) : rg2 a b = some (rngT a (b - a).toNat) := by
  unfold rg2; rw [if_pos (decide_eq_true ⟨(dd62 a0 a1).1, (dd62 a0 a1).2, (dd62 b0 b1).1, (dd62 b0 b1).2⟩)]
theorem mulO_r {a b : Int} (h1 : -(2 ^ 64) < b) (h2 : b < 2 ^ 64) : mulO a b = some (a * b) := by
  unfold mulO mulOk
  rw [if_pos (by rw [Bool.or_eq_true]; exact .inr (decide_eq_true ⟨h1, h2⟩))]
theorem mulO_l {a b : Int} (h1 : -(2 ^ 64) < a) (h2 : a < 2 ^ 64) : mulO a b = some (a * b) := by
  unfold mulO mulOk
  rw [if_pos (by rw [Bool.or_eq_true]; exact .inl (decide_eq_true ⟨h1, h2⟩))]
theorem modO_pos {a b : Int} (h : 0 < b) : modO a b = some (a % b) := by unfold modO; rw [dMod_int h]; rfl
theorem divO_pos {a b : Int} (h : 0 < b) (h2 : b < 2 ^ 64) : divO a b = some (a / b) := by unfold divO; rw [dDiv_pos h h2]; rfl
theorem limO_ok {xs : List β} (h : xs.length ≤ 100000) : limO xs = some xs := by unfold limO lim; rw [if_pos (decide_eq_true h)]
theorem catO_ok {xs ys : List β} (h : xs.length + ys.length ≤ 100000) : catO xs ys = some (xs ++ ys) := by unfold catO lim; rw [if_pos (decide_eq_true h)]
theorem atI_ok {xs : List α} {i : Nat} {x : α} (h : xs[i]? = some x) : L2.atI xs (i : Int) = some x := by rw [atI_nat (List.getElem?_eq_some_iff.mp h).1, h]
end FW


set_option Elab.async false
set_option linter.all false
set_option maxRecDepth 100000
/-! # Typed code: more for plain proofs -/
namespace FW
open PySem PySem.Spec
variable {α β γ δ ε σ σ1 τ : Type}
/-! ### equality of typed data -/
structure GE [DecidableEq α] (e : α → D) (k : Nat) : Prop where
  same : ∀ x y, PyData.eqv (e x) (e y) = decide (x = y)
  dep : ∀ x, (e x).depth ≤ k
theorem GE.int : GE eI 1 := ⟨fun x y => by simp only [eI, PyData.eqv]; by_cases h : x = y <;> simp [h], fun x => by simp [eI, PyData.depth]⟩
theorem GE.bool : GE eB 1 := ⟨fun x y => by simp only [eB, PyData.eqv]; by_cases h : x = y <;> simp [h], fun x => by simp [eB, PyData.depth]⟩
theorem GE.str : GE eS 1 := ⟨fun x y => by simp only [eS, PyData.eqv]; by_cases h : x = y <;> simp [h], fun x => by simp [eS, PyData.depth]⟩
theorem GE.all [DecidableEq α] {e : α → D} {k : Nat} (h : GE e k) : ∀ xs ys : List α, PyData.eqvAll (xs.map e) (ys.map e) = decide (xs = ys)
  | [], [] => by simp [PyData.eqvAll]
  | [], _ :: _ => by simp [PyData.eqvAll]
  | _ :: _, [] => by simp [PyData.eqvAll]
  | a :: r, b :: t => by
    simp only [List.map_cons, PyData.eqvAll, h.same a b, h.all r t]
    by_cases h : a = b <;> by_cases h' : r = t <;> simp [h, h']
theorem GE.dall [DecidableEq α] {e : α → D} {k : Nat} (h : GE e k) : ∀ xs : List α, PyData.depthAll (xs.map e) ≤ k
  | [] => by simp [PyData.depthAll]
  | a :: r => by
    simp only [List.map_cons, PyData.depthAll]
    exact Nat.max_le.mpr ⟨h.dep a, h.dall r⟩
theorem GE.tup [DecidableEq α] {e : α → D} {k : Nat} (h : GE e k) : GE (eT e) (k + 1) := ⟨fun x y => by simp only [eT, PyData.eqv]; exact h.all x y, fun x => by
  simp only [eT, PyData.depth]; have := h.dall x; omega⟩
theorem GE.lst [DecidableEq α] {e : α → D} {k : Nat} (h : GE e k) : GE (eL e) (k + 1) := ⟨fun x y => by simp only [eL, PyData.eqv]; exact h.all x y, fun x => by
  simp only [eL, PyData.depth]; have := h.dall x; omega⟩
theorem GE.pair [DecidableEq α] [DecidableEq β] {e : α → D} {e1 : β → D} {k k1 : Nat} (h : GE e k) (h1 : GE e1 k1) : GE (eP2 e e1) (k + k1 + 1) := ⟨fun x y => by
  obtain ⟨a, b⟩ := x
  obtain ⟨c, d⟩ := y
  simp only [eP2, PyData.eqv, PyData.eqvAll, h.same, h1.same, Bool.and_true]
  by_cases p : a = c <;> by_cases q : b = d <;> simp [p, q], fun x => by
  simp only [eP2, PyData.depth, PyData.depthAll]
  have := h.dep x.1
  have := h1.dep x.2
  omega⟩
theorem GE.eq [DecidableEq α] {e : α → D} {k : Nat} (h : GE e k) (hk : k ≤ 64) (x y : α) : eqD (e x) (e y) = some (decide (x = y)) := by
  have hs : shal (e x) (e y) = true := by
    unfold shal
    have := h.dep x
    exact decide_eq_true (by omega)
  unfold eqD dEq
  rw [if_pos hs, h.same]
  rfl
theorem GE.ne [DecidableEq α] {e : α → D} {k : Nat} (h : GE e k) (hk : k ≤ 64) (x y : α) : neD (e x) (e y) = some (!decide (x = y)) := by
  have hs : shal (e x) (e y) = true := by
    unfold shal
    have := h.dep x
    exact decide_eq_true (by omega)
  unfold neD dNe
  rw [if_pos hs, h.same]
  rfl
/-- the same as X.bind_ok and X.of_some, but not by unfolding (so that the kernel opens no call) -/
theorem X.bok {a : α} {k : α → X β} : X.bind (.ok a) k = k a := Eq.trans rfl rfl
theorem X.osm {a : α} : X.of (some a) = .ok a := Eq.trans rfl rfl
theorem X.snx {s : σ1} {k : σ1 → X (Fl σ τ β)} : X.seq (.ok (.next s)) k = k s := Eq.trans rfl rfl
theorem X.srt {b : β} {k : σ1 → X (Fl σ τ β)} : X.seq (.ok (.ret b) : X (Fl σ1 τ β)) k = .ok (.ret b) := Eq.trans rfl rfl
/-! ### reading -/
def ix0 (xs : List Int) (i : Int) : Int := xs.getD i.toNat 0
theorem atI_ix0 {xs : List Int} {i : Int} (h0 : 0 ≤ i) (h1 : i < xs.length) : L2.atI xs i = some (ix0 xs i) := by
  obtain ⟨n, rfl⟩ : ∃ n : Nat, i = n := ⟨i.toNat, by omega⟩
  have h : n < xs.length := by omega
  rw [atI_nat h, List.getElem?_eq_getElem h]
  simp [ix0, List.getD, h]
/-! ### the greatest -/
theorem maxI_le {g : Int} : ∀ {r : List Int} {a : Int}, maxI a r ≤ g ↔ a ≤ g ∧ ∀ x ∈ r, x ≤ g
  | [], a => by simp [maxI]
  | b :: r, a => by
    unfold maxI
    rw [maxI_le (r := r)]
    simp only [List.mem_cons, forall_eq_or_imp]
    split <;> constructor <;> rintro ⟨h1, h2⟩
    · exact ⟨by omega, h1, h2⟩
    · exact ⟨h2.1, h2.2⟩
    · exact ⟨h1, by omega, h2⟩
    · exact ⟨h1, h2.2⟩
theorem maxI_snoc : ∀ {r : List Int} {a : Int}, 0 ≤ a → maxI a (r ++ [0]) = maxI a r
  | [], a, h => by simp only [List.nil_append, maxI]; rw [if_neg (by omega)]
  | b :: r, a, h => by
    simp only [List.cons_append, maxI]
    exact maxI_snoc (by split <;> omega)
theorem maxL_snoc {xs : List Int} (h : ∀ x ∈ xs, 0 ≤ x) : maxL (xs ++ [0]) = some ((maxL xs).getD 0) := by
  cases xs with
  | nil => rfl
  | cons a r => simp only [List.cons_append, maxL]; rw [maxI_snoc (h a List.mem_cons_self)]; rfl
theorem maxL_getD_le {xs : List Int} {g : Int} (hg : 0 ≤ g) : (maxL xs).getD 0 ≤ g ↔ ∀ x ∈ xs, x ≤ g := by
  cases xs with
  | nil => simp [maxL, hg]
  | cons a r => simp only [maxL, Option.getD_some, maxI_le, List.mem_cons, forall_eq_or_imp]
theorem absT_nn (i : Int) : 0 ≤ absT i := by unfold absT; split <;> omega
/-! ### loops -/
/-- a search that hands back always the same -/
theorem X.for_any {body : Unit → α → X (Fl Unit Unit β)} {p : α → Bool} {r : β} : ∀ {xs : List α}, (∀ x ∈ xs, body () x = if p x = true then .ok (.ret r) else .ok (.next ())) → (X.for body xs () : X (Fl Unit τ β)) = if xs.any p = true then .ok (.ret r) else .ok (.next ())
  | [], _ => rfl
  | x :: xs, h => by
    have ih := X.for_any (xs := xs) fun y hy => h y (List.mem_cons_of_mem _ hy)
    unfold X.for
    rw [h x List.mem_cons_self, List.any_cons]
    cases hp : p x with
    | true => simp
    | false => simp only [Bool.false_eq_true, if_false, X.bind_ok, ih, Bool.false_or]
theorem foldl_and {q : α → Bool} : ∀ {xs : List α} {b : Bool}, xs.foldl (fun s x => if q x = true then s else false) b = (b && xs.all q)
  | [], b => by simp
  | x :: xs, b => by
    simp only [List.foldl_cons, List.all_cons]
    rw [foldl_and]
    cases q x <;> simp
/-- a comprehension of draws -/
theorem M.lc_draws {p : α → M Bool} {g : α → M β} {P : β → Prop} (hp : ∀ x (Q : Bool → Prop) E, Q true → p x Q E) (hg : ∀ x (Q : β → Prop) E, (∀ y, P y → Q y) → g x Q E) : ∀ {xs : List α} {Q : List β → Prop} {E}, (∀ ys : List β, ys.length = xs.length → (∀ y ∈ ys, P y) → Q ys) → M.lc p g xs Q E
  | [], Q, E, h => h [] rfl (by simp)
  | x :: xs, Q, E, h => by
    refine hp x _ _ ?_
    show M.bind (M.sure (g x)) _ Q E
    refine hg x _ _ fun y hy => ?_
    refine M.lc_draws hp hg (xs := xs) fun ys hl hys => ?_
    refine h (y :: ys) (by simp [hl]) fun z hz => ?_
    rcases List.mem_cons.mp hz with rfl | hz
    · exact hy
    · exact hys z hz
/-- a statement that goes on -/
def nx (x : X (Fl σ τ β)) (k : σ → Bool) : Bool := match x with
  | .ok (.next s) => k s
  | _ => false
theorem nx_ok {x : X (Fl σ τ β)} {k : σ → Bool} (h : nx x k = true) : ∃ s, x = .ok (.next s) ∧ k s = true := by
  unfold nx at h
  split at h
  · exact ⟨_, rfl, h⟩
  · cases h
theorem X.ok_of {o : Option α} {a : α} (h : o = some a) : X.of o = .ok a := by rw [h]; rfl
theorem cutT_take {xs : List α} {k : Nat} : cutT xs none (some (k : Int)) = xs.take k := by
  unfold cutT
  rw [HT.sIx_none, HT.sIx_nat]
  simp
theorem rngT_mem {lo : Int} {n : Nat} {x : Int} : x ∈ rngT lo n ↔ lo ≤ x ∧ x < lo + n := by
  unfold rngT
  simp only [List.mem_map, List.mem_range]
  constructor
  · rintro ⟨k, h, rfl⟩; omega
  · rintro ⟨h1, h2⟩; exact ⟨(x - lo).toNat, by omega, by omega⟩
theorem rngT_len {lo : Int} {n : Nat} : (rngT lo n).length = n := by simp [rngT]
end FW


set_option Elab.async false
set_option linter.all false
set_option maxRecDepth 100000
set_option maxHeartbeats 8000000

namespace K35
open PySem PySem.Spec FW
def c__law_draw : Sc := (sSeq (sIf (cTr (cOp dEq (cOp dIx (cV 0) (cK (.int 1))) (cK (.int 0)))) (sSeq (sSet 4 (cK (.int 0)))
  (sSeq (sIf (cTr (cOp dGt (cB bLen (aCons (cV 1) aNil)) (cK (.int 0)))) (sSet 4 (cOp dIx (cV 1) (cOp dMod (cOp dIx (cV 0) (cK (.int 0))) (cB bLen (aCons (cV 1) aNil))))) sSkip)
  (sSeq (sIf (cTr (cOp dLt (cV 4) (cK (.int 0)))) (sSet 4 (cOp dSub (cK (.int 1)) (cOp dMulB (cK (.int 2)) (cV 4)))) sSkip)
  (sSeq (sSet 5 (cOp dMod (cB bInt (aCons (cOp dMulB (cOp dAdd (cOp dAdd (cV 4) (cOp dMulB (cOp dIx (cV 0) (cK (.int 0))) (cK (.int 7919)))) (cK (.int 1))) (cK (.int 48271))) aNil)) (cK (.int 2147483647))))
  (sSeq (sPut (cV 0) (cK (.int 1)) (cOp dMod (cB bInt (aCons (cOp dAdd (cOp dMulB (cV 5) (cK (.int 69621))) (cOp dMulB (cOp dIx (cV 0) (cK (.int 0))) (cK (.int 104729)))) aNil)) (cK (.int 4294967291))))
  (sSeq (sIf (tAndC (cTr (cOp dGeA (cV 4) (cOp dPow (cK (.int 10)) (cK (.int 18))))) (cTr (cOp dLt (cOp dIx (cV 0) (cK (.int 0))) (cB bLen (aCons (cV 1) aNil))))) (sPut (cV 0) (cK (.int 1)) (cV 4)) sSkip)
  (sPut (cV 0) (cK (.int 0)) (cOp dAdd (cOp dIx (cV 0) (cK (.int 0))) (cK (.int 1)))))))))) sSkip)
  (sSeq (sSet 3 (cOp dMod (cB bInt (aCons (cOp dIx (cV 0) (cK (.int 1))) aNil)) (cV 2)))
  (sSeq (sPut (cV 0) (cK (.int 1)) (cOp dDivN (cOp dIx (cV 0) (cK (.int 1))) (cV 2)))
  (sRet (cV 3)))))
def F__law_draw : Fn := runFn fin 6 c__law_draw
def c__law_rows : Sc := (sSeq (sSet 2 (cLst (aCons (cTup aNil) aNil)))
  (sSeq (sFor (iR1 (aCons (cV 0) aNil)) (bN 3) (sSeq (sSet 4 (cLst aNil))
  (sSeq (sFor (iV (cV 2)) (bN 5) (sSet 4 (cOp dAdd (cV 4) (cLc (iV (cV 1)) (bN 6) [6] cYes (cOp dAdd (cV 5) (cTup (aCons (cV 6) aNil)))))))
  (sSet 2 (cV 4)))))
  (sRet (cV 2))))
def F__law_rows : Fn := runFn fin 7 c__law_rows
def c_set_sum : Sc := (sRet (cB bSum (aCons (cLc (iV (cV 0)) (bN 2) [2] cYes (cOp dIx (cV 1) (cV 2))) aNil)))
def F_set_sum : Fn := runFn fin 3 c_set_sum
def c_is_count : Sc := (sRet (cAnd (cIsi "int" (cV 0)) (cAnd (cNot (cIsi "bool" (cV 0))) (cOp dGeA (cV 0) (cK (.int 0))))))
def F_is_count : Fn := runFn fin 1 c_is_count
def c_check_length : Sc := (sIf (tNotC (cTru (cCall 1 F_is_count (aCons (cV 0) aNil)))) (sRaise "InvalidRow" (cK .none)) sSkip)
def F_check_length : Fn := runFn fin 1 c_check_length
def c_multiple_sets : Sc := (sSeq (sExpr (cCall 1 F_check_length (aCons (cV 0) aNil)))
  (sSeq (sSet 1 (cLstC aNil))
  (sSeq (sFor (iR2 (aCons (cK (.int 1)) (aCons (cOp dAdd (cV 0) (cK (.int 1))) aNil))) (bN 2) (sSeq (sSet 3 (cTup aNil))
  (sFor (iR3 (aCons (cV 2) (aCons (cOp dAdd (cV 0) (cK (.int 1))) (aCons (cV 2) aNil)))) (bN 4) (sSeq (sSet 3 (cOp dAdd (cV 3) (cTup (aCons (cOp dSub (cV 4) (cK (.int 1))) aNil))))
  (sApp (cV 1) (cV 3))))))
  (sRet (cB bTup (aCons (cV 1) aNil))))))
def F_multiple_sets : Fn := runFn fin 5 c_multiple_sets
def c_multiple_gap : Sc := (sRet (cOp dMaxD (cLc (iV (cCall 1 F_multiple_sets (aCons (cB bLen (aCons (cV 0) aNil)) aNil))) (bN 1) [1] cYes (cB bAbs (aCons (cCall 2 F_set_sum (aCons (cV 1) (aCons (cV 0) aNil))) aNil))) (cK (.int 0))))
def F_multiple_gap : Fn := runFn fin 2 c_multiple_gap
def c__law_gap : Sc := (sRet (cB bMaxL (aCons (cOp dAdd (cLc (iV (cV 0)) (bN 2) [2] cYes (cB bAbs (aCons (cB bSum (aCons (cLc (iV (cV 2)) (bN 3) [3] cYes (cOp dIx (cV 1) (cV 3))) aNil)) aNil))) (cLst (aCons (cK (.int 0)) aNil))) aNil)))
def F__law_gap : Fn := runFn fin 4 c__law_gap
def c__law_sign : Sc := (sSeq (sWh (cTr (cOp dEq (cOp dMod (cB bInt (aCons (cV 0) aNil)) (cK (.int 3))) (cK (.int 0)))) (sSet 0 (cOp dDivN (cV 0) (cK (.int 3)))))
  (sRet (cOp dIx (cLst (aCons (cOp dSub (cK (.int 0)) (cK (.int 1))) (aCons (cK (.int 1)) aNil))) (cB bInt (aCons (cOp dEq (cOp dMod (cB bInt (aCons (cV 0) aNil)) (cK (.int 3))) (cK (.int 1))) aNil)))))
def F__law_sign : Fn := runFn fin 1 c__law_sign
def c_is_product_signs : Sc := (sSeq (sSet 1 (cB bLen (aCons (cV 0) aNil)))
  (sSeq (sFor (iR2 (aCons (cK (.int 1)) (aCons (cOp dAdd (cV 1) (cK (.int 1))) aNil))) (bN 2) (sFor (iR2 (aCons (cK (.int 1)) (aCons (cOp dAdd (cOp dDivN (cV 1) (cV 2)) (cK (.int 1))) aNil))) (bN 3) (sIf (cTr (cOp dNe (cOp dIx (cV 0) (cOp dSub (cOp dMulB (cV 2) (cV 3)) (cK (.int 1)))) (cOp dMulB (cOp dIx (cV 0) (cOp dSub (cV 2) (cK (.int 1)))) (cOp dIx (cV 0) (cOp dSub (cV 3) (cK (.int 1))))))) (sRet (cK (.bool false))) sSkip)))
  (sRet (cK (.bool true)))))
def F_is_product_signs : Fn := runFn fin 4 c_is_product_signs
def c_is_part : Sc := (sSeq (sIf (tOrC (tNotC (cTru (cIsi "tuple" (cV 0)))) (tOrC (cTr (cOp dEq (cV 0) (cTup aNil))) (tNotC (cTru (cB bAll (aCons (cLc (iV (cV 0)) (bN 3) [3] cYes (cAnd (cCall 1 F_is_count (aCons (cV 3) aNil)) (cOp dLt (cV 3) (cV 1)))) aNil)))))) (sRet (cK (.bool false))) sSkip)
  (sRet (cB bAll (aCons (cLc (iR1 (aCons (cOp dSub (cB bLen (aCons (cV 0) aNil)) (cK (.int 1))) aNil)) (bN 2) [2] cYes (cOp dLt (cOp dIx (cV 0) (cV 2)) (cOp dIx (cV 0) (cOp dAdd (cV 2) (cK (.int 1)))))) aNil))))
def F_is_part : Fn := runFn fin 4 c_is_part
def c_check_family : Sc := (sSeq (sIf (tOrC (tNotC (cTru (cCall 1 F_is_count (aCons (cV 0) aNil)))) (tNotC (cTru (cIsi "tuple" (cV 1))))) (sRaise "InvalidFamily" (cK .none)) sSkip)
  (sFor (iR1 (aCons (cB bLen (aCons (cV 1) aNil)) aNil)) (bN 2) (sIf (tNotC (cTru (cCall 2 F_is_part (aCons (cOp dIx (cV 1) (cV 2)) (aCons (cV 0) aNil))))) (sRaise "InvalidFamily" (cV 2)) sSkip)))
def F_check_family : Fn := runFn fin 3 c_check_family
def c_over_set : Sc := (sSeq (sFor (iR1 (aCons (cB bLen (aCons (cV 0) aNil)) aNil)) (bN 3) (sSeq (sSet 4 (cLc (iV (cOp dIx (cV 0) (cV 3))) (bN 5) [5] (cTr (cOp dLt (cV 5) (cB bLen (aCons (cV 2) aNil)))) (cOp dIx (cV 2) (cV 5))))
  (sIf (cTr (cOp dGt (cOp dSub (cB bAbs (aCons (cB bSum (aCons (cV 4) aNil)) aNil)) (cOp dSub (cB bLen (aCons (cOp dIx (cV 0) (cV 3)) aNil)) (cB bLen (aCons (cV 4) aNil)))) (cV 1))) (sRet (cV 3)) sSkip)))
  (sRet (cK .none)))
def F_over_set : Fn := runFn fin 6 c_over_set
def c_within_from (Φ : Fn) : Sc := (sSeq (sAugP dAddI (cV 4) (cK (.int 0)) (cK (.int 1)))
  (sSeq (sIf (cTr (cOp dGt (cOp dIx (cV 4) (cK (.int 0))) (cV 5))) (sRaise "TooLarge" (cV 5)) sSkip)
  (sSeq (sSet 6 (cCall 3 F_over_set (aCons (cV 1) (aCons (cV 2) (aCons (cV 3) aNil)))))
  (sSeq (sIf (cTr (cOp dIsNot (cV 6) (cK .none))) (sRet (cTup (aCons (cK (.str "no")) (aCons (cTup (aCons (cK (.str "over")) (aCons (cV 6) aNil))) aNil)))) sSkip)
  (sSeq (sIf (cTr (cOp dEq (cB bLen (aCons (cV 3) aNil)) (cV 0))) (sRet (cTup (aCons (cK (.str "yes")) (aCons (cV 3) aNil)))) sSkip)
  (sSeq (sSet 7 (cLstC aNil))
  (sSeq (sFor (iV (cTup (aCons (cK (.int 1)) (aCons (cUn dNeg (cK (.int 1))) aNil)))) (bN 8) (sSeq (sSet 9 (cCall 6 Φ (aCons (cV 0) (aCons (cV 1) (aCons (cV 2) (aCons (cOp dAdd (cV 3) (cTup (aCons (cV 8) aNil))) (aCons (cV 4) (aCons (cV 5) aNil))))))))
  (sSeq (sIf (cTr (cOp dEq (cOp dIx (cV 9) (cK (.int 0))) (cK (.str "yes")))) (sRet (cV 9)) sSkip)
  (sApp (cV 7) (cOp dIx (cV 9) (cK (.int 1)))))))
  (sRet (cTup (aCons (cK (.str "no")) (aCons (cTup (aCons (cK (.str "split")) (aCons (cB bLen (aCons (cV 3) aNil)) (aCons (cOp dIx (cV 7) (cK (.int 0))) (aCons (cOp dIx (cV 7) (cK (.int 1))) aNil))))) aNil)))))))))))
def F_within_from : Nat → Fn
  | 0 => fun _ _ => .stuck
  | d + 1 => runFn fin 10 (c_within_from (F_within_from d))
def c_within_gap : Sc := (sSeq (sExpr (cCall 2 F_check_family (aCons (cV 0) (aCons (cV 1) aNil))))
  (sRet (cCall 6 (F_within_from 30) (aCons (cV 0) (aCons (cV 1) (aCons (cV 2) (aCons (cTup aNil) (aCons (cLstC (aCons (cK (.int 0)) aNil)) (aCons (cV 3) aNil)))))))))
def F_within_gap : Fn := runFn fin 4 c_within_gap
def c_least_gap : Sc := (sSeq (sSet 3 (cK (.int 0)))
  (sSeq (sSet 4 (cCall 4 F_within_gap (aCons (cV 0) (aCons (cV 1) (aCons (cV 3) (aCons (cV 2) aNil))))))
  (sSeq (sWh (cTr (cOp dEq (cOp dIx (cV 4) (cK (.int 0))) (cK (.str "no")))) (sSeq (sSet 3 (cOp dAddI (cV 3) (cK (.int 1))))
  (sSet 4 (cCall 4 F_within_gap (aCons (cV 0) (aCons (cV 1) (aCons (cV 3) (aCons (cV 2) aNil))))))))
  (sRet (cTup (aCons (cV 3) (aCons (cOp dIx (cV 4) (cK (.int 1))) aNil)))))))
def F_least_gap : Fn := runFn fin 5 c_least_gap
def c_step_sets : Sc := (sSeq (sExpr (cCall 1 F_check_length (aCons (cV 0) aNil)))
  (sSeq (sIf (tOrC (tNotC (cTru (cCall 1 F_is_count (aCons (cV 1) aNil)))) (cTr (cOp dLt (cV 1) (cK (.int 1))))) (sRaise "InvalidRow" (cK .none)) sSkip)
  (sSeq (sSet 2 (cLstC aNil))
  (sSeq (sFor (iR1 (aCons (cV 0) aNil)) (bN 3) (sSeq (sSet 4 (cTup (aCons (cV 3) aNil)))
  (sWh (cTr (cOp dLt (cOp dAdd (cOp dIx (cV 4) (cUn dNeg (cK (.int 1)))) (cV 1)) (cV 0))) (sSeq (sSet 4 (cOp dAdd (cV 4) (cTup (aCons (cOp dAdd (cOp dIx (cV 4) (cUn dNeg (cK (.int 1)))) (cV 1)) aNil))))
  (sApp (cV 2) (cV 4))))))
  (sRet (cB bTup (aCons (cV 2) aNil)))))))
def F_step_sets : Fn := runFn fin 5 c_step_sets
def c_all_step_sets : Sc := (sSeq (sExpr (cCall 1 F_check_length (aCons (cV 0) aNil)))
  (sSeq (sSet 1 (cTup aNil))
  (sSeq (sFor (iR2 (aCons (cK (.int 1)) (aCons (cB bMax2 (aCons (cV 0) (aCons (cK (.int 1)) aNil))) aNil))) (bN 2) (sSet 1 (cOp dAdd (cV 1) (cCall 2 F_step_sets (aCons (cV 0) (aCons (cV 2) aNil))))))
  (sRet (cV 1)))))
def F_all_step_sets : Fn := runFn fin 3 c_all_step_sets
def c_least_step_gap : Sc := (sRet (cCall 3 F_least_gap (aCons (cV 0) (aCons (cCall 1 F_all_step_sets (aCons (cV 0) aNil)) (aCons (cV 1) aNil)))))
def F_least_step_gap : Fn := runFn fin 2 c_least_step_gap
def c_span_sets : Sc := (sSeq (sExpr (cCall 1 F_check_length (aCons (cV 0) aNil)))
  (sRet (cB bTup (aCons (cLc2 (iR1 (aCons (cV 0) aNil)) (bN 1) [1, 2] cYes (iR2 (aCons (cOp dAdd (cV 1) (cK (.int 1))) (aCons (cOp dAdd (cV 0) (cK (.int 1))) aNil))) (bN 2) [2] cYes (cRg true (aCons (cV 1) (aCons (cV 2) aNil)))) aNil))))
def F_span_sets : Fn := runFn fin 3 c_span_sets
def c_last_fits : Sc := (sSeq (sSet 2 (cB bLen (aCons (cV 0) aNil)))
  (sSeq (sFor (iR2 (aCons (cK (.int 1)) (aCons (cOp dAdd (cV 2) (cK (.int 1))) aNil))) (bN 3) (sIf (cTr (cOp dEq (cOp dMod (cB bInt (aCons (cV 2) aNil)) (cV 3)) (cK (.int 0)))) (sIf (cTr (cOp dGt (cB bAbs (aCons (cB bSum (aCons (cLc (iR3 (aCons (cV 3) (aCons (cOp dAdd (cV 2) (cK (.int 1))) (aCons (cV 3) aNil)))) (bN 4) [4] cYes (cOp dIx (cV 0) (cOp dSub (cV 4) (cK (.int 1))))) aNil)) aNil)) (cV 1))) (sRet (cK (.bool false))) sSkip) sSkip))
  (sRet (cK (.bool true)))))
def F_last_fits : Fn := runFn fin 5 c_last_fits
def c_longest_multiples : Sc := (sSeq (sExpr (cCall 1 F_check_length (aCons (cV 0) aNil)))
  (sSeq (sExpr (cCall 1 F_check_length (aCons (cV 1) aNil)))
  (sSeq (sPar 2 3 (cTup aNil) (cLstC (aCons (cTup aNil) aNil)))
  (sSeq (sWh (tAndC (cTr (cOp dGt (cB bLen (aCons (cV 3) aNil)) (cK (.int 0)))) (cTr (cOp dLt (cB bLen (aCons (cV 2) aNil)) (cV 1)))) (sSeq (sSet 4 (cPop (cV 3)))
  (sSeq (sSet 2 (cIf (cTr (cOp dGt (cB bLen (aCons (cV 4) aNil)) (cB bLen (aCons (cV 2) aNil)))) (cV 4) (cV 2)))
  (sIf (cTr (cOp dLt (cB bLen (aCons (cV 4) aNil)) (cV 1))) (sExt (cV 3) (cLc (iV (cTup (aCons (cUn dNeg (cK (.int 1))) (aCons (cK (.int 1)) aNil)))) (bN 5) [5] (cTru (cCall 2 F_last_fits (aCons (cOp dAdd (cV 4) (cTup (aCons (cV 5) aNil))) (aCons (cV 0) aNil)))) (cOp dAdd (cV 4) (cTup (aCons (cV 5) aNil))))) sSkip))))
  (sRet (cTup (aCons (cB bLen (aCons (cV 2) aNil)) (aCons (cV 2) aNil))))))))
def F_longest_multiples : Fn := runFn fin 6 c_longest_multiples
def c_threes_sign : Sc := (sSeq (sWh (cTr (cOp dEq (cOp dMod (cB bInt (aCons (cV 0) aNil)) (cK (.int 3))) (cK (.int 0)))) (sSet 0 (cOp dDivN (cV 0) (cK (.int 3)))))
  (sRet (cIf (cTr (cOp dEq (cOp dMod (cB bInt (aCons (cV 0) aNil)) (cK (.int 3))) (cK (.int 1)))) (cK (.int 1)) (cUn dNeg (cK (.int 1))))))
def F_threes_sign : Fn := runFn fin 1 c_threes_sign
def c_threes_signs : Sc := (sSeq (sExpr (cCall 1 F_check_length (aCons (cV 0) aNil)))
  (sRet (cB bTup (aCons (cLc (iR2 (aCons (cK (.int 1)) (aCons (cOp dAdd (cV 0) (cK (.int 1))) aNil))) (bN 1) [1] cYes (cCall 1 F_threes_sign (aCons (cV 1) aNil))) aNil))))
def F_threes_signs : Fn := runFn fin 2 c_threes_signs
def c_threes_sum : Sc := (sSeq (sExpr (cCall 1 F_check_length (aCons (cV 0) aNil)))
  (sSeq (sSet 1 (cK (.int 0)))
  (sSeq (sWh (cTr (cOp dGt (cV 0) (cK (.int 0)))) (sSeq (sSet 1 (cOp dAddI (cV 1) (cB bInt (aCons (cOp dEq (cOp dMod (cB bInt (aCons (cV 0) aNil)) (cK (.int 3))) (cK (.int 1))) aNil))))
  (sSet 0 (cOp dDivN (cV 0) (cK (.int 3))))))
  (sRet (cV 1)))))
def F_threes_sum : Fn := runFn fin 2 c_threes_sum
def c__law_refused : Sc := (sTry (sSeq (sIf (cTr (cOp dEq (cV 0) (cK (.int 0)))) (sExpr (cCall 1 F_span_sets (aCons (cV 1) aNil))) (sIf (cTr (cOp dEq (cV 0) (cK (.int 1)))) (sExpr (cCall 2 F_step_sets (aCons (cV 1) (aCons (cK (.int 1)) aNil)))) (sIf (cTr (cOp dEq (cV 0) (cK (.int 2)))) (sExpr (cCall 1 F_all_step_sets (aCons (cV 1) aNil))) (sIf (cTr (cOp dEq (cV 0) (cK (.int 3)))) (sExpr (cCall 1 F_multiple_sets (aCons (cV 1) aNil))) (sIf (cTr (cOp dEq (cV 0) (cK (.int 4)))) (sExpr (cCall 2 F_longest_multiples (aCons (cV 1) (aCons (cK (.int 3)) aNil)))) (sIf (cTr (cOp dEq (cV 0) (cK (.int 5)))) (sExpr (cCall 2 F_longest_multiples (aCons (cK (.int 1)) (aCons (cV 1) aNil)))) (sIf (cTr (cOp dEq (cV 0) (cK (.int 6)))) (sExpr (cCall 1 F_threes_signs (aCons (cV 1) aNil))) (sIf (cTr (cOp dEq (cV 0) (cK (.int 7)))) (sExpr (cCall 1 F_threes_sum (aCons (cV 1) aNil))) (sExpr (cCall 2 F_step_sets (aCons (cK (.int 5)) (aCons (cV 1) aNil))))))))))))
  (sRet (cK (.str "none")))) (("InvalidRow", some 2, fun cn pl => (sRet (cXf 2 pl))) :: []))
def F__law_refused : Fn := runFn fin 3 c__law_refused
def c__law_steps : Sc := (sSeq (sSet 2 (cLstC aNil))
  (sSeq (sFor (iR1 (aCons (cV 0) aNil)) (bN 3) (sSeq (sSet 4 (cK (.int 2)))
  (sWh (cTr (cOp dLt (cOp dAdd (cV 3) (cOp dMulB (cV 1) (cOp dSub (cV 4) (cK (.int 1))))) (cV 0))) (sSeq (sApp (cV 2) (cB bTup (aCons (cLc (iR1 (aCons (cV 4) aNil)) (bN 5) [5] cYes (cOp dAdd (cV 3) (cOp dMulB (cV 1) (cV 5)))) aNil)))
  (sSet 4 (cOp dAdd (cV 4) (cK (.int 1))))))))
  (sRet (cV 2))))
def F__law_steps : Fn := runFn fin 6 c__law_steps
def c__law_multiples : Sc := (sSeq (sSet 1 (cLst aNil))
  (sSeq (sFor (iR2 (aCons (cK (.int 1)) (aCons (cOp dAdd (cV 0) (cK (.int 1))) aNil))) (bN 2) (sSet 1 (cOp dAdd (cV 1) (cLc (iR2 (aCons (cK (.int 1)) (aCons (cOp dAdd (cOp dDivN (cV 0) (cV 2)) (cK (.int 1))) aNil))) (bN 3) [3] cYes (cB bTup (aCons (cLc (iR2 (aCons (cK (.int 1)) (aCons (cOp dAdd (cV 3) (cK (.int 1))) aNil))) (bN 4) [4] cYes (cOp dSub (cOp dMulB (cV 2) (cV 4)) (cK (.int 1)))) aNil))))))
  (sRet (cV 1))))
def F__law_multiples : Fn := runFn fin 5 c__law_multiples
def c__law_longest : Sc := (sSeq (sSet 2 (cLst (aCons (cTup aNil) aNil)))
  (sSeq (sFor (iR2 (aCons (cK (.int 1)) (aCons (cOp dAdd (cV 1) (cK (.int 1))) aNil))) (bN 3) (sSeq (sSet 4 (cLc (iV (cCall 1 F__law_multiples (aCons (cV 3) aNil))) (bN 7) [7] (cTr (cOp dEq (cOp dIx (cV 7) (cUn dNeg (cK (.int 1)))) (cOp dSub (cV 3) (cK (.int 1))))) (cV 7)))
  (sSeq (sSet 5 (cLst aNil))
  (sSeq (sFor (iV (cV 2)) (bN 6) (sSet 5 (cOp dAdd (cV 5) (cLc (iV (cTup (aCons (cK (.int 1)) (aCons (cOp dSub (cK (.int 0)) (cK (.int 1))) aNil)))) (bN 8) [8] (cTr (cOp dLe (cCall 2 F__law_gap (aCons (cV 4) (aCons (cOp dAdd (cV 6) (cTup (aCons (cV 8) aNil))) aNil))) (cV 0))) (cOp dAdd (cV 6) (cTup (aCons (cV 8) aNil)))))))
  (sSeq (sIf (cTr (cOp dEq (cV 5) (cLst aNil))) (sRet (cTup (aCons (cOp dSub (cV 3) (cK (.int 1))) (aCons (cOp dIx (cV 2) (cK (.int 0))) aNil)))) sSkip)
  (sSet 2 (cV 5)))))))
  (sRet (cTup (aCons (cV 1) (aCons (cOp dIx (cV 2) (cK (.int 0))) aNil))))))
def F__law_longest : Fn := runFn fin 9 c__law_longest
@[irreducible] def l_1 : Sc := (sSet 1 (cLstC (aCons (cK (.int 0)) (aCons (cK (.int 0)) aNil))))
@[irreducible] def l_2 : Sc := (sUnp (bP 17 18) (cTup (aCons (cCall 3 F__law_draw (aCons (cV 1) (aCons (cV 0) (aCons (cK (.int 11)) aNil)))) (aCons (cOp dAdd (cK (.int 1)) (cCall 3 F__law_draw (aCons (cV 1) (aCons (cV 0) (aCons (cK (.int 6)) aNil))))) aNil))))
@[irreducible] def l_3 : Sc := (sSet 2 (cLst aNil))
@[irreducible] def l_4_b : Sc := (sSet 2 (cOp dAdd (cV 2) (cLc (iR2 (aCons (cOp dAdd (cV 3) (cK (.int 1))) (aCons (cOp dAdd (cV 17) (cK (.int 1))) aNil))) (bN 21) [21] cYes (cB bTup (aCons (cRg false (aCons (cV 3) (aCons (cV 21) aNil))) aNil)))))
@[irreducible] def l_4 : Sc := (sFor (iR1 (aCons (cV 17) aNil)) (bN 3) l_4_b)
@[irreducible] def l_5 : Sc := (sSet 4 (cLst aNil))
@[irreducible] def l_6_b : Sc := (sSet 4 (cOp dAdd (cV 4) (cCall 2 F__law_steps (aCons (cV 17) (aCons (cV 5) aNil)))))
@[irreducible] def l_6 : Sc := (sFor (iR2 (aCons (cK (.int 1)) (aCons (cB bMax2 (aCons (cV 17) (aCons (cK (.int 1)) aNil))) aNil))) (bN 5) l_6_b)
@[irreducible] def l_7_t : Cd Bool := (tOrC (cTr (cOp dNe (cCall 1 F_span_sets (aCons (cV 17) aNil)) (cB bTup (aCons (cV 2) aNil)))) (tOrC (cTr (cOp dNe (cCall 2 F_step_sets (aCons (cV 17) (aCons (cV 18) aNil))) (cB bTup (aCons (cCall 2 F__law_steps (aCons (cV 17) (aCons (cV 18) aNil))) aNil)))) (tOrC (cTr (cOp dNe (cCall 1 F_all_step_sets (aCons (cV 17) aNil)) (cB bTup (aCons (cV 4) aNil)))) (cTr (cOp dNe (cCall 1 F_multiple_sets (aCons (cV 17) aNil)) (cB bTup (aCons (cCall 1 F__law_multiples (aCons (cV 17) aNil)) aNil)))))))
@[irreducible] def l_7 : Sc := (sIf l_7_t (sRet (cK (.bool false))) sSkip)
@[irreducible] def l_8 : Sc := (sSet 6 (cB bTup (aCons (cLc (iR1 (aCons (cV 17) aNil)) (bN 23) [23] cYes (cOp dSub (cK (.int 1)) (cOp dMulB (cK (.int 2)) (cCall 3 F__law_draw (aCons (cV 1) (aCons (cV 0) (aCons (cK (.int 2)) aNil))))))) aNil)))
@[irreducible] def l_9 : Sc := (sSet 7 (cCall 3 F__law_draw (aCons (cV 1) (aCons (cV 0) (aCons (cK (.int 3)) aNil)))))
@[irreducible] def l_10_t : Cd Bool := (cTr (cOp dNe (cCall 1 F_multiple_gap (aCons (cV 6) aNil)) (cCall 2 F__law_gap (aCons (cCall 1 F__law_multiples (aCons (cV 17) aNil)) (aCons (cV 6) aNil)))))
@[irreducible] def l_10 : Sc := (sIf l_10_t (sRet (cK (.bool false))) sSkip)
@[irreducible] def l_11_t : Cd Bool := (tAndC (cTr (cOp dGt (cV 17) (cK (.int 0)))) (cTr (cOp dNe (cCall 2 F_last_fits (aCons (cV 6) (aCons (cV 7) aNil))) (cOp dLe (cCall 2 F__law_gap (aCons (cLc (iV (cCall 1 F__law_multiples (aCons (cV 17) aNil))) (bN 25) [25] (cTr (cOp dEq (cOp dIx (cV 25) (cUn dNeg (cK (.int 1)))) (cOp dSub (cV 17) (cK (.int 1))))) (cV 25)) (aCons (cV 6) aNil))) (cV 7)))))
@[irreducible] def l_11 : Sc := (sIf l_11_t (sRet (cK (.bool false))) sSkip)
@[irreducible] def l_12 : Sc := (sSet 8 (cCall 3 F__law_draw (aCons (cV 1) (aCons (cV 0) (aCons (cK (.int 14)) aNil)))))
@[irreducible] def l_13_t : Cd Bool := (tOrC (tAndC (cTr (cOp dLt (cV 7) (cK (.int 2)))) (cTr (cOp dNe (cCall 2 F_longest_multiples (aCons (cV 7) (aCons (cV 8) aNil))) (cCall 2 F__law_longest (aCons (cV 7) (aCons (cV 8) aNil)))))) (tAndC (cTr (cOp dEq (cV 7) (cK (.int 2)))) (cTr (cOp dNe (cCall 2 F_longest_multiples (aCons (cK (.int 2)) (aCons (cB bMin2 (aCons (cV 8) (aCons (cK (.int 7)) aNil))) aNil))) (cCall 2 F__law_longest (aCons (cK (.int 2)) (aCons (cB bMin2 (aCons (cV 8) (aCons (cK (.int 7)) aNil))) aNil)))))))
@[irreducible] def l_13 : Sc := (sIf l_13_t (sRet (cK (.bool false))) sSkip)
@[irreducible] def l_14_t : Cd Bool := (cTr (cOp dNe (cOp dIx (cCall 2 F_longest_multiples (aCons (cK (.int 1)) (aCons (cK (.int 14)) aNil))) (cK (.int 0))) (cK (.int 11))))
@[irreducible] def l_14 : Sc := (sIf l_14_t (sRet (cK (.bool false))) sSkip)
@[irreducible] def l_15 : Sc := (sSet 9 (cOp dAdd (cK (.int 1)) (cCall 3 F__law_draw (aCons (cV 1) (aCons (cV 0) (aCons (cK (.int 400)) aNil))))))
@[irreducible] def l_16 : Sc := (sSet 10 (cLc (iR2 (aCons (cK (.int 1)) (aCons (cOp dAdd (cV 9) (cK (.int 1))) aNil))) (bN 5) [5] cYes (cCall 1 F__law_sign (aCons (cV 5) aNil))))
@[irreducible] def l_17 : Sc := (sPar 19 20 (cK (.int 0)) (cV 9))
@[irreducible] def l_18_b : Sc := (sPar 19 20 (cOp dAdd (cV 19) (cB bInt (aCons (cOp dEq (cOp dMod (cB bInt (aCons (cV 20) aNil)) (cK (.int 3))) (cK (.int 1))) aNil))) (cOp dDivN (cV 20) (cK (.int 3))))
@[irreducible] def l_18 : Sc := (sWh (cTr (cOp dGt (cV 20) (cK (.int 0)))) l_18_b)
@[irreducible] def l_19_t : Cd Bool := (tOrC (cTr (cOp dNe (cCall 1 F_threes_sign (aCons (cV 9) aNil)) (cOp dIx (cV 10) (cUn dNeg (cK (.int 1)))))) (tOrC (cTr (cOp dNe (cCall 1 F_threes_signs (aCons (cV 9) aNil)) (cB bTup (aCons (cV 10) aNil)))) (tOrC (cTr (cOp dNe (cCall 1 F_threes_sum (aCons (cV 9) aNil)) (cV 19))) (tOrC (cTr (cOp dNe (cB bSum (aCons (cV 10) aNil)) (cV 19))) (cTr (cOp dNe (cCall 1 F_threes_sum (aCons (cK (.int 0)) aNil)) (cK (.int 0))))))))
@[irreducible] def l_19 : Sc := (sIf l_19_t (sRet (cK (.bool false))) sSkip)
@[irreducible] def l_20_t : Cd Bool := (cTr (cOp dIsNot (cCall 1 F_is_product_signs (aCons (cB bTup (aCons (cSl (cV 10) cNo (cPart (cK (.int 60)))) aNil)) aNil)) (cK (.bool true))))
@[irreducible] def l_20 : Sc := (sIf l_20_t (sRet (cK (.bool false))) sSkip)
@[irreducible] def l_21 : Sc := (sSet 11 (cK (.bool true)))
@[irreducible] def l_22_b : Sc := (sFor (iR2 (aCons (cK (.int 1)) (aCons (cOp dAdd (cV 17) (cK (.int 1))) aNil))) (bN 21) (sIf (tAndC (cTr (cOp dLe (cOp dMulB (cV 3) (cV 21)) (cV 17))) (cTr (cOp dNe (cOp dIx (cV 6) (cOp dSub (cOp dMulB (cV 3) (cV 21)) (cK (.int 1)))) (cOp dMulB (cOp dIx (cV 6) (cOp dSub (cV 3) (cK (.int 1)))) (cOp dIx (cV 6) (cOp dSub (cV 21) (cK (.int 1)))))))) (sSet 11 (cK (.bool false))) sSkip))
@[irreducible] def l_22 : Sc := (sFor (iR2 (aCons (cK (.int 1)) (aCons (cOp dAdd (cV 17) (cK (.int 1))) aNil))) (bN 3) l_22_b)
@[irreducible] def l_23_t : Cd Bool := (cTr (cOp dNe (cCall 1 F_is_product_signs (aCons (cV 6) aNil)) (cV 11)))
@[irreducible] def l_23 : Sc := (sIf l_23_t (sRet (cK (.bool false))) sSkip)
@[irreducible] def l_24 : Sc := (sSet 12 (cCall 3 F__law_draw (aCons (cV 1) (aCons (cV 0) (aCons (cK (.int 7)) aNil)))))
@[irreducible] def l_25 : Sc := (sSet 13 (cLst aNil))
@[irreducible] def l_26_b : Sc := (sSet 13 (cOp dAdd (cV 13) (cCall 2 F__law_steps (aCons (cV 12) (aCons (cV 5) aNil)))))
@[irreducible] def l_26 : Sc := (sFor (iR2 (aCons (cK (.int 1)) (aCons (cB bMax2 (aCons (cV 12) (aCons (cK (.int 1)) aNil))) aNil))) (bN 5) l_26_b)
@[irreducible] def l_27 : Sc := (sSet 14 (cCall 2 F__law_rows (aCons (cV 12) (aCons (cLst (aCons (cK (.int 1)) (aCons (cOp dSub (cK (.int 0)) (cK (.int 1))) aNil))) aNil))))
@[irreducible] def l_28 : Sc := (sSet 15 (cLc (iV (cV 14)) (bN 22) [22] cYes (cCall 2 F__law_gap (aCons (cV 13) (aCons (cV 22) aNil)))))
@[irreducible] def l_29_t : Cd Bool := (cTr (cOp dNe (cCall 2 F_least_step_gap (aCons (cV 12) (aCons (cK (.int 100000)) aNil))) (cTup (aCons (cB bMinL (aCons (cV 15) aNil)) (aCons (cOp dIx (cV 14) (cM mIndex (cV 15) (aCons (cB bMinL (aCons (cV 15) aNil)) aNil))) aNil)))))
@[irreducible] def l_29 : Sc := (sIf l_29_t (sRet (cK (.bool false))) sSkip)
@[irreducible] def l_30_b : Sc := (sIf (cTr (cOp dNe (cLc (iR1 (aCons (cK (.int 9)) aNil)) (bN 24) [24] cYes (cCall 2 F__law_refused (aCons (cV 24) (aCons (cV 16) aNil)))) (cOp dMulB (cLst (aCons (cK .none) aNil)) (cK (.int 9))))) (sRet (cK (.bool false))) sSkip)
@[irreducible] def l_30 : Sc := (sFor (iV (cLst (aCons (cK .none) (aCons (cOp dSub (cK (.int 0)) (cK (.int 1))) (aCons (cK (.bool true)) (aCons (cTup (aCons (cK (.int 1)) aNil)) aNil)))))) (bN 16) l_30_b)
@[irreducible] def l_31 : Sc := (sRet (cOp dIs (cCall 2 F__law_refused (aCons (cK (.int 8)) (aCons (cK (.int 0)) aNil))) (cK .none)))
def c_law : Sc := (sSeq (sSet 1 (cLstC (aCons (cK (.int 0)) (aCons (cK (.int 0)) aNil))))
  (sSeq (sUnp (bP 17 18) (cTup (aCons (cCall 3 F__law_draw (aCons (cV 1) (aCons (cV 0) (aCons (cK (.int 11)) aNil)))) (aCons (cOp dAdd (cK (.int 1)) (cCall 3 F__law_draw (aCons (cV 1) (aCons (cV 0) (aCons (cK (.int 6)) aNil))))) aNil))))
  (sSeq (sSet 2 (cLst aNil))
  (sSeq (sFor (iR1 (aCons (cV 17) aNil)) (bN 3) (sSet 2 (cOp dAdd (cV 2) (cLc (iR2 (aCons (cOp dAdd (cV 3) (cK (.int 1))) (aCons (cOp dAdd (cV 17) (cK (.int 1))) aNil))) (bN 21) [21] cYes (cB bTup (aCons (cRg false (aCons (cV 3) (aCons (cV 21) aNil))) aNil))))))
  (sSeq (sSet 4 (cLst aNil))
  (sSeq (sFor (iR2 (aCons (cK (.int 1)) (aCons (cB bMax2 (aCons (cV 17) (aCons (cK (.int 1)) aNil))) aNil))) (bN 5) (sSet 4 (cOp dAdd (cV 4) (cCall 2 F__law_steps (aCons (cV 17) (aCons (cV 5) aNil))))))
  (sSeq (sIf (tOrC (cTr (cOp dNe (cCall 1 F_span_sets (aCons (cV 17) aNil)) (cB bTup (aCons (cV 2) aNil)))) (tOrC (cTr (cOp dNe (cCall 2 F_step_sets (aCons (cV 17) (aCons (cV 18) aNil))) (cB bTup (aCons (cCall 2 F__law_steps (aCons (cV 17) (aCons (cV 18) aNil))) aNil)))) (tOrC (cTr (cOp dNe (cCall 1 F_all_step_sets (aCons (cV 17) aNil)) (cB bTup (aCons (cV 4) aNil)))) (cTr (cOp dNe (cCall 1 F_multiple_sets (aCons (cV 17) aNil)) (cB bTup (aCons (cCall 1 F__law_multiples (aCons (cV 17) aNil)) aNil))))))) (sRet (cK (.bool false))) sSkip)
  (sSeq (sSet 6 (cB bTup (aCons (cLc (iR1 (aCons (cV 17) aNil)) (bN 23) [23] cYes (cOp dSub (cK (.int 1)) (cOp dMulB (cK (.int 2)) (cCall 3 F__law_draw (aCons (cV 1) (aCons (cV 0) (aCons (cK (.int 2)) aNil))))))) aNil)))
  (sSeq (sSet 7 (cCall 3 F__law_draw (aCons (cV 1) (aCons (cV 0) (aCons (cK (.int 3)) aNil)))))
  (sSeq (sIf (cTr (cOp dNe (cCall 1 F_multiple_gap (aCons (cV 6) aNil)) (cCall 2 F__law_gap (aCons (cCall 1 F__law_multiples (aCons (cV 17) aNil)) (aCons (cV 6) aNil))))) (sRet (cK (.bool false))) sSkip)
  (sSeq (sIf (tAndC (cTr (cOp dGt (cV 17) (cK (.int 0)))) (cTr (cOp dNe (cCall 2 F_last_fits (aCons (cV 6) (aCons (cV 7) aNil))) (cOp dLe (cCall 2 F__law_gap (aCons (cLc (iV (cCall 1 F__law_multiples (aCons (cV 17) aNil))) (bN 25) [25] (cTr (cOp dEq (cOp dIx (cV 25) (cUn dNeg (cK (.int 1)))) (cOp dSub (cV 17) (cK (.int 1))))) (cV 25)) (aCons (cV 6) aNil))) (cV 7))))) (sRet (cK (.bool false))) sSkip)
  (sSeq (sSet 8 (cCall 3 F__law_draw (aCons (cV 1) (aCons (cV 0) (aCons (cK (.int 14)) aNil)))))
  (sSeq (sIf (tOrC (tAndC (cTr (cOp dLt (cV 7) (cK (.int 2)))) (cTr (cOp dNe (cCall 2 F_longest_multiples (aCons (cV 7) (aCons (cV 8) aNil))) (cCall 2 F__law_longest (aCons (cV 7) (aCons (cV 8) aNil)))))) (tAndC (cTr (cOp dEq (cV 7) (cK (.int 2)))) (cTr (cOp dNe (cCall 2 F_longest_multiples (aCons (cK (.int 2)) (aCons (cB bMin2 (aCons (cV 8) (aCons (cK (.int 7)) aNil))) aNil))) (cCall 2 F__law_longest (aCons (cK (.int 2)) (aCons (cB bMin2 (aCons (cV 8) (aCons (cK (.int 7)) aNil))) aNil))))))) (sRet (cK (.bool false))) sSkip)
  (sSeq (sIf (cTr (cOp dNe (cOp dIx (cCall 2 F_longest_multiples (aCons (cK (.int 1)) (aCons (cK (.int 14)) aNil))) (cK (.int 0))) (cK (.int 11)))) (sRet (cK (.bool false))) sSkip)
  (sSeq (sSet 9 (cOp dAdd (cK (.int 1)) (cCall 3 F__law_draw (aCons (cV 1) (aCons (cV 0) (aCons (cK (.int 400)) aNil))))))
  (sSeq (sSet 10 (cLc (iR2 (aCons (cK (.int 1)) (aCons (cOp dAdd (cV 9) (cK (.int 1))) aNil))) (bN 5) [5] cYes (cCall 1 F__law_sign (aCons (cV 5) aNil))))
  (sSeq (sPar 19 20 (cK (.int 0)) (cV 9))
  (sSeq (sWh (cTr (cOp dGt (cV 20) (cK (.int 0)))) (sPar 19 20 (cOp dAdd (cV 19) (cB bInt (aCons (cOp dEq (cOp dMod (cB bInt (aCons (cV 20) aNil)) (cK (.int 3))) (cK (.int 1))) aNil))) (cOp dDivN (cV 20) (cK (.int 3)))))
  (sSeq (sIf (tOrC (cTr (cOp dNe (cCall 1 F_threes_sign (aCons (cV 9) aNil)) (cOp dIx (cV 10) (cUn dNeg (cK (.int 1)))))) (tOrC (cTr (cOp dNe (cCall 1 F_threes_signs (aCons (cV 9) aNil)) (cB bTup (aCons (cV 10) aNil)))) (tOrC (cTr (cOp dNe (cCall 1 F_threes_sum (aCons (cV 9) aNil)) (cV 19))) (tOrC (cTr (cOp dNe (cB bSum (aCons (cV 10) aNil)) (cV 19))) (cTr (cOp dNe (cCall 1 F_threes_sum (aCons (cK (.int 0)) aNil)) (cK (.int 0)))))))) (sRet (cK (.bool false))) sSkip)
  (sSeq (sIf (cTr (cOp dIsNot (cCall 1 F_is_product_signs (aCons (cB bTup (aCons (cSl (cV 10) cNo (cPart (cK (.int 60)))) aNil)) aNil)) (cK (.bool true)))) (sRet (cK (.bool false))) sSkip)
  (sSeq (sSet 11 (cK (.bool true)))
  (sSeq (sFor (iR2 (aCons (cK (.int 1)) (aCons (cOp dAdd (cV 17) (cK (.int 1))) aNil))) (bN 3) (sFor (iR2 (aCons (cK (.int 1)) (aCons (cOp dAdd (cV 17) (cK (.int 1))) aNil))) (bN 21) (sIf (tAndC (cTr (cOp dLe (cOp dMulB (cV 3) (cV 21)) (cV 17))) (cTr (cOp dNe (cOp dIx (cV 6) (cOp dSub (cOp dMulB (cV 3) (cV 21)) (cK (.int 1)))) (cOp dMulB (cOp dIx (cV 6) (cOp dSub (cV 3) (cK (.int 1)))) (cOp dIx (cV 6) (cOp dSub (cV 21) (cK (.int 1)))))))) (sSet 11 (cK (.bool false))) sSkip)))
  (sSeq (sIf (cTr (cOp dNe (cCall 1 F_is_product_signs (aCons (cV 6) aNil)) (cV 11))) (sRet (cK (.bool false))) sSkip)
  (sSeq (sSet 12 (cCall 3 F__law_draw (aCons (cV 1) (aCons (cV 0) (aCons (cK (.int 7)) aNil)))))
  (sSeq (sSet 13 (cLst aNil))
  (sSeq (sFor (iR2 (aCons (cK (.int 1)) (aCons (cB bMax2 (aCons (cV 12) (aCons (cK (.int 1)) aNil))) aNil))) (bN 5) (sSet 13 (cOp dAdd (cV 13) (cCall 2 F__law_steps (aCons (cV 12) (aCons (cV 5) aNil))))))
  (sSeq (sSet 14 (cCall 2 F__law_rows (aCons (cV 12) (aCons (cLst (aCons (cK (.int 1)) (aCons (cOp dSub (cK (.int 0)) (cK (.int 1))) aNil))) aNil))))
  (sSeq (sSet 15 (cLc (iV (cV 14)) (bN 22) [22] cYes (cCall 2 F__law_gap (aCons (cV 13) (aCons (cV 22) aNil)))))
  (sSeq (sIf (cTr (cOp dNe (cCall 2 F_least_step_gap (aCons (cV 12) (aCons (cK (.int 100000)) aNil))) (cTup (aCons (cB bMinL (aCons (cV 15) aNil)) (aCons (cOp dIx (cV 14) (cM mIndex (cV 15) (aCons (cB bMinL (aCons (cV 15) aNil)) aNil))) aNil))))) (sRet (cK (.bool false))) sSkip)
  (sSeq (sFor (iV (cLst (aCons (cK .none) (aCons (cOp dSub (cK (.int 0)) (cK (.int 1))) (aCons (cK (.bool true)) (aCons (cTup (aCons (cK (.int 1)) aNil)) aNil)))))) (bN 16) (sIf (cTr (cOp dNe (cLc (iR1 (aCons (cK (.int 9)) aNil)) (bN 24) [24] cYes (cCall 2 F__law_refused (aCons (cV 24) (aCons (cV 16) aNil)))) (cOp dMulB (cLst (aCons (cK .none) aNil)) (cK (.int 9))))) (sRet (cK (.bool false))) sSkip))
  (sRet (cOp dIs (cCall 2 F__law_refused (aCons (cK (.int 8)) (aCons (cK (.int 0)) aNil))) (cK .none)))))))))))))))))))))))))))))))))
def d_law : Sc := (sSeq l_1 (sSeq l_2 (sSeq l_3 (sSeq l_4 (sSeq l_5 (sSeq l_6 (sSeq l_7 (sSeq l_8 (sSeq l_9 (sSeq l_10 (sSeq l_11 (sSeq l_12 (sSeq l_13 (sSeq l_14 (sSeq l_15 (sSeq l_16 (sSeq l_17 (sSeq l_18 (sSeq l_19 (sSeq l_20 (sSeq l_21 (sSeq l_22 (sSeq l_23 (sSeq l_24 (sSeq l_25 (sSeq l_26 (sSeq l_27 (sSeq l_28 (sSeq l_29 (sSeq l_30 l_31))))))))))))))))))))))))))))))
theorem split_law : c_law = d_law := by kernel_rfl
def F_law : Fn := runFn fin 26 c_law
end K35


set_option Elab.async false
set_option linter.all false
set_option maxRecDepth 100000
set_option maxHeartbeats 8000000

namespace K35
open PySem PySem.Spec FW
abbrev DEPTH : Nat := 30
def t__law_draw (p_script : (List Int)) (p_size : Int) (xs : List Int) : X (Int × List Int) := let a := (p_script, p_size, ())
  X.fn (σ := Unit) none (X.seq (X.bind (X.bind (X.bind (X.ok xs) fun v2 =>
  (X.bind (X.ok (1 : Int)) fun v3 =>
  (X.of (L2.atI v2 v3)))) fun v4 =>
  (X.bind (X.ok (0 : Int)) fun v5 =>
  (X.of (some (decide (v4 = v5)))))) fun v228 =>
  (if v228 = true then (X.seq (X.bind (X.ok (0 : Int)) fun v118 =>
  (X.ok (.next v118))) fun s117 =>
  (X.seq (X.bind (X.bind (X.bind (X.bind (X.ok a.1) fun v120 =>
  (X.bind (X.ok ()) fun v121 =>
  (X.ok (v120, v121)))) fun v122 =>
  (X.of (some (v122.1.length : Int)))) fun v123 =>
  (X.bind (X.ok (0 : Int)) fun v124 =>
  (X.of (some (decide (v124 < v123)))))) fun v147 =>
  (if v147 = true then (X.seq (X.bind (X.bind (X.ok a.1) fun v144 =>
  (X.bind (X.bind (X.bind (X.ok xs) fun v137 =>
  (X.bind (X.ok (0 : Int)) fun v138 =>
  (X.of (L2.atI v137 v138)))) fun v142 =>
  (X.bind (X.bind (X.bind (X.ok a.1) fun v139 =>
  (X.bind (X.ok ()) fun v140 =>
  (X.ok (v139, v140)))) fun v141 =>
  (X.of (some (v141.1.length : Int)))) fun v143 =>
  (X.of (modO v142 v143)))) fun v145 =>
  (X.of (L2.atI v144 v145)))) fun v146 =>
  (X.ok (.next v146))) fun s136 => (X.ok (.next s136))) else (X.ok (.next s117)))) fun s119 =>
  (X.seq (X.bind (X.bind (X.ok s119) fun v149 =>
  (X.bind (X.ok (0 : Int)) fun v150 =>
  (X.of (some (decide (v149 < v150)))))) fun v163 =>
  (if v163 = true then (X.seq (X.bind (X.bind (X.ok (1 : Int)) fun v160 =>
  (X.bind (X.bind (X.ok (2 : Int)) fun v158 =>
  (X.bind (X.ok s119) fun v159 =>
  (X.of (mulO v158 v159)))) fun v161 =>
  (X.of (some (v160 - v161))))) fun v162 =>
  (X.ok (.next v162))) fun s157 => (X.ok (.next s157))) else (X.ok (.next s119)))) fun s148 =>
  (X.seq (X.bind (X.bind (X.bind (X.bind (X.bind (X.bind (X.bind (X.ok s148) fun v169 =>
  (X.bind (X.bind (X.bind (X.ok xs) fun v165 =>
  (X.bind (X.ok (0 : Int)) fun v166 =>
  (X.of (L2.atI v165 v166)))) fun v167 =>
  (X.bind (X.ok (7919 : Int)) fun v168 =>
  (X.of (mulO v167 v168)))) fun v170 =>
  (X.of (some (v169 + v170))))) fun v171 =>
  (X.bind (X.ok (1 : Int)) fun v172 =>
  (X.of (some (v171 + v172))))) fun v173 =>
  (X.bind (X.ok (48271 : Int)) fun v174 =>
  (X.of (mulO v173 v174)))) fun v175 =>
  (X.bind (X.ok ()) fun v176 =>
  (X.ok (v175, v176)))) fun v177 =>
  (X.of (some v177.1))) fun v178 =>
  (X.bind (X.ok (2147483647 : Int)) fun v179 =>
  (X.of (modO v178 v179)))) fun v180 =>
  (X.ok (.next v180))) fun s164 =>
  (X.seq (X.bind (X.bind (X.bind (X.bind (X.bind (X.bind (X.ok s164) fun v182 =>
  (X.bind (X.ok (69621 : Int)) fun v183 =>
  (X.of (mulO v182 v183)))) fun v188 =>
  (X.bind (X.bind (X.bind (X.ok xs) fun v184 =>
  (X.bind (X.ok (0 : Int)) fun v185 =>
  (X.of (L2.atI v184 v185)))) fun v186 =>
  (X.bind (X.ok (104729 : Int)) fun v187 =>
  (X.of (mulO v186 v187)))) fun v189 =>
  (X.of (some (v188 + v189))))) fun v190 =>
  (X.bind (X.ok ()) fun v191 =>
  (X.ok (v190, v191)))) fun v192 =>
  (X.of (some v192.1))) fun v193 =>
  (X.bind (X.ok (4294967291 : Int)) fun v194 =>
  (X.of (modO v193 v194)))) fun v195 =>
  (X.bind (X.ok (1 : Int)) fun v196 =>
  (X.bind (X.put xs v196 v195) fun v197 =>
  (X.ok (.next v197))))) fun s181 =>
  (X.seq (X.bind (X.bind (X.bind (X.ok s148) fun v208 =>
  (X.bind (X.bind (X.ok (10 : Int)) fun v206 =>
  (X.bind (X.ok (18 : Int)) fun v207 =>
  (X.of (powO v206 v207)))) fun v209 =>
  (X.of (some (decide (v209 ≤ v208)))))) fun v210 =>
  (if v210 = true then (X.bind (X.bind (X.ok s181) fun v199 =>
  (X.bind (X.ok (0 : Int)) fun v200 =>
  (X.of (L2.atI v199 v200)))) fun v204 =>
  (X.bind (X.bind (X.bind (X.ok a.1) fun v201 =>
  (X.bind (X.ok ()) fun v202 =>
  (X.ok (v201, v202)))) fun v203 =>
  (X.of (some (v203.1.length : Int)))) fun v205 =>
  (X.of (some (decide (v204 < v205)))))) else (X.ok false))) fun v219 =>
  (if v219 = true then (X.seq (X.bind (X.ok s148) fun v216 =>
  (X.bind (X.ok (1 : Int)) fun v217 =>
  (X.bind (X.put s181 v217 v216) fun v218 =>
  (X.ok (.next v218))))) fun s215 => (X.ok (.next s215))) else (X.ok (.next s181)))) fun s198 =>
  (X.seq (X.bind (X.bind (X.bind (X.ok s198) fun v221 =>
  (X.bind (X.ok (0 : Int)) fun v222 =>
  (X.of (L2.atI v221 v222)))) fun v223 =>
  (X.bind (X.ok (1 : Int)) fun v224 =>
  (X.of (some (v223 + v224))))) fun v225 =>
  (X.bind (X.ok (0 : Int)) fun v226 =>
  (X.bind (X.put s198 v226 v225) fun v227 =>
  (X.ok (.next v227))))) fun s220 => (X.ok (.next s220))))))))) else (X.ok (.next xs)))) fun s1 =>
  (X.seq (X.bind (X.bind (X.bind (X.bind (X.bind (X.ok s1) fun v230 =>
  (X.bind (X.ok (1 : Int)) fun v231 =>
  (X.of (L2.atI v230 v231)))) fun v232 =>
  (X.bind (X.ok ()) fun v233 =>
  (X.ok (v232, v233)))) fun v234 =>
  (X.of (some v234.1))) fun v235 =>
  (X.bind (X.ok a.2.1) fun v236 =>
  (X.of (modO v235 v236)))) fun v237 =>
  (X.ok (.next v237))) fun s229 =>
  (X.seq (X.bind (X.bind (X.bind (X.ok s1) fun v239 =>
  (X.bind (X.ok (1 : Int)) fun v240 =>
  (X.of (L2.atI v239 v240)))) fun v241 =>
  (X.bind (X.ok a.2.1) fun v242 =>
  (X.of (divO v241 v242)))) fun v243 =>
  (X.bind (X.ok (1 : Int)) fun v244 =>
  (X.bind (X.put s1 v244 v243) fun v245 =>
  (X.ok (.next v245))))) fun s238 =>
  (X.bind (X.ok s229) fun v246 =>
  (X.ok (.ret (v246, s238)))))))
theorem ok_t__law_draw : FnC F__law_draw [.t, .f, .f] (aC (eL eI) (aC eI aN)) eI eI (fun (a : (List Int) × Int × Unit) xs => t__law_draw a.1 a.2.1 xs) := by
    apply q_fnC (es := fun _ : Unit => [.u, .u, .u, .u, .u, .u]) (el := fun s => nomatch s) (k := 6) (body := c__law_draw) rfl
    case h => intro n0 base l a xs; unfold c__law_draw; exact (q_seq (q_sif (es := fun (s1 : (List Int)) => [(.k (s1.map eI)), (.f ((eL eI) a.1)), (.f (eI a.2.1)), .u, .u, .u]) (q_tr (SimD.toE (q_op o_eqI (SimD.toE (q_op (o_ixL (e := eI)) (q_varK (e := eI) (xs := xs) 0 (by rfl)) (SimD.toE (q_const (e := eI) (a := (1 : Int)) rfl)))) (SimD.toE (q_const (e := eI) (a := (0 : Int)) rfl))))) (q_seq (q_set (e := eI) 4 (q_const (e := eI) (a := (0 : Int)) rfl)) (fun s117 =>
  (q_seq (q_sif (es := fun (s119 : Int) => [(.k (xs.map eI)), (.f ((eL eI) a.1)), (.f (eI a.2.1)), .u, (.d (eI s119)), .u]) (q_tr (SimD.toE (q_op o_gtI (SimD.toE (q_b (b_lenL (e := eI)) (q_aF (e := (eL eI)) (q_varF (e := (eL eI)) (a := a.1) 1 (by rfl)) q_aN) rfl)) (SimD.toE (q_const (e := eI) (a := (0 : Int)) rfl))))) (q_end (k := fun (s136 : Int) => s136) (q_set (e := eI) 4 (q_op (o_ixL (e := eI)) (q_varF (e := (eL eI)) (a := a.1) 1 (by rfl)) (SimD.toE (q_op o_modI (SimD.toE (q_op (o_ixL (e := eI)) (q_varK (e := eI) (xs := xs) 0 (by rfl)) (SimD.toE (q_const (e := eI) (a := (0 : Int)) rfl)))) (SimD.toE (q_b (b_lenL (e := eI)) (q_aF (e := (eL eI)) (q_varF (e := (eL eI)) (a := a.1) 1 (by rfl)) q_aN) rfl)))))) (fun s136 => (by exact (ls_k (ls_k (ls_k (ls_k (ls_k (ls_k ls_n))))))))) (q_skip (s := s117) (by exact (ls_k (ls_k (ls_k (ls_k (ls_k (ls_k ls_n))))))))) (fun s119 =>
  (q_seq (q_sif (es := fun (s148 : Int) => [(.k (xs.map eI)), (.f ((eL eI) a.1)), (.f (eI a.2.1)), .u, (.d (eI s148)), .u]) (q_tr (SimD.toE (q_op o_ltI (SimD.toE (q_var (e := eI) (a := s119) 4 (by rfl))) (SimD.toE (q_const (e := eI) (a := (0 : Int)) rfl))))) (q_end (k := fun (s157 : Int) => s157) (q_set (e := eI) 4 (q_op o_subI (SimD.toE (q_const (e := eI) (a := (1 : Int)) rfl)) (SimD.toE (q_op o_mulI (SimD.toE (q_const (e := eI) (a := (2 : Int)) rfl)) (SimD.toE (q_var (e := eI) (a := s119) 4 (by rfl))))))) (fun s157 => (by exact (ls_k (ls_k (ls_k (ls_k (ls_k (ls_k ls_n))))))))) (q_skip (s := s119) (by exact (ls_k (ls_k (ls_k (ls_k (ls_k (ls_k ls_n))))))))) (fun s148 =>
  (q_seq (q_set (e := eI) 5 (q_op o_modI (SimD.toE (q_b b_intI (q_aF (e := eI) (SimD.toE (q_op o_mulI (SimD.toE (q_op o_addI (SimD.toE (q_op o_addI (SimD.toE (q_var (e := eI) (a := s148) 4 (by rfl))) (SimD.toE (q_op o_mulI (SimD.toE (q_op (o_ixL (e := eI)) (q_varK (e := eI) (xs := xs) 0 (by rfl)) (SimD.toE (q_const (e := eI) (a := (0 : Int)) rfl)))) (SimD.toE (q_const (e := eI) (a := (7919 : Int)) rfl)))))) (SimD.toE (q_const (e := eI) (a := (1 : Int)) rfl)))) (SimD.toE (q_const (e := eI) (a := (48271 : Int)) rfl)))) q_aN) rfl)) (SimD.toE (q_const (e := eI) (a := (2147483647 : Int)) rfl)))) (fun s164 =>
  (q_seq (q_putK (e2 := eI) (xs := xs) 0 (by rfl) (q_op o_modI (SimD.toE (q_b b_intI (q_aF (e := eI) (SimD.toE (q_op o_addI (SimD.toE (q_op o_mulI (SimD.toE (q_var (e := eI) (a := s164) 5 (by rfl))) (SimD.toE (q_const (e := eI) (a := (69621 : Int)) rfl)))) (SimD.toE (q_op o_mulI (SimD.toE (q_op (o_ixL (e := eI)) (q_varK (e := eI) (xs := xs) 0 (by rfl)) (SimD.toE (q_const (e := eI) (a := (0 : Int)) rfl)))) (SimD.toE (q_const (e := eI) (a := (104729 : Int)) rfl)))))) q_aN) rfl)) (SimD.toE (q_const (e := eI) (a := (4294967291 : Int)) rfl))) (SimD.toE (q_const (e := eI) (a := (1 : Int)) rfl))) (fun s181 =>
  (q_seq (q_sif (es := fun (s198 : (List Int)) => [(.k (s198.map eI)), (.f ((eL eI) a.1)), (.f (eI a.2.1)), .u, (.d (eI s148)), (.d (eI s164))]) (q_tand (q_tr (SimD.toE (q_op o_geI (SimD.toE (q_var (e := eI) (a := s148) 4 (by rfl))) (SimD.toE (q_op o_powI (SimD.toE (q_const (e := eI) (a := (10 : Int)) rfl)) (SimD.toE (q_const (e := eI) (a := (18 : Int)) rfl))))))) (q_tr (SimD.toE (q_op o_ltI (SimD.toE (q_op (o_ixL (e := eI)) (q_varK (e := eI) (xs := s181) 0 (by rfl)) (SimD.toE (q_const (e := eI) (a := (0 : Int)) rfl)))) (SimD.toE (q_b (b_lenL (e := eI)) (q_aF (e := (eL eI)) (q_varF (e := (eL eI)) (a := a.1) 1 (by rfl)) q_aN) rfl)))))) (q_end (k := fun (s215 : (List Int)) => s215) (q_putK (e2 := eI) (xs := s181) 0 (by rfl) (q_var (e := eI) (a := s148) 4 (by rfl)) (SimD.toE (q_const (e := eI) (a := (1 : Int)) rfl))) (fun s215 => (by exact (ls_k (ls_k (ls_k (ls_k (ls_k (ls_k ls_n))))))))) (q_skip (s := s181) (by exact (ls_k (ls_k (ls_k (ls_k (ls_k (ls_k ls_n))))))))) (fun s198 =>
  (q_end (k := fun (s220 : (List Int)) => s220) (q_putK (e2 := eI) (xs := s198) 0 (by rfl) (q_op o_addI (SimD.toE (q_op (o_ixL (e := eI)) (q_varK (e := eI) (xs := s198) 0 (by rfl)) (SimD.toE (q_const (e := eI) (a := (0 : Int)) rfl)))) (SimD.toE (q_const (e := eI) (a := (1 : Int)) rfl))) (SimD.toE (q_const (e := eI) (a := (0 : Int)) rfl))) (fun s220 => (by exact (ls_k (ls_k (ls_k (ls_k (ls_u (ls_u ls_n))))))))))))))))))))) (q_skip (s := xs) (by exact (ls_k (ls_k (ls_k (ls_k (ls_k (ls_k ls_n))))))))) (fun s1 =>
  (q_seq (q_set (e := eI) 3 (q_op o_modI (SimD.toE (q_b b_intI (q_aF (e := eI) (SimD.toE (q_op (o_ixL (e := eI)) (q_varK (e := eI) (xs := s1) 0 (by rfl)) (SimD.toE (q_const (e := eI) (a := (1 : Int)) rfl)))) q_aN) rfl)) (q_varF (e := eI) (a := a.2.1) 2 (by rfl)))) (fun s229 =>
  (q_seq (q_putK (e2 := eI) (xs := s1) 0 (by rfl) (q_op o_divI (SimD.toE (q_op (o_ixL (e := eI)) (q_varK (e := eI) (xs := s1) 0 (by rfl)) (SimD.toE (q_const (e := eI) (a := (1 : Int)) rfl)))) (q_varF (e := eI) (a := a.2.1) 2 (by rfl))) (SimD.toE (q_const (e := eI) (a := (1 : Int)) rfl))) (fun s238 =>
  (q_retK (e := eI) (e1 := eI) (xs := s238) 0 (by rfl) (q_var (e := eI) (a := s229) 3 (by rfl)))))))))
    case hm =>
      intro a xs
      unfold t__law_draw; simp only [X.m_fn, X.m_seq, X.m_bind, X.m_ite, X.m_ok, X.m_exc, X.m_lc, X.m_lc2, X.m_for, X.m_wh, X.m_try, X.m_hnd, X.m_sure]
theorem at0 {a b : Int} : L2.atI [a, b] 0 = some a := rfl
theorem at1 {a b : Int} : L2.atI [a, b] 1 = some b := rfl
theorem put1 {a b c : Int} : X.put [a, b] 1 c = .ok [a, c] := rfl
theorem put0 {a b c : Int} : X.put [a, b] 0 c = .ok [c, b] := rfl
theorem ten18 : powO 10 18 = some 1000000000000000000 := by decide +kernel
theorem mod0 {a : Int} : modO a 2147483647 = some (a % 2147483647) := modO_pos (by decide)
theorem mod1 {a : Int} : modO a 4294967291 = some (a % 4294967291) := modO_pos (by decide)
theorem mulc0 {a : Int} : mulO a 48271 = some (a * 48271) := mulO_r (by decide) (by decide)
theorem mulc1 {a : Int} : mulO a 7919 = some (a * 7919) := mulO_r (by decide) (by decide)
theorem mulc2 {a : Int} : mulO a 69621 = some (a * 69621) := mulO_r (by decide) (by decide)
theorem mulc3 {a : Int} : mulO a 104729 = some (a * 104729) := mulO_r (by decide) (by decide)
theorem mulc4 {a : Int} : mulO 2 a = some (2 * a) := mulO_l (by decide) (by decide)
theorem draw_ok (ns : List Int) (n a b : Int) (hn : 0 < n) (hn2 : n < 2 ^ 64) (ha : 0 ≤ a) (hb : 0 ≤ b) : ∃ a' b', 0 ≤ a' ∧ 0 ≤ b' ∧ t__law_draw ns n [a, b] = .ok (b' % n, [a', b' / n]) := by
  unfold t__law_draw
  by_cases hb0 : b = 0
  · subst hb0
    by_cases hl : (0 : Int) < (ns.length : Int)
    · have hne : ns ≠ [] := by intro z; subst z; simp at hl
      have h1 := Int.emod_nonneg a (show (ns.length : Int) ≠ 0 by omega)
      have h2 := Int.emod_lt_of_pos a hl
      obtain ⟨j, hj⟩ := Int.eq_ofNat_of_zero_le h1
      have hjl : j < ns.length := by omega
      have hat := atI_ok (List.getElem?_eq_getElem hjl)
      generalize ns[j] = c at hat
      by_cases hc : c < 0
      · have hn1 : ¬ (1000000000000000000 ≤ 1 - 2 * c ∧ a < (ns.length : Int)) ∨ (1000000000000000000 ≤ 1 - 2 * c ∧ a < (ns.length : Int)) := Classical.em _ |>.symm
        rcases hn1 with hn1 | hn1
        · refine ⟨a + 1, ((1 - 2 * c + a * 7919 + 1) * 48271 % 2147483647 * 69621 + a * 104729) % 4294967291, by omega, Int.emod_nonneg _ (by decide), ?_⟩
          by_cases h3 : 1000000000000000000 ≤ 1 - 2 * c
          · have h4 : ¬ a < (ns.length : Int) := fun z => hn1 ⟨h3, z⟩
            simp [at0, at1, put1, put0, modO_pos hl, modO_pos hn, divO_pos hn hn2, hl, hne, hj, hat, hc, ten18, mod0, mod1, mulc0, mulc1, mulc2, mulc3, mulc4, h3, h4]
          · simp [at0, at1, put1, put0, modO_pos hl, modO_pos hn, divO_pos hn hn2, hl, hne, hj, hat, hc, ten18, mod0, mod1, mulc0, mulc1, mulc2, mulc3, mulc4, h3]
        · refine ⟨a + 1, 1 - 2 * c, by omega, by omega, ?_⟩
          simp [at0, at1, put1, put0, modO_pos hl, modO_pos hn, divO_pos hn hn2, hl, hne, hj, hat, hc, ten18, mod0, mod1, mulc0, mulc1, mulc2, mulc3, mulc4, hn1.1, hn1.2]
      · have hn1 : ¬ (1000000000000000000 ≤ c ∧ a < (ns.length : Int)) ∨ (1000000000000000000 ≤ c ∧ a < (ns.length : Int)) := Classical.em _ |>.symm
        rcases hn1 with hn1 | hn1
        · refine ⟨a + 1, ((c + a * 7919 + 1) * 48271 % 2147483647 * 69621 + a * 104729) % 4294967291, by omega, Int.emod_nonneg _ (by decide), ?_⟩
          by_cases h3 : 1000000000000000000 ≤ c
          · have h4 : ¬ a < (ns.length : Int) := fun z => hn1 ⟨h3, z⟩
            simp [at0, at1, put1, put0, modO_pos hl, modO_pos hn, divO_pos hn hn2, hl, hne, hj, hat, hc, ten18, mod0, mod1, mulc0, mulc1, mulc2, mulc3, mulc4, h3, h4]
          · simp [at0, at1, put1, put0, modO_pos hl, modO_pos hn, divO_pos hn hn2, hl, hne, hj, hat, hc, ten18, mod0, mod1, mulc0, mulc1, mulc2, mulc3, mulc4, h3]
        · refine ⟨a + 1, c, by omega, by omega, ?_⟩
          simp [at0, at1, put1, put0, modO_pos hl, modO_pos hn, divO_pos hn hn2, hl, hne, hj, hat, hc, ten18, mod0, mod1, mulc0, mulc1, mulc2, mulc3, mulc4, hn1.1, hn1.2]
    · have hnil : ns = [] := by
        cases ns with
        | nil => rfl
        | cons x r => exact (hl (by simp)).elim
      subst hnil
      refine ⟨a + 1, ((0 + a * 7919 + 1) * 48271 % 2147483647 * 69621 + a * 104729) % 4294967291, by omega, Int.emod_nonneg _ (by decide), ?_⟩
      simp [at0, at1, put1, put0, modO_pos hn, divO_pos hn hn2, hl, ten18, mod0, mod1, mulc0, mulc1, mulc2, mulc3, mulc4]
  · refine ⟨a, b, ha, hb, ?_⟩
    simp [at0, at1, put1, put0, hb0, modO_pos hn, divO_pos hn hn2]
/-- the tape in order -/
def TI (ys : List D) : Prop := ∃ a b : Int, 0 ≤ a ∧ 0 ≤ b ∧ ys = [.int a, .int b]
def w__law_draw (p_script : List Int) (p_size : Int) : M Int := fun Q _ => 0 < p_size ∧ p_size < 2 ^ 64 ∧ p_script.length ≤ 63 ∧ ∀ r : Int, 0 ≤ r → r < p_size → Q r
theorem ok_w__law_draw : FnM F__law_draw TI [.t, .f, .f] (aC (eL eI) (aC eI aN)) eI (fun a => w__law_draw a.1 a.2.1) := by
  refine fnM_of ok_t__law_draw ?_ rfl ?_
  · rintro ys ⟨a, b, _, _, rfl⟩
    exact ⟨[a, b], rfl⟩
  · rintro ⟨ns, n, u⟩ xs Q E ⟨a, b, ha, hb, hx⟩ ⟨h1, h2, h3, h4⟩
    have hx : xs = [a, b] := by
      match xs, hx with
      | [x, y], hx => cases hx; rfl
    subst hx
    obtain ⟨a', b', ha', hb', e⟩ := draw_ok ns n a b h1 h2 ha hb
    refine ⟨_, e, ⟨a', b' / n, ha', Int.ediv_nonneg hb' (Int.le_of_lt h1), rfl⟩, h4 _ (Int.emod_nonneg _ (Int.ne_of_gt h1)) (Int.emod_lt_of_pos _ h1)⟩

def t__law_rows (p_many : Int) (p_options : (List Int)) : X (List (List Int)) := let a := (p_many, p_options, ())
  X.fn (σ := Unit) none (X.seq (X.bind (X.bind (X.bind (X.bind (X.ok ()) fun v283 =>
  (X.ok ([] : List Int))) fun v284 =>
  (X.bind (X.ok ()) fun v285 =>
  (X.ok (v284, v285)))) fun v286 =>
  (X.ok [v286.1])) fun v287 =>
  (X.ok (.next v287))) fun s282 =>
  (X.seq (X.bind (X.bind (X.bind (X.ok a.1) fun v291 =>
  (X.bind (X.ok ()) fun v292 =>
  (X.ok (v291, v292)))) fun v293 =>
  (X.of (rg1 v293.1))) fun v315 =>
  (X.for (fun (s289 : (List (List Int))) x290 => (X.seq (X.bind (X.bind (X.ok ()) fun v295 =>
  (X.ok ([] : List (List Int)))) fun v296 =>
  (X.ok (.next v296))) fun s294 =>
  (X.seq (X.bind (X.ok s289) fun v312 =>
  (X.for (fun (s298 : (List (List Int))) x299 => (X.seq (X.bind (X.bind (X.ok s298) fun v309 =>
  (X.bind (X.bind (X.ok a.2.1) fun v302 =>
  (X.bind (X.lc (fun x301 => (X.ok true)) (fun x301 => (X.bind (X.ok x299) fun v307 =>
  (X.bind (X.bind (X.bind (X.ok x301) fun v304 =>
  (X.bind (X.ok ()) fun v305 =>
  (X.ok (v304, v305)))) fun v306 =>
  (X.ok [v306.1])) fun v308 =>
  (X.of (catO v307 v308))))) v302) fun v303 =>
  (X.of (limO v303)))) fun v310 =>
  (X.of (catO v309 v310)))) fun v311 =>
  (X.ok (.next v311))) fun s300 => (X.ok (.next s300)))) v312 s294)) fun s297 =>
  (X.seq (X.bind (X.ok s297) fun v314 =>
  (X.ok (.next v314))) fun s313 => (X.ok (.next s313)))))) v315 s282)) fun s288 =>
  (X.bind (X.ok s288) fun v316 =>
  (X.ok (.ret v316)))))
theorem ok_t__law_rows : FnX F__law_rows [.f, .f] (aC eI (aC (eL eI) aN)) (eL (eT eI)) (fun a : Int × (List Int) × Unit => t__law_rows a.1 a.2.1) := by
    apply q_fn (es := fun _ : Unit => [.u, .u, .u, .u, .u, .u, .u]) (el := fun s => nomatch s) (k := 7) (body := c__law_rows) none (fun _ h => nomatch h)
    case h => intro c a; unfold c__law_rows; exact (q_seq (q_set (e := (eL (eT eI))) 2 (q_lst (e := (eL (eT eI))) (g' := fun (b : (List Int) × Unit) => [b.1]) (q_aS (e := (eT eI)) (q_tup (e := (eT eI)) (g' := fun (_ : Unit) => []) q_aN rfl (fun _ => rfl) (fun _ => rfl)) q_aN) rfl (fun _ => rfl) (fun _ => rfl))) (fun s282 =>
  (q_seq (q_for (e := eI) (es := fun (s289 : (List (List Int))) => [(.f (eI a.1)), (.f ((eL eI) a.2.1)), (.d ((eL (eT eI)) s289)), .u, .u, .u, .u]) s282 (q_r1 (q_aF (e := eI) (q_varF (e := eI) (a := a.1) 0 (by rfl)) q_aN) rfl) (by exact (ls_k (ls_k (ls_k (ls_k (ls_k (ls_k (ls_k ls_n)))))))) (q_bn (e := eI) 3) (fun s289 x290 =>
  (q_seq (q_set (e := (eL (eT eI))) 4 (q_lst (e := (eL (eT eI))) (g' := fun (_ : Unit) => []) q_aN rfl (fun _ => rfl) (fun _ => rfl))) (fun s294 =>
  (q_seq (q_for (e := (eT eI)) (es := fun (s298 : (List (List Int))) => [(.f (eI a.1)), (.f ((eL eI) a.2.1)), (.d ((eL (eT eI)) s289)), (.d (eI x290)), (.d ((eL (eT eI)) s298)), .u, .u]) s294 (q_ivL (e := (eT eI)) (q_var (e := (eL (eT eI))) (a := s289) 2 (by rfl))) (by exact (ls_k (ls_k (ls_k (ls_k (ls_k (ls_k (ls_k ls_n)))))))) (q_bn (e := (eT eI)) 5) (fun s298 x299 =>
  (q_end (k := fun (s300 : (List (List Int))) => s300) (q_set (e := (eL (eT eI))) 4 (q_op (o_addL (e := (eT eI))) (SimD.toE (q_var (e := (eL (eT eI))) (a := s298) 4 (by rfl))) (SimD.toE (q_lc (e := eI) (e1 := (eT eI)) (vs := [6]) (q_ivF (e := eI) (xs := a.2.1) 1 (by rfl) gd_i) (q_bn (e := eI) 6) (fun x301 => q_yes) (fun x301 => (q_op (o_addT (e := eI)) (SimD.toE (q_var (e := (eT eI)) (a := x299) 5 (by rfl))) (SimD.toE (q_tup (e := (eT eI)) (g' := fun (b : Int × Unit) => [b.1]) (q_aS (e := eI) (q_var (e := eI) (a := x301) 6 (by rfl)) q_aN) rfl (fun _ => rfl) (fun _ => rfl))))))))) (fun s300 => (by exact (ls_k (ls_k (ls_k (ls_k (ls_k (ls_u (ls_k ls_n)))))))))))) (fun s297 =>
  (q_end (k := fun (s313 : (List (List Int))) => s313) (q_set (e := (eL (eT eI))) 2 (q_var (e := (eL (eT eI))) (a := s297) 4 (by rfl))) (fun s313 => (by exact (ls_k (ls_k (ls_k (ls_u (ls_u (ls_k (ls_k ls_n)))))))))))))))) (fun s288 =>
  (q_ret (e := (eL (eT eI))) (q_var (e := (eL (eT eI))) (a := s288) 2 (by rfl)))))))
    case hm =>
      intro a
      unfold t__law_rows; simp only [X.m_fn, X.m_seq, X.m_bind, X.m_ite, X.m_ok, X.m_exc, X.m_lc, X.m_lc2, X.m_for, X.m_wh, X.m_try, X.m_hnd, X.m_sure]
def t_set_sum (p_part : (List Int)) (p_signs : (List Int)) : X Int := let a := (p_part, p_signs, ())
  X.fn (σ := Unit) none (X.bind (X.bind (X.bind (X.bind (X.ok a.1) fun v327 =>
  (X.bind (X.lc (fun x326 => (X.ok true)) (fun x326 => (X.bind (X.ok a.2.1) fun v329 =>
  (X.bind (X.ok x326) fun v330 =>
  (X.of (L2.atI v329 v330))))) v327) fun v328 =>
  (X.of (limO v328)))) fun v331 =>
  (X.bind (X.ok ()) fun v332 =>
  (X.ok (v331, v332)))) fun v333 =>
  (X.of (some v333.1.sum))) fun v334 =>
  (X.ok (.ret v334)))
theorem ok_t_set_sum : FnX F_set_sum [.f, .f] (aC (eT eI) (aC (eT eI) aN)) eI (fun a : (List Int) × (List Int) × Unit => t_set_sum a.1 a.2.1) := by
    apply q_fn (es := fun _ : Unit => [.u, .u, .u]) (el := fun s => nomatch s) (k := 3) (body := c_set_sum) none (fun _ h => nomatch h)
    case h => intro c a; unfold c_set_sum; exact (q_ret (e := eI) (q_b b_sum (q_aF (e := (eL eI)) (SimD.toE (q_lc (e := eI) (e1 := eI) (vs := [2]) (SimI.j (q_ivT (e := eI) (q_varF (e := (eT eI)) (a := a.1) 0 (by rfl)))) (q_bn (e := eI) 2) (fun x326 => q_yes) (fun x326 => (q_op (o_ixT (e := eI)) (q_varF (e := (eT eI)) (a := a.2.1) 1 (by rfl)) (SimD.toE (q_var (e := eI) (a := x326) 2 (by rfl))))))) q_aN) rfl))
    case hm =>
      intro a
      unfold t_set_sum; simp only [X.m_fn, X.m_seq, X.m_bind, X.m_ite, X.m_ok, X.m_exc, X.m_lc, X.m_lc2, X.m_for, X.m_wh, X.m_try, X.m_hnd, X.m_sure]
def t_is_count (p_value : D) : X Bool := let a := (p_value, ())
  X.fn (σ := Unit) none (X.bind (X.bind (X.bind (X.ok a.1) fun v341 =>
  (X.of (isiD "int" v341))) fun v342 =>
  (if v342 = true then (X.bind (X.bind (X.bind (X.ok a.1) fun v338 =>
  (X.of (isiD "bool" v338))) fun v339 =>
  (X.ok (!v339))) fun v340 =>
  (if v340 = true then (X.bind (X.bind (X.ok a.1) fun v335 =>
  (X.of (asI v335))) fun v336 =>
  (X.bind (X.ok (0 : Int)) fun v337 =>
  (X.of (some (decide (v337 ≤ v336)))))) else (X.ok false))) else (X.ok false))) fun v343 =>
  (X.ok (.ret v343)))
theorem ok_t_is_count : FnX F_is_count [.f] (aC eD aN) eB (fun a : D × Unit => t_is_count a.1) := by
    apply q_fn (es := fun _ : Unit => [.u]) (el := fun s => nomatch s) (k := 1) (body := c_is_count) none (fun _ h => nomatch h)
    case h => intro c a; unfold c_is_count; exact (q_ret (e := eB) (q_and (SimD.toE (q_isi (q_varF (e := eD) (a := a.1) 0 (by rfl)))) (SimD.toE (q_and (SimD.toE (q_not (SimD.toE (q_isi (q_varF (e := eD) (a := a.1) 0 (by rfl)))))) (SimD.toE (q_op o_geI (q_asE asI_is (q_varF (e := eD) (a := a.1) 0 (by rfl))) (SimD.toE (q_const (e := eI) (a := (0 : Int)) rfl))))))))
    case hm =>
      intro a
      unfold t_is_count; simp only [X.m_fn, X.m_seq, X.m_bind, X.m_ite, X.m_ok, X.m_exc, X.m_lc, X.m_lc2, X.m_for, X.m_wh, X.m_try, X.m_hnd, X.m_sure]
def t_check_length (p_value : D) : X Unit := let a := (p_value, ())
  X.fn (σ := Unit) (some ()) (X.seq (X.bind (X.bind (X.bind (X.bind (X.ok a.1) fun v353 =>
  (X.bind (X.ok ()) fun v354 =>
  (X.ok (v353, v354)))) fun a355 =>
  (t_is_count a355.1)) fun v356 =>
  (X.ok (!v356))) fun v359 =>
  (if v359 = true then (X.bind (X.bind (X.ok ()) fun v357 =>
  (X.ok (eU v357))) fun v358 =>
  (X.exc "InvalidRow" v358)) else (X.ok (.next ())))) fun s352 => (X.ok (.next ())))
theorem ok_t_check_length : FnX F_check_length [.f] (aC eD aN) eU (fun a : D × Unit => t_check_length a.1) := by
    apply q_fn (es := fun _ : Unit => [.u]) (el := fun s => nomatch s) (k := 1) (body := c_check_length) (some ()) (fun _ _ => rfl)
    case h => intro c a; unfold c_check_length; exact (q_end (k := fun (s352 : Unit) => ()) (q_sif (es := fun (s352 : Unit) => [(.f (eD a.1))]) (q_tnot (q_truB (SimD.toE (q_call ok_t_is_count (q_aF (e := eD) (q_varF (e := eD) (a := a.1) 0 (by rfl)) q_aN) rfl)))) (q_raise (cn := "InvalidRow") (q_castD (e1 := eD) (g' := eU) (q_const (e := eU) (a := ()) rfl) (fun _ => rfl))) (q_skip (s := ()) (by exact (ls_k ls_n)))) (fun s352 => (by exact (ls_u ls_n))))
    case hm =>
      intro a
      unfold t_check_length; simp only [X.m_fn, X.m_seq, X.m_bind, X.m_ite, X.m_ok, X.m_exc, X.m_lc, X.m_lc2, X.m_for, X.m_wh, X.m_try, X.m_hnd, X.m_sure]
def t_multiple_sets (p_many : D) : X (List (List Int)) := let a := (p_many, ())
  X.fn (σ := Unit) none (X.seq (X.bind (X.bind (X.bind (X.ok a.1) fun v361 =>
  (X.bind (X.ok ()) fun v362 =>
  (X.ok (v361, v362)))) fun a363 =>
  (t_check_length a363.1)) fun v364 =>
  (X.ok (.next ()))) fun _s360 =>
  (X.seq (X.bind (X.bind (X.ok ()) fun v366 =>
  (X.bind (X.ok ()) fun v367 =>
  (X.ok (([] : List (List Int)), v367)))) fun v368 =>
  (X.ok (.next v368))) fun s365 =>
  (X.seq (X.bind (X.bind (X.bind (X.ok (1 : Int)) fun v377 =>
  (X.bind (X.bind (X.bind (X.bind (X.ok a.1) fun v372 =>
  (X.of (asI v372))) fun v373 =>
  (X.bind (X.ok (1 : Int)) fun v374 =>
  (X.of (some (v373 + v374))))) fun v375 =>
  (X.bind (X.ok ()) fun v376 =>
  (X.ok (v375, v376)))) fun v378 =>
  (X.ok (v377, v378)))) fun v379 =>
  (X.of (rg2 v379.1 v379.2.1))) fun v410 =>
  (X.for (fun (s370 : (List (List Int))) x371 => (X.seq (X.bind (X.bind (X.ok ()) fun v381 =>
  (X.ok ([] : List Int))) fun v382 =>
  (X.ok (.next v382))) fun s380 =>
  (X.seq (X.bind (X.bind (X.bind (X.ok x371) fun v393 =>
  (X.bind (X.bind (X.bind (X.bind (X.ok a.1) fun v386 =>
  (X.of (asI v386))) fun v387 =>
  (X.bind (X.ok (1 : Int)) fun v388 =>
  (X.of (some (v387 + v388))))) fun v391 =>
  (X.bind (X.bind (X.ok x371) fun v389 =>
  (X.bind (X.ok ()) fun v390 =>
  (X.ok (v389, v390)))) fun v392 =>
  (X.ok (v391, v392)))) fun v394 =>
  (X.ok (v393, v394)))) fun v395 =>
  (X.of (rg3 v395.1 v395.2.1 v395.2.2.1))) fun v409 =>
  (X.for (fun (s384 : (List Int) × (List (List Int))) x385 => (X.seq (X.bind (X.bind (X.ok s384.1) fun v402 =>
  (X.bind (X.bind (X.bind (X.bind (X.ok x385) fun v397 =>
  (X.bind (X.ok (1 : Int)) fun v398 =>
  (X.of (some (v397 - v398))))) fun v399 =>
  (X.bind (X.ok ()) fun v400 =>
  (X.ok (v399, v400)))) fun v401 =>
  (X.ok [v401.1])) fun v403 =>
  (X.of (catO v402 v403)))) fun v404 =>
  (X.ok (.next v404))) fun s396 =>
  (X.seq (X.bind (X.ok s396) fun v406 =>
  (X.bind (X.app s384.2 v406) fun v408 =>
  (X.ok (.next v408)))) fun s405 => (X.ok (.next (s396, s405)))))) v409 (s380, s370))) fun s383 => (X.ok (.next s383.2))))) v410 s365.1)) fun s369 =>
  (X.bind (X.bind (X.bind (X.ok s369) fun v411 =>
  (X.bind (X.ok ()) fun v412 =>
  (X.ok (v411, v412)))) fun v413 =>
  (X.of (some v413.1))) fun v414 =>
  (X.ok (.ret v414))))))
theorem ok_t_multiple_sets : FnX F_multiple_sets [.f] (aC eD aN) (eT (eT eI)) (fun a : D × Unit => t_multiple_sets a.1) := by
    apply q_fn (es := fun _ : Unit => [.u, .u, .u, .u, .u]) (el := fun s => nomatch s) (k := 5) (body := c_multiple_sets) none (fun _ h => nomatch h)
    case h => intro c a; unfold c_multiple_sets; exact (q_seq (q_expr (SimD.toE (q_call ok_t_check_length (q_aF (e := eD) (q_varF (e := eD) (a := a.1) 0 (by rfl)) q_aN) rfl))) (fun _s360 =>
  (q_seq (q_new (i := 1) (v_c (e := (eT eI)) (k := fun (b : Unit) => []) q_aN rfl (fun _ => rfl) (fun _ => rfl) v_nil)) (fun s365 =>
  (q_seq (q_for (e := eI) (es := fun (s370 : (List (List Int))) => [(.f (eD a.1)), (.c (s370.map (eT eI))), .u, .u, .u]) s365.1 (q_r2 (q_aF (e := eI) (SimD.toE (q_const (e := eI) (a := (1 : Int)) rfl)) (q_aF (e := eI) (SimD.toE (q_op o_addI (q_asE asI_is (q_varF (e := eD) (a := a.1) 0 (by rfl))) (SimD.toE (q_const (e := eI) (a := (1 : Int)) rfl)))) q_aN)) rfl) (by exact (ls_k (ls_k (ls_k (ls_k (ls_k ls_n)))))) (q_bn (e := eI) 2) (fun s370 x371 =>
  (q_seq (q_set (e := (eT eI)) 3 (q_tup (e := (eT eI)) (g' := fun (_ : Unit) => []) q_aN rfl (fun _ => rfl) (fun _ => rfl))) (fun s380 =>
  (q_end (k := fun (s383 : (List Int) × (List (List Int))) => s383.2) (q_for (e := eI) (es := fun (s384 : (List Int) × (List (List Int))) => [(.f (eD a.1)), (.c (s384.2.map (eT eI))), (.d (eI x371)), (.d ((eT eI) s384.1)), .u]) (s380, s370) (q_r3 (q_aF (e := eI) (SimD.toE (q_var (e := eI) (a := x371) 2 (by rfl))) (q_aF (e := eI) (SimD.toE (q_op o_addI (q_asE asI_is (q_varF (e := eD) (a := a.1) 0 (by rfl))) (SimD.toE (q_const (e := eI) (a := (1 : Int)) rfl)))) (q_aF (e := eI) (SimD.toE (q_var (e := eI) (a := x371) 2 (by rfl))) q_aN))) rfl) (by exact (ls_k (ls_k (ls_k (ls_k (ls_k ls_n)))))) (q_bn (e := eI) 4) (fun s384 x385 =>
  (q_seq (q_set (e := (eT eI)) 3 (q_op (o_addT (e := eI)) (SimD.toE (q_var (e := (eT eI)) (a := s384.1) 3 (by rfl))) (SimD.toE (q_tup (e := (eT eI)) (g' := fun (b : Int × Unit) => [b.1]) (q_aS (e := eI) (q_op o_subI (SimD.toE (q_var (e := eI) (a := x385) 4 (by rfl))) (SimD.toE (q_const (e := eI) (a := (1 : Int)) rfl))) q_aN) rfl (fun _ => rfl) (fun _ => rfl))))) (fun s396 =>
  (q_end (k := fun (s405 : (List (List Int))) => (s396, s405)) (q_app (e1 := (eT eI)) (xs := s384.2) 1 (by rfl) (q_var (e := (eT eI)) (a := s396) 3 (by rfl))) (fun s405 => (by exact (ls_k (ls_k (ls_k (ls_k (ls_u ls_n)))))))))))) (fun s383 => (by exact (ls_k (ls_k (ls_u (ls_u (ls_k ls_n)))))))))))) (fun s369 =>
  (q_ret (e := (eT (eT eI))) (q_b (b_tupL (e := (eT eI))) (q_aF (e := (eL (eT eI))) (q_varC (e := (eT eI)) (xs := s369) 1 (by rfl)) q_aN) rfl))))))))
    case hm =>
      intro a
      unfold t_multiple_sets; simp only [X.m_fn, X.m_seq, X.m_bind, X.m_ite, X.m_ok, X.m_exc, X.m_lc, X.m_lc2, X.m_for, X.m_wh, X.m_try, X.m_hnd, X.m_sure]
def t_multiple_gap (p_signs : (List Int)) : X Int := let a := (p_signs, ())
  X.fn (σ := Unit) none (X.bind (X.bind (X.bind (X.bind (X.bind (X.bind (X.bind (X.bind (X.ok a.1) fun v436 =>
  (X.bind (X.ok ()) fun v437 =>
  (X.ok (v436, v437)))) fun v438 =>
  (X.of (some (v438.1.length : Int)))) fun v439 =>
  (X.ok (eI v439))) fun v440 =>
  (X.bind (X.ok ()) fun v441 =>
  (X.ok (v440, v441)))) fun a442 =>
  (t_multiple_sets a442.1)) fun v444 =>
  (X.bind (X.lc (fun x443 => (X.ok true)) (fun x443 => (X.bind (X.bind (X.bind (X.bind (X.ok x443) fun v448 =>
  (X.bind (X.bind (X.ok a.1) fun v446 =>
  (X.bind (X.ok ()) fun v447 =>
  (X.ok (v446, v447)))) fun v449 =>
  (X.ok (v448, v449)))) fun a450 =>
  (t_set_sum a450.1 a450.2.1)) fun v451 =>
  (X.bind (X.ok ()) fun v452 =>
  (X.ok (v451, v452)))) fun v453 =>
  (X.of (some (absT v453.1))))) v444) fun v445 =>
  (X.of (limO v445)))) fun v454 =>
  (X.bind (X.ok (0 : Int)) fun v455 =>
  (X.of (some ((maxL v454).getD v455))))) fun v456 =>
  (X.ok (.ret v456)))
theorem ok_t_multiple_gap : FnX F_multiple_gap [.f] (aC (eT eI) aN) eI (fun a : (List Int) × Unit => t_multiple_gap a.1) := by
    apply q_fn (es := fun _ : Unit => [.u, .u]) (el := fun s => nomatch s) (k := 2) (body := c_multiple_gap) none (fun _ h => nomatch h)
    case h => intro c a; unfold c_multiple_gap; exact (q_ret (e := eI) (q_op o_maxD (SimD.toE (q_lc (e := (eT eI)) (e1 := eI) (vs := [1]) (SimI.j (q_ivT (e := (eT eI)) (SimD.toE (q_call ok_t_multiple_sets (q_aF (e := eD) (SimD.toE (q_castD (e1 := eD) (g' := eI) (q_b (b_lenT (e := eI)) (q_aF (e := (eT eI)) (q_varF (e := (eT eI)) (a := a.1) 0 (by rfl)) q_aN) rfl) (fun _ => rfl))) q_aN) rfl)))) (q_bn (e := (eT eI)) 1) (fun x443 => q_yes) (fun x443 => (q_b b_absI (q_aF (e := eI) (SimD.toE (q_call ok_t_set_sum (q_aF (e := (eT eI)) (SimD.toE (q_var (e := (eT eI)) (a := x443) 1 (by rfl))) (q_aF (e := (eT eI)) (q_varF (e := (eT eI)) (a := a.1) 0 (by rfl)) q_aN)) rfl)) q_aN) rfl)))) (SimD.toE (q_const (e := eI) (a := (0 : Int)) rfl))))
    case hm =>
      intro a
      unfold t_multiple_gap; simp only [X.m_fn, X.m_seq, X.m_bind, X.m_ite, X.m_ok, X.m_exc, X.m_lc, X.m_lc2, X.m_for, X.m_wh, X.m_try, X.m_hnd, X.m_sure]
def t__law_gap (p_parts : (List (List Int))) (p_signs : (List Int)) : X Int := let a := (p_parts, p_signs, ())
  X.fn (σ := Unit) none (X.bind (X.bind (X.bind (X.bind (X.bind (X.ok a.1) fun v481 =>
  (X.bind (X.lc (fun x480 => (X.ok true)) (fun x480 => (X.bind (X.bind (X.bind (X.bind (X.bind (X.ok x480) fun v484 =>
  (X.bind (X.lc (fun x483 => (X.ok true)) (fun x483 => (X.bind (X.ok a.2.1) fun v486 =>
  (X.bind (X.ok x483) fun v487 =>
  (X.of (L2.atI v486 v487))))) v484) fun v485 =>
  (X.of (limO v485)))) fun v488 =>
  (X.bind (X.ok ()) fun v489 =>
  (X.ok (v488, v489)))) fun v490 =>
  (X.of (some v490.1.sum))) fun v491 =>
  (X.bind (X.ok ()) fun v492 =>
  (X.ok (v491, v492)))) fun v493 =>
  (X.of (some (absT v493.1))))) v481) fun v482 =>
  (X.of (limO v482)))) fun v497 =>
  (X.bind (X.bind (X.bind (X.ok (0 : Int)) fun v494 =>
  (X.bind (X.ok ()) fun v495 =>
  (X.ok (v494, v495)))) fun v496 =>
  (X.ok [v496.1])) fun v498 =>
  (X.of (catO v497 v498)))) fun v499 =>
  (X.bind (X.ok ()) fun v500 =>
  (X.ok (v499, v500)))) fun v501 =>
  (X.of (maxL v501.1))) fun v502 =>
  (X.ok (.ret v502)))
theorem ok_t__law_gap : FnX F__law_gap [.f, .f] (aC (eL (eT eI)) (aC (eT eI) aN)) eI (fun a : (List (List Int)) × (List Int) × Unit => t__law_gap a.1 a.2.1) := by
    apply q_fn (es := fun _ : Unit => [.u, .u, .u, .u]) (el := fun s => nomatch s) (k := 4) (body := c__law_gap) none (fun _ h => nomatch h)
    case h => intro c a; unfold c__law_gap; exact (q_ret (e := eI) (q_b b_maxL (q_aF (e := (eL eI)) (SimD.toE (q_op (o_addL (e := eI)) (SimD.toE (q_lc (e := (eT eI)) (e1 := eI) (vs := [2]) (q_ivF (e := (eT eI)) (xs := a.1) 0 (by rfl) (gd_t gd_i)) (q_bn (e := (eT eI)) 2) (fun x480 => q_yes) (fun x480 => (q_b b_absI (q_aF (e := eI) (SimD.toE (q_b b_sum (q_aF (e := (eL eI)) (SimD.toE (q_lc (e := eI) (e1 := eI) (vs := [3]) (SimI.j (q_ivT (e := eI) (SimD.toE (q_var (e := (eT eI)) (a := x480) 2 (by rfl))))) (q_bn (e := eI) 3) (fun x483 => q_yes) (fun x483 => (q_op (o_ixT (e := eI)) (q_varF (e := (eT eI)) (a := a.2.1) 1 (by rfl)) (SimD.toE (q_var (e := eI) (a := x483) 3 (by rfl))))))) q_aN) rfl)) q_aN) rfl)))) (SimD.toE (q_lst (e := (eL eI)) (g' := fun (b : Int × Unit) => [b.1]) (q_aS (e := eI) (q_const (e := eI) (a := (0 : Int)) rfl) q_aN) rfl (fun _ => rfl) (fun _ => rfl))))) q_aN) rfl))
    case hm =>
      intro a
      unfold t__law_gap; simp only [X.m_fn, X.m_seq, X.m_bind, X.m_ite, X.m_ok, X.m_exc, X.m_lc, X.m_lc2, X.m_for, X.m_wh, X.m_try, X.m_hnd, X.m_sure]
def t__law_sign (p_number : Int) : X Int := let a := (p_number, ())
  X.fn (σ := Unit) none (X.seq (X.wh (fun (s538 : Int) => (X.bind (X.bind (X.bind (X.bind (X.ok s538) fun v540 =>
  (X.bind (X.ok ()) fun v541 =>
  (X.ok (v540, v541)))) fun v542 =>
  (X.of (some v542.1))) fun v543 =>
  (X.bind (X.ok (3 : Int)) fun v544 =>
  (X.of (modO v543 v544)))) fun v545 =>
  (X.bind (X.ok (0 : Int)) fun v546 =>
  (X.of (some (decide (v545 = v546))))))) (fun (s538 : Int) => (X.seq (X.bind (X.bind (X.ok s538) fun v548 =>
  (X.bind (X.ok (3 : Int)) fun v549 =>
  (X.of (divO v548 v549)))) fun v550 =>
  (X.ok (.next v550))) fun s547 => (X.ok (.next s547)))) fuel a.1) fun s537 =>
  (X.bind (X.bind (X.bind (X.bind (X.bind (X.ok (0 : Int)) fun v551 =>
  (X.bind (X.ok (1 : Int)) fun v552 =>
  (X.of (some (v551 - v552))))) fun v555 =>
  (X.bind (X.bind (X.ok (1 : Int)) fun v553 =>
  (X.bind (X.ok ()) fun v554 =>
  (X.ok (v553, v554)))) fun v556 =>
  (X.ok (v555, v556)))) fun v557 =>
  (X.ok [v557.1, v557.2.1])) fun v568 =>
  (X.bind (X.bind (X.bind (X.bind (X.bind (X.bind (X.bind (X.ok s537) fun v558 =>
  (X.bind (X.ok ()) fun v559 =>
  (X.ok (v558, v559)))) fun v560 =>
  (X.of (some v560.1))) fun v561 =>
  (X.bind (X.ok (3 : Int)) fun v562 =>
  (X.of (modO v561 v562)))) fun v563 =>
  (X.bind (X.ok (1 : Int)) fun v564 =>
  (X.of (some (decide (v563 = v564)))))) fun v565 =>
  (X.bind (X.ok ()) fun v566 =>
  (X.ok (v565, v566)))) fun v567 =>
  (X.of (some (if v567.1 = true then 1 else 0)))) fun v569 =>
  (X.of (L2.atI v568 v569)))) fun v570 =>
  (X.ok (.ret v570))))
theorem ok_t__law_sign : FnX F__law_sign [.s] (aC eI aN) eI (fun a : Int × Unit => t__law_sign a.1) := by
    apply q_fn (es := fun _ : Unit => [.u]) (el := fun s => nomatch s) (k := 1) (body := c__law_sign) none (fun _ h => nomatch h)
    case h => intro c a; unfold c__law_sign; exact (q_seq (q_wh (es := fun (s538 : Int) => [(.d (eI s538))]) a.1 (by exact (ls_k ls_n)) (fun s538 => (q_tr (SimD.toE (q_op o_eqI (SimD.toE (q_op o_modI (SimD.toE (q_b b_intI (q_aF (e := eI) (SimD.toE (q_var (e := eI) (a := s538) 0 (by rfl))) q_aN) rfl)) (SimD.toE (q_const (e := eI) (a := (3 : Int)) rfl)))) (SimD.toE (q_const (e := eI) (a := (0 : Int)) rfl)))))) (fun s538 =>
  (q_end (k := fun (s547 : Int) => s547) (q_set (e := eI) 0 (q_op o_divI (SimD.toE (q_var (e := eI) (a := s538) 0 (by rfl))) (SimD.toE (q_const (e := eI) (a := (3 : Int)) rfl)))) (fun s547 => (by exact (ls_k ls_n)))))) (fun s537 =>
  (q_ret (e := eI) (q_op (o_ixL (e := eI)) (SimD.toE (q_lst (e := (eL eI)) (g' := fun (b : Int × Int × Unit) => [b.1, b.2.1]) (q_aS (e := eI) (q_op o_subI (SimD.toE (q_const (e := eI) (a := (0 : Int)) rfl)) (SimD.toE (q_const (e := eI) (a := (1 : Int)) rfl))) (q_aS (e := eI) (q_const (e := eI) (a := (1 : Int)) rfl) q_aN)) rfl (fun _ => rfl) (fun _ => rfl))) (SimD.toE (q_b b_intB (q_aF (e := eB) (SimD.toE (q_op o_eqI (SimD.toE (q_op o_modI (SimD.toE (q_b b_intI (q_aF (e := eI) (SimD.toE (q_var (e := eI) (a := s537) 0 (by rfl))) q_aN) rfl)) (SimD.toE (q_const (e := eI) (a := (3 : Int)) rfl)))) (SimD.toE (q_const (e := eI) (a := (1 : Int)) rfl)))) q_aN) rfl))))))
    case hm =>
      intro a
      unfold t__law_sign; simp only [X.m_fn, X.m_seq, X.m_bind, X.m_ite, X.m_ok, X.m_exc, X.m_lc, X.m_lc2, X.m_for, X.m_wh, X.m_try, X.m_hnd, X.m_sure]
def t_is_product_signs (p_signs : (List Int)) : X Bool := let a := (p_signs, ())
  X.fn (σ := Unit) none (X.seq (X.bind (X.bind (X.bind (X.ok a.1) fun v623 =>
  (X.bind (X.ok ()) fun v624 =>
  (X.ok (v623, v624)))) fun v625 =>
  (X.of (some (v625.1.length : Int)))) fun v626 =>
  (X.ok (.next v626))) fun s622 =>
  (X.seq (X.bind (X.bind (X.bind (X.ok (1 : Int)) fun v634 =>
  (X.bind (X.bind (X.bind (X.ok s622) fun v630 =>
  (X.bind (X.ok (1 : Int)) fun v631 =>
  (X.of (some (v630 + v631))))) fun v632 =>
  (X.bind (X.ok ()) fun v633 =>
  (X.ok (v632, v633)))) fun v635 =>
  (X.ok (v634, v635)))) fun v636 =>
  (X.of (rg2 v636.1 v636.2.1))) fun v671 =>
  (X.for (fun (s628 : Unit) x629 => (X.seq (X.bind (X.bind (X.bind (X.ok (1 : Int)) fun v646 =>
  (X.bind (X.bind (X.bind (X.bind (X.ok s622) fun v640 =>
  (X.bind (X.ok x629) fun v641 =>
  (X.of (divO v640 v641)))) fun v642 =>
  (X.bind (X.ok (1 : Int)) fun v643 =>
  (X.of (some (v642 + v643))))) fun v644 =>
  (X.bind (X.ok ()) fun v645 =>
  (X.ok (v644, v645)))) fun v647 =>
  (X.ok (v646, v647)))) fun v648 =>
  (X.of (rg2 v648.1 v648.2.1))) fun v670 =>
  (X.for (fun (s638 : Unit) x639 => (X.seq (X.bind (X.bind (X.bind (X.ok a.1) fun v654 =>
  (X.bind (X.bind (X.bind (X.ok x629) fun v650 =>
  (X.bind (X.ok x639) fun v651 =>
  (X.of (mulO v650 v651)))) fun v652 =>
  (X.bind (X.ok (1 : Int)) fun v653 =>
  (X.of (some (v652 - v653))))) fun v655 =>
  (X.of (L2.atI v654 v655)))) fun v666 =>
  (X.bind (X.bind (X.bind (X.ok a.1) fun v658 =>
  (X.bind (X.bind (X.ok x629) fun v656 =>
  (X.bind (X.ok (1 : Int)) fun v657 =>
  (X.of (some (v656 - v657))))) fun v659 =>
  (X.of (L2.atI v658 v659)))) fun v664 =>
  (X.bind (X.bind (X.ok a.1) fun v662 =>
  (X.bind (X.bind (X.ok x639) fun v660 =>
  (X.bind (X.ok (1 : Int)) fun v661 =>
  (X.of (some (v660 - v661))))) fun v663 =>
  (X.of (L2.atI v662 v663)))) fun v665 =>
  (X.of (mulO v664 v665)))) fun v667 =>
  (X.of (some (!decide (v666 = v667)))))) fun v669 =>
  (if v669 = true then (X.bind (X.ok false) fun v668 =>
  (X.ok (.ret v668))) else (X.ok (.next ())))) fun s649 => (X.ok (.next ())))) v670 ())) fun s637 => (X.ok (.next ())))) v671 ())) fun s627 =>
  (X.bind (X.ok true) fun v672 =>
  (X.ok (.ret v672)))))
theorem ok_t_is_product_signs : FnX F_is_product_signs [.f] (aC (eT eI) aN) eB (fun a : (List Int) × Unit => t_is_product_signs a.1) := by
    apply q_fn (es := fun _ : Unit => [.u, .u, .u, .u]) (el := fun s => nomatch s) (k := 4) (body := c_is_product_signs) none (fun _ h => nomatch h)
    case h => intro c a; unfold c_is_product_signs; exact (q_seq (q_set (e := eI) 1 (q_b (b_lenT (e := eI)) (q_aF (e := (eT eI)) (q_varF (e := (eT eI)) (a := a.1) 0 (by rfl)) q_aN) rfl)) (fun s622 =>
  (q_seq (q_for (e := eI) (es := fun (s628 : Unit) => [(.f ((eT eI) a.1)), (.d (eI s622)), .u, .u]) () (q_r2 (q_aF (e := eI) (SimD.toE (q_const (e := eI) (a := (1 : Int)) rfl)) (q_aF (e := eI) (SimD.toE (q_op o_addI (SimD.toE (q_var (e := eI) (a := s622) 1 (by rfl))) (SimD.toE (q_const (e := eI) (a := (1 : Int)) rfl)))) q_aN)) rfl) (by exact (ls_k (ls_k (ls_k (ls_k ls_n))))) (q_bn (e := eI) 2) (fun s628 x629 =>
  (q_end (k := fun (s637 : Unit) => ()) (q_for (e := eI) (es := fun (s638 : Unit) => [(.f ((eT eI) a.1)), (.d (eI s622)), (.d (eI x629)), .u]) () (q_r2 (q_aF (e := eI) (SimD.toE (q_const (e := eI) (a := (1 : Int)) rfl)) (q_aF (e := eI) (SimD.toE (q_op o_addI (SimD.toE (q_op o_divI (SimD.toE (q_var (e := eI) (a := s622) 1 (by rfl))) (SimD.toE (q_var (e := eI) (a := x629) 2 (by rfl))))) (SimD.toE (q_const (e := eI) (a := (1 : Int)) rfl)))) q_aN)) rfl) (by exact (ls_k (ls_k (ls_k (ls_k ls_n))))) (q_bn (e := eI) 3) (fun s638 x639 =>
  (q_end (k := fun (s649 : Unit) => ()) (q_sif (es := fun (s649 : Unit) => [(.f ((eT eI) a.1)), (.d (eI s622)), (.d (eI x629)), (.d (eI x639))]) (q_tr (SimD.toE (q_op o_neI (SimD.toE (q_op (o_ixT (e := eI)) (q_varF (e := (eT eI)) (a := a.1) 0 (by rfl)) (SimD.toE (q_op o_subI (SimD.toE (q_op o_mulI (SimD.toE (q_var (e := eI) (a := x629) 2 (by rfl))) (SimD.toE (q_var (e := eI) (a := x639) 3 (by rfl))))) (SimD.toE (q_const (e := eI) (a := (1 : Int)) rfl)))))) (SimD.toE (q_op o_mulI (SimD.toE (q_op (o_ixT (e := eI)) (q_varF (e := (eT eI)) (a := a.1) 0 (by rfl)) (SimD.toE (q_op o_subI (SimD.toE (q_var (e := eI) (a := x629) 2 (by rfl))) (SimD.toE (q_const (e := eI) (a := (1 : Int)) rfl)))))) (SimD.toE (q_op (o_ixT (e := eI)) (q_varF (e := (eT eI)) (a := a.1) 0 (by rfl)) (SimD.toE (q_op o_subI (SimD.toE (q_var (e := eI) (a := x639) 3 (by rfl))) (SimD.toE (q_const (e := eI) (a := (1 : Int)) rfl))))))))))) (q_ret (e := eB) (q_const (e := eB) (a := false) rfl)) (q_skip (s := ()) (by exact (ls_k (ls_k (ls_k (ls_k ls_n))))))) (fun s649 => (by exact (ls_k (ls_k (ls_k (ls_u ls_n))))))))) (fun s637 => (by exact (ls_k (ls_k (ls_u (ls_k ls_n))))))))) (fun s627 =>
  (q_ret (e := eB) (q_const (e := eB) (a := true) rfl))))))
    case hm =>
      intro a
      unfold t_is_product_signs; simp only [X.m_fn, X.m_seq, X.m_bind, X.m_ite, X.m_ok, X.m_exc, X.m_lc, X.m_lc2, X.m_for, X.m_wh, X.m_try, X.m_hnd, X.m_sure]
def t_is_part (p_value : D) (p_many : Int) : X Bool := let a := (p_value, p_many, ())
  X.fn (σ := Unit) none (X.seq (X.bind (X.bind (X.bind (X.bind (X.ok a.1) fun v693 =>
  (X.of (isiD "tuple" v693))) fun v694 =>
  (X.ok (!v694))) fun v695 =>
  (if v695 = true then (X.ok true) else (X.bind (X.bind (X.ok a.1) fun v690 =>
  (X.bind (X.bind (X.ok ()) fun v689 =>
  (X.ok ([] : List D))) fun v691 =>
  (X.of (eqD (eD v690) ((eT eD) v691))))) fun v692 =>
  (if v692 = true then (X.ok true) else (X.bind (X.bind (X.bind (X.bind (X.bind (X.ok a.1) fun v674 =>
  (X.of (itD v674))) fun v676 =>
  (X.bind (X.lc (fun x675 => (X.ok true)) (fun x675 => (X.bind (X.bind (X.bind (X.ok x675) fun v681 =>
  (X.bind (X.ok ()) fun v682 =>
  (X.ok (v681, v682)))) fun a683 =>
  (t_is_count a683.1)) fun v684 =>
  (if v684 = true then (X.bind (X.bind (X.ok x675) fun v678 =>
  (X.of (asI v678))) fun v679 =>
  (X.bind (X.ok a.2.1) fun v680 =>
  (X.of (some (decide (v679 < v680)))))) else (X.ok false)))) v676) fun v677 =>
  (X.of (limO v677)))) fun v685 =>
  (X.bind (X.ok ()) fun v686 =>
  (X.ok (v685, v686)))) fun v687 =>
  (X.of (some (v687.1.all id)))) fun v688 =>
  (X.ok (!v688))))))) fun v697 =>
  (if v697 = true then (X.bind (X.ok false) fun v696 =>
  (X.ok (.ret v696))) else (X.ok (.next ())))) fun s673 =>
  (X.bind (X.bind (X.bind (X.bind (X.bind (X.bind (X.bind (X.bind (X.bind (X.ok a.1) fun v698 =>
  (X.bind (X.ok ()) fun v699 =>
  (X.ok (v698, v699)))) fun v700 =>
  (X.of (lenD v700.1))) fun v701 =>
  (X.bind (X.ok (1 : Int)) fun v702 =>
  (X.of (some (v701 - v702))))) fun v703 =>
  (X.bind (X.ok ()) fun v704 =>
  (X.ok (v703, v704)))) fun v705 =>
  (X.of (rg1 v705.1))) fun v707 =>
  (X.bind (X.lc (fun x706 => (X.ok true)) (fun x706 => (X.bind (X.bind (X.ok a.1) fun v709 =>
  (X.bind (X.ok x706) fun v710 =>
  (X.of (dIx (eD v709) (eI v710))))) fun v715 =>
  (X.bind (X.bind (X.ok a.1) fun v713 =>
  (X.bind (X.bind (X.ok x706) fun v711 =>
  (X.bind (X.ok (1 : Int)) fun v712 =>
  (X.of (some (v711 + v712))))) fun v714 =>
  (X.of (dIx (eD v713) (eI v714))))) fun v716 =>
  (X.of (ltD (eD v715) (eD v716)))))) v707) fun v708 =>
  (X.of (limO v708)))) fun v717 =>
  (X.bind (X.ok ()) fun v718 =>
  (X.ok (v717, v718)))) fun v719 =>
  (X.of (some (v719.1.all id)))) fun v720 =>
  (X.ok (.ret v720))))
theorem ok_t_is_part : FnX F_is_part [.s, .f] (aC eD (aC eI aN)) eB (fun a : D × Int × Unit => t_is_part a.1 a.2.1) := by
    apply q_fn (es := fun _ : Unit => [.u, .u, .u, .u]) (el := fun s => nomatch s) (k := 4) (body := c_is_part) none (fun _ h => nomatch h)
    case h => intro c a; unfold c_is_part; exact (q_seq (q_sif (es := fun (s673 : Unit) => [(.d (eD a.1)), (.f (eI a.2.1)), .u, .u]) (q_tor (q_tnot (q_truB (SimD.toE (q_isi (SimD.toE (q_var (e := eD) (a := a.1) 0 (by rfl))))))) (q_tor (q_tr (SimD.toE (q_op (o_eq (e := eD) (e1 := (eT eD))) (SimD.toE (q_var (e := eD) (a := a.1) 0 (by rfl))) (SimD.toE (q_tup (e := (eT eD)) (g' := fun (_ : Unit) => []) q_aN rfl (fun _ => rfl) (fun _ => rfl)))))) (q_tnot (q_truB (SimD.toE (q_b b_all (q_aF (e := (eL eB)) (SimD.toE (q_lc (e := eD) (e1 := eB) (vs := [3]) (SimI.j (q_ivD (q_var (e := eD) (a := a.1) 0 (by rfl)))) (q_bn (e := eD) 3) (fun x675 => q_yes) (fun x675 => (q_and (SimD.toE (q_call ok_t_is_count (q_aF (e := eD) (SimD.toE (q_var (e := eD) (a := x675) 3 (by rfl))) q_aN) rfl)) (SimD.toE (q_op o_ltI (SimD.toE (q_as asI_is (q_var (e := eD) (a := x675) 3 (by rfl)))) (q_varF (e := eI) (a := a.2.1) 1 (by rfl)))))))) q_aN) rfl)))))) (q_ret (e := eB) (q_const (e := eB) (a := false) rfl)) (q_skip (s := ()) (by exact (ls_k (ls_k (ls_k (ls_k ls_n))))))) (fun s673 =>
  (q_ret (e := eB) (q_b b_all (q_aF (e := (eL eB)) (SimD.toE (q_lc (e := eI) (e1 := eB) (vs := [2]) (SimI.j (q_r1 (q_aF (e := eI) (SimD.toE (q_op o_subI (SimD.toE (q_b b_lenD (q_aF (e := eD) (SimD.toE (q_var (e := eD) (a := a.1) 0 (by rfl))) q_aN) rfl)) (SimD.toE (q_const (e := eI) (a := (1 : Int)) rfl)))) q_aN) rfl)) (q_bn (e := eI) 2) (fun x706 => q_yes) (fun x706 => (q_op (o_lt (e := eD) (e1 := eD)) (SimD.toE (q_op (o_D (e := eD) (e1 := eI)) (SimD.toE (q_var (e := eD) (a := a.1) 0 (by rfl))) (SimD.toE (q_var (e := eI) (a := x706) 2 (by rfl))))) (SimD.toE (q_op (o_D (e := eD) (e1 := eI)) (SimD.toE (q_var (e := eD) (a := a.1) 0 (by rfl))) (SimD.toE (q_op o_addI (SimD.toE (q_var (e := eI) (a := x706) 2 (by rfl))) (SimD.toE (q_const (e := eI) (a := (1 : Int)) rfl)))))))))) q_aN) rfl))))
    case hm =>
      intro a
      unfold t_is_part; simp only [X.m_fn, X.m_seq, X.m_bind, X.m_ite, X.m_ok, X.m_exc, X.m_lc, X.m_lc2, X.m_for, X.m_wh, X.m_try, X.m_hnd, X.m_sure]
def t_check_family (p_many : Int) (p_family : D) : X Unit := let a := (p_many, p_family, ())
  X.fn (σ := Unit) (some ()) (X.seq (X.bind (X.bind (X.bind (X.bind (X.bind (X.bind (X.ok a.1) fun v724 =>
  (X.ok (eI v724))) fun v725 =>
  (X.bind (X.ok ()) fun v726 =>
  (X.ok (v725, v726)))) fun a727 =>
  (t_is_count a727.1)) fun v728 =>
  (X.ok (!v728))) fun v729 =>
  (if v729 = true then (X.ok true) else (X.bind (X.bind (X.ok a.2.1) fun v722 =>
  (X.of (isiD "tuple" v722))) fun v723 =>
  (X.ok (!v723))))) fun v732 =>
  (if v732 = true then (X.bind (X.bind (X.ok ()) fun v730 =>
  (X.ok (eU v730))) fun v731 =>
  (X.exc "InvalidFamily" v731)) else (X.ok (.next ())))) fun s721 =>
  (X.seq (X.bind (X.bind (X.bind (X.bind (X.bind (X.ok a.2.1) fun v736 =>
  (X.bind (X.ok ()) fun v737 =>
  (X.ok (v736, v737)))) fun v738 =>
  (X.of (lenD v738.1))) fun v739 =>
  (X.bind (X.ok ()) fun v740 =>
  (X.ok (v739, v740)))) fun v741 =>
  (X.of (rg1 v741.1))) fun v754 =>
  (X.for (fun (s734 : Unit) x735 => (X.seq (X.bind (X.bind (X.bind (X.bind (X.bind (X.ok a.2.1) fun v743 =>
  (X.bind (X.ok x735) fun v744 =>
  (X.of (dIx (eD v743) (eI v744))))) fun v747 =>
  (X.bind (X.bind (X.ok a.1) fun v745 =>
  (X.bind (X.ok ()) fun v746 =>
  (X.ok (v745, v746)))) fun v748 =>
  (X.ok (v747, v748)))) fun a749 =>
  (t_is_part a749.1 a749.2.1)) fun v750 =>
  (X.ok (!v750))) fun v753 =>
  (if v753 = true then (X.bind (X.bind (X.ok x735) fun v751 =>
  (X.ok (eI v751))) fun v752 =>
  (X.exc "InvalidFamily" v752)) else (X.ok (.next ())))) fun s742 => (X.ok (.next ())))) v754 ())) fun s733 => (X.ok (.next ()))))
theorem ok_t_check_family : FnX F_check_family [.f, .f] (aC eI (aC eD aN)) eU (fun a : Int × D × Unit => t_check_family a.1 a.2.1) := by
    apply q_fn (es := fun _ : Unit => [.u, .u, .u]) (el := fun s => nomatch s) (k := 3) (body := c_check_family) (some ()) (fun _ _ => rfl)
    case h => intro c a; unfold c_check_family; exact (q_seq (q_sif (es := fun (s721 : Unit) => [(.f (eI a.1)), (.f (eD a.2.1)), .u]) (q_tor (q_tnot (q_truB (SimD.toE (q_call ok_t_is_count (q_aF (e := eD) (q_cast (e1 := eD) (g' := eI) (q_varF (e := eI) (a := a.1) 0 (by rfl)) (fun _ => rfl)) q_aN) rfl)))) (q_tnot (q_truB (SimD.toE (q_isi (q_varF (e := eD) (a := a.2.1) 1 (by rfl))))))) (q_raise (cn := "InvalidFamily") (q_castD (e1 := eD) (g' := eU) (q_const (e := eU) (a := ()) rfl) (fun _ => rfl))) (q_skip (s := ()) (by exact (ls_k (ls_k (ls_k ls_n)))))) (fun s721 =>
  (q_end (k := fun (s733 : Unit) => ()) (q_for (e := eI) (es := fun (s734 : Unit) => [(.f (eI a.1)), (.f (eD a.2.1)), .u]) () (q_r1 (q_aF (e := eI) (SimD.toE (q_b b_lenD (q_aF (e := eD) (q_varF (e := eD) (a := a.2.1) 1 (by rfl)) q_aN) rfl)) q_aN) rfl) (by exact (ls_k (ls_k (ls_k ls_n)))) (q_bn (e := eI) 2) (fun s734 x735 =>
  (q_end (k := fun (s742 : Unit) => ()) (q_sif (es := fun (s742 : Unit) => [(.f (eI a.1)), (.f (eD a.2.1)), (.d (eI x735))]) (q_tnot (q_truB (SimD.toE (q_call ok_t_is_part (q_aS (e := eD) (q_op (o_D (e := eD) (e1 := eI)) (q_varF (e := eD) (a := a.2.1) 1 (by rfl)) (SimD.toE (q_var (e := eI) (a := x735) 2 (by rfl)))) (q_aF (e := eI) (q_varF (e := eI) (a := a.1) 0 (by rfl)) q_aN)) rfl)))) (q_raise (cn := "InvalidFamily") (q_castD (e1 := eD) (g' := eI) (q_var (e := eI) (a := x735) 2 (by rfl)) (fun _ => rfl))) (q_skip (s := ()) (by exact (ls_k (ls_k (ls_k ls_n)))))) (fun s742 => (by exact (ls_k (ls_k (ls_u ls_n)))))))) (fun s733 => (by exact (ls_u (ls_u (ls_k ls_n))))))))
    case hm =>
      intro a
      unfold t_check_family; simp only [X.m_fn, X.m_seq, X.m_bind, X.m_ite, X.m_ok, X.m_exc, X.m_lc, X.m_lc2, X.m_for, X.m_wh, X.m_try, X.m_hnd, X.m_sure]
def t_over_set (p_family : (List (List Int))) (p_gap : Int) (p_row : (List Int)) : X D := let a := (p_family, p_gap, p_row, ())
  X.fn (σ := Unit) none (X.seq (X.bind (X.bind (X.bind (X.bind (X.bind (X.ok a.1) fun v758 =>
  (X.bind (X.ok ()) fun v759 =>
  (X.ok (v758, v759)))) fun v760 =>
  (X.of (some (v760.1.length : Int)))) fun v761 =>
  (X.bind (X.ok ()) fun v762 =>
  (X.ok (v761, v762)))) fun v763 =>
  (X.of (rg1 v763.1))) fun v802 =>
  (X.for (fun (s756 : Unit) x757 => (X.seq (X.bind (X.bind (X.bind (X.ok a.1) fun v765 =>
  (X.bind (X.ok x757) fun v766 =>
  (X.of (L2.atI v765 v766)))) fun v773 =>
  (X.bind (X.lc (fun x767 => (X.bind (X.ok x767) fun v771 =>
  (X.bind (X.bind (X.bind (X.ok a.2.2.1) fun v768 =>
  (X.bind (X.ok ()) fun v769 =>
  (X.ok (v768, v769)))) fun v770 =>
  (X.of (some (v770.1.length : Int)))) fun v772 =>
  (X.of (some (decide (v771 < v772))))))) (fun x767 => (X.bind (X.ok a.2.2.1) fun v775 =>
  (X.bind (X.ok x767) fun v776 =>
  (X.of (L2.atI v775 v776))))) v773) fun v774 =>
  (X.of (limO v774)))) fun v777 =>
  (X.ok (.next v777))) fun s764 =>
  (X.seq (X.bind (X.bind (X.bind (X.bind (X.bind (X.bind (X.bind (X.ok s764) fun v779 =>
  (X.bind (X.ok ()) fun v780 =>
  (X.ok (v779, v780)))) fun v781 =>
  (X.of (some v781.1.sum))) fun v782 =>
  (X.bind (X.ok ()) fun v783 =>
  (X.ok (v782, v783)))) fun v784 =>
  (X.of (some (absT v784.1)))) fun v795 =>
  (X.bind (X.bind (X.bind (X.bind (X.bind (X.ok a.1) fun v785 =>
  (X.bind (X.ok x757) fun v786 =>
  (X.of (L2.atI v785 v786)))) fun v787 =>
  (X.bind (X.ok ()) fun v788 =>
  (X.ok (v787, v788)))) fun v789 =>
  (X.of (some (v789.1.length : Int)))) fun v793 =>
  (X.bind (X.bind (X.bind (X.ok s764) fun v790 =>
  (X.bind (X.ok ()) fun v791 =>
  (X.ok (v790, v791)))) fun v792 =>
  (X.of (some (v792.1.length : Int)))) fun v794 =>
  (X.of (some (v793 - v794))))) fun v796 =>
  (X.of (some (v795 - v796))))) fun v797 =>
  (X.bind (X.ok a.2.1) fun v798 =>
  (X.of (some (decide (v798 < v797)))))) fun v801 =>
  (if v801 = true then (X.bind (X.bind (X.ok x757) fun v799 =>
  (X.ok (eI v799))) fun v800 =>
  (X.ok (.ret v800))) else (X.ok (.next ())))) fun s778 => (X.ok (.next ()))))) v802 ())) fun s755 =>
  (X.bind (X.bind (X.ok ()) fun v803 =>
  (X.ok (eU v803))) fun v804 =>
  (X.ok (.ret v804))))
theorem ok_t_over_set : FnX F_over_set [.f, .f, .f] (aC (eT (eT eI)) (aC eI (aC (eT eI) aN))) eD (fun a : (List (List Int)) × Int × (List Int) × Unit => t_over_set a.1 a.2.1 a.2.2.1) := by
    apply q_fn (es := fun _ : Unit => [.u, .u, .u, .u, .u, .u]) (el := fun s => nomatch s) (k := 6) (body := c_over_set) none (fun _ h => nomatch h)
    case h => intro c a; unfold c_over_set; exact (q_seq (q_for (e := eI) (es := fun (s756 : Unit) => [(.f ((eT (eT eI)) a.1)), (.f (eI a.2.1)), (.f ((eT eI) a.2.2.1)), .u, .u, .u]) () (q_r1 (q_aF (e := eI) (SimD.toE (q_b (b_lenT (e := (eT eI))) (q_aF (e := (eT (eT eI))) (q_varF (e := (eT (eT eI))) (a := a.1) 0 (by rfl)) q_aN) rfl)) q_aN) rfl) (by exact (ls_k (ls_k (ls_k (ls_k (ls_k (ls_k ls_n))))))) (q_bn (e := eI) 3) (fun s756 x757 =>
  (q_seq (q_set (e := (eL eI)) 4 (q_lc (e := eI) (e1 := eI) (vs := [5]) (SimI.j (q_ivT (e := eI) (SimD.toE (q_op (o_ixT (e := (eT eI))) (q_varF (e := (eT (eT eI))) (a := a.1) 0 (by rfl)) (SimD.toE (q_var (e := eI) (a := x757) 3 (by rfl))))))) (q_bn (e := eI) 5) (fun x767 => (q_tr (SimD.toE (q_op o_ltI (SimD.toE (q_var (e := eI) (a := x767) 5 (by rfl))) (SimD.toE (q_b (b_lenT (e := eI)) (q_aF (e := (eT eI)) (q_varF (e := (eT eI)) (a := a.2.2.1) 2 (by rfl)) q_aN) rfl)))))) (fun x767 => (q_op (o_ixT (e := eI)) (q_varF (e := (eT eI)) (a := a.2.2.1) 2 (by rfl)) (SimD.toE (q_var (e := eI) (a := x767) 5 (by rfl))))))) (fun s764 =>
  (q_end (k := fun (s778 : Unit) => ()) (q_sif (es := fun (s778 : Unit) => [(.f ((eT (eT eI)) a.1)), (.f (eI a.2.1)), (.f ((eT eI) a.2.2.1)), (.d (eI x757)), (.d ((eL eI) s764)), .u]) (q_tr (SimD.toE (q_op o_gtI (SimD.toE (q_op o_subI (SimD.toE (q_b b_absI (q_aF (e := eI) (SimD.toE (q_b b_sum (q_aF (e := (eL eI)) (SimD.toE (q_var (e := (eL eI)) (a := s764) 4 (by rfl))) q_aN) rfl)) q_aN) rfl)) (SimD.toE (q_op o_subI (SimD.toE (q_b (b_lenT (e := eI)) (q_aF (e := (eT eI)) (SimD.toE (q_op (o_ixT (e := (eT eI))) (q_varF (e := (eT (eT eI))) (a := a.1) 0 (by rfl)) (SimD.toE (q_var (e := eI) (a := x757) 3 (by rfl))))) q_aN) rfl)) (SimD.toE (q_b (b_lenL (e := eI)) (q_aF (e := (eL eI)) (SimD.toE (q_var (e := (eL eI)) (a := s764) 4 (by rfl))) q_aN) rfl)))))) (q_varF (e := eI) (a := a.2.1) 1 (by rfl))))) (q_ret (e := eD) (q_castD (e1 := eD) (g' := eI) (q_var (e := eI) (a := x757) 3 (by rfl)) (fun _ => rfl))) (q_skip (s := ()) (by exact (ls_k (ls_k (ls_k (ls_k (ls_k (ls_k ls_n))))))))) (fun s778 => (by exact (ls_k (ls_k (ls_k (ls_u (ls_u (ls_k ls_n))))))))))))) (fun s755 =>
  (q_ret (e := eD) (q_castD (e1 := eD) (g' := eU) (q_const (e := eU) (a := ()) rfl) (fun _ => rfl)))))
    case hm =>
      intro a
      unfold t_over_set; simp only [X.m_fn, X.m_seq, X.m_bind, X.m_ite, X.m_ok, X.m_exc, X.m_lc, X.m_lc2, X.m_for, X.m_wh, X.m_try, X.m_hnd, X.m_sure]
def t_within_from : Nat → Int → (List (List Int)) → Int → (List Int) → Int → List Int → X ((Str × D) × List Int)
  | 0 => fun _ _ _ _ _ _ => .no
  | d + 1 => fun p_many p_family p_gap p_row p_most xs => let a := (p_many, p_family, p_gap, p_row, p_most, ())
  X.fn (σ := Unit) none (X.seq (X.bind (X.ok (0 : Int)) fun v806 =>
  (X.bind (X.of (L2.atI xs v806)) fun v807 =>
  (X.bind (X.ok (1 : Int)) fun v808 =>
  (X.bind (X.aug (fun x y => x + y) xs v806 v808) fun v809 =>
  (X.ok (.next v809)))))) fun s805 =>
  (X.seq (X.bind (X.bind (X.bind (X.ok s805) fun v811 =>
  (X.bind (X.ok (0 : Int)) fun v812 =>
  (X.of (L2.atI v811 v812)))) fun v813 =>
  (X.bind (X.ok a.2.2.2.2.1) fun v814 =>
  (X.of (some (decide (v814 < v813)))))) fun v817 =>
  (if v817 = true then (X.bind (X.bind (X.ok a.2.2.2.2.1) fun v815 =>
  (X.ok (eI v815))) fun v816 =>
  (X.exc "TooLarge" v816)) else (X.ok (.next ())))) fun s810 =>
  (X.seq (X.bind (X.bind (X.bind (X.ok a.2.1) fun v823 =>
  (X.bind (X.bind (X.ok a.2.2.1) fun v821 =>
  (X.bind (X.bind (X.ok a.2.2.2.1) fun v819 =>
  (X.bind (X.ok ()) fun v820 =>
  (X.ok (v819, v820)))) fun v822 =>
  (X.ok (v821, v822)))) fun v824 =>
  (X.ok (v823, v824)))) fun a825 =>
  (t_over_set a825.1 a825.2.1 a825.2.2.1)) fun v826 =>
  (X.ok (.next v826))) fun s818 =>
  (X.seq (X.bind (X.bind (X.ok s818) fun v828 =>
  (X.bind (X.ok ()) fun v829 =>
  (X.of (isnD (eD v828) (eU v829))))) fun v842 =>
  (if v842 = true then (X.bind (X.bind (X.bind (X.ok ("no" : Str)) fun v838 =>
  (X.bind (X.bind (X.bind (X.bind (X.bind (X.ok ("over" : Str)) fun v832 =>
  (X.bind (X.bind (X.ok s818) fun v830 =>
  (X.bind (X.ok ()) fun v831 =>
  (X.ok (v830, v831)))) fun v833 =>
  (X.ok (v832, v833)))) fun v834 =>
  (X.ok (v834.1, v834.2.1))) fun v835 =>
  (X.ok ((eP2 eS eD) v835))) fun v836 =>
  (X.bind (X.ok ()) fun v837 =>
  (X.ok (v836, v837)))) fun v839 =>
  (X.ok (v838, v839)))) fun v840 =>
  (X.ok (v840.1, v840.2.1))) fun v841 =>
  (X.ok (.ret (v841, s805)))) else (X.ok (.next ())))) fun s827 =>
  (X.seq (X.bind (X.bind (X.bind (X.bind (X.ok a.2.2.2.1) fun v844 =>
  (X.bind (X.ok ()) fun v845 =>
  (X.ok (v844, v845)))) fun v846 =>
  (X.of (some (v846.1.length : Int)))) fun v847 =>
  (X.bind (X.ok a.1) fun v848 =>
  (X.of (some (decide (v847 = v848)))))) fun v856 =>
  (if v856 = true then (X.bind (X.bind (X.bind (X.ok ("yes" : Str)) fun v852 =>
  (X.bind (X.bind (X.bind (X.ok a.2.2.2.1) fun v849 =>
  (X.ok ((eT eI) v849))) fun v850 =>
  (X.bind (X.ok ()) fun v851 =>
  (X.ok (v850, v851)))) fun v853 =>
  (X.ok (v852, v853)))) fun v854 =>
  (X.ok (v854.1, v854.2.1))) fun v855 =>
  (X.ok (.ret (v855, s805)))) else (X.ok (.next ())))) fun s843 =>
  (X.seq (X.bind (X.bind (X.ok ()) fun v858 =>
  (X.bind (X.ok ()) fun v859 =>
  (X.ok (([] : List D), v859)))) fun v860 =>
  (X.ok (.next v860))) fun s857 =>
  (X.seq (X.bind (X.bind (X.bind (X.ok (1 : Int)) fun v873 =>
  (X.bind (X.bind (X.bind (X.ok (1 : Int)) fun v870 =>
  (X.of (some (-v870)))) fun v871 =>
  (X.bind (X.ok ()) fun v872 =>
  (X.ok (v871, v872)))) fun v874 =>
  (X.ok (v873, v874)))) fun v875 =>
  (X.ok [v875.1, v875.2.1])) fun v905 =>
  (X.for (fun (s862 : (List Int) × (List D)) x863 => (X.seq (X.bind (X.bind (X.ok a.1) fun v890 =>
  (X.bind (X.bind (X.ok a.2.1) fun v888 =>
  (X.bind (X.bind (X.ok a.2.2.1) fun v886 =>
  (X.bind (X.bind (X.bind (X.ok a.2.2.2.1) fun v882 =>
  (X.bind (X.bind (X.bind (X.ok x863) fun v879 =>
  (X.bind (X.ok ()) fun v880 =>
  (X.ok (v879, v880)))) fun v881 =>
  (X.ok [v881.1])) fun v883 =>
  (X.of (catO v882 v883)))) fun v884 =>
  (X.bind (X.bind (X.ok a.2.2.2.2.1) fun v877 =>
  (X.bind (X.ok ()) fun v878 =>
  (X.ok (v877, v878)))) fun v885 =>
  (X.ok (v884, v885)))) fun v887 =>
  (X.ok (v886, v887)))) fun v889 =>
  (X.ok (v888, v889)))) fun v891 =>
  (X.ok (v890, v891)))) fun a892 =>
  (X.bind (t_within_from d a892.1 a892.2.1 a892.2.2.1 a892.2.2.2.1 a892.2.2.2.2.1 s862.1) fun v893 =>
  (X.ok (.next v893)))) fun s876 =>
  (X.seq (X.bind (X.bind (X.bind (X.ok s876.1) fun v895 =>
  (X.ok v895.1)) fun v896 =>
  (X.bind (X.ok ("yes" : Str)) fun v897 =>
  (X.of (eqD (eS v896) (eS v897))))) fun v899 =>
  (if v899 = true then (X.bind (X.ok s876.1) fun v898 =>
  (X.ok (.ret (v898, s876.2)))) else (X.ok (.next ())))) fun s894 =>
  (X.seq (X.bind (X.bind (X.ok s876.1) fun v904 =>
  (X.ok v904.2)) fun v901 =>
  (X.bind (X.app s862.2 v901) fun v903 =>
  (X.ok (.next v903)))) fun s900 => (X.ok (.next (s876.2, s900))))))) v905 (s805, s857.1))) fun s861 =>
  (X.bind (X.bind (X.bind (X.ok ("no" : Str)) fun v927 =>
  (X.bind (X.bind (X.bind (X.bind (X.bind (X.bind (X.ok ("split" : Str)) fun v913 =>
  (X.ok (eS v913))) fun v921 =>
  (X.bind (X.bind (X.bind (X.bind (X.bind (X.ok a.2.2.2.1) fun v906 =>
  (X.bind (X.ok ()) fun v907 =>
  (X.ok (v906, v907)))) fun v908 =>
  (X.of (some (v908.1.length : Int)))) fun v914 =>
  (X.ok (eI v914))) fun v919 =>
  (X.bind (X.bind (X.bind (X.ok s861.2) fun v909 =>
  (X.bind (X.ok (0 : Int)) fun v910 =>
  (X.of (L2.atI v909 v910)))) fun v917 =>
  (X.bind (X.bind (X.bind (X.ok s861.2) fun v911 =>
  (X.bind (X.ok (1 : Int)) fun v912 =>
  (X.of (L2.atI v911 v912)))) fun v915 =>
  (X.bind (X.ok ()) fun v916 =>
  (X.ok (v915, v916)))) fun v918 =>
  (X.ok (v917, v918)))) fun v920 =>
  (X.ok (v919, v920)))) fun v922 =>
  (X.ok (v921, v922)))) fun v923 =>
  (X.ok [v923.1, v923.2.1, v923.2.2.1, v923.2.2.2.1])) fun v924 =>
  (X.ok ((eT eD) v924))) fun v925 =>
  (X.bind (X.ok ()) fun v926 =>
  (X.ok (v925, v926)))) fun v928 =>
  (X.ok (v927, v928)))) fun v929 =>
  (X.ok (v929.1, v929.2.1))) fun v930 =>
  (X.ok (.ret (v930, s861.1)))))))))))
theorem ok_t_within_from : ∀ d : Nat, FnC (F_within_from d) [.f, .f, .f, .s, .t, .s] (aC eI (aC (eT (eT eI)) (aC eI (aC (eT eI) (aC eI aN))))) (eP2 eS eD) eI (fun (a : Int × (List (List Int)) × Int × (List Int) × Int × Unit) xs => t_within_from d a.1 a.2.1 a.2.2.1 a.2.2.2.1 a.2.2.2.2.1 xs)
  | 0 => q_fnC0
  | d + 1 => by
    have ih := ok_t_within_from d
    apply q_fnC (es := fun _ : Unit => [.u, .u, .u, .u, .u, .u, .u, .u, .u, .u]) (el := fun s => nomatch s) (k := 10) (body := c_within_from (F_within_from d)) rfl
    case h => intro n0 base l a xs; unfold c_within_from; exact (q_seq (q_augPK (op := fun x y => x + y) (xs := xs) (fun _ _ => rfl) 4 (by rfl) (SimD.toE (q_const (e := eI) (a := (0 : Int)) rfl)) (SimD.toE (q_const (e := eI) (a := (1 : Int)) rfl))) (fun s805 =>
  (q_seq (q_sif (es := fun (s810 : Unit) => [(.f (eI a.1)), (.f ((eT (eT eI)) a.2.1)), (.f (eI a.2.2.1)), (.d ((eT eI) a.2.2.2.1)), (.k (s805.map eI)), (.d (eI a.2.2.2.2.1)), .u, .u, .u, .u]) (q_tr (SimD.toE (q_op o_gtI (SimD.toE (q_op (o_ixL (e := eI)) (q_varK (e := eI) (xs := s805) 4 (by rfl)) (SimD.toE (q_const (e := eI) (a := (0 : Int)) rfl)))) (SimD.toE (q_var (e := eI) (a := a.2.2.2.2.1) 5 (by rfl)))))) (q_raise (cn := "TooLarge") (q_castD (e1 := eD) (g' := eI) (q_var (e := eI) (a := a.2.2.2.2.1) 5 (by rfl)) (fun _ => rfl))) (q_skip (s := ()) (by exact (ls_k (ls_k (ls_k (ls_k (ls_k (ls_k (ls_k (ls_k (ls_k (ls_k ls_n))))))))))))) (fun s810 =>
  (q_seq (q_set (e := eD) 6 (q_call ok_t_over_set (q_aF (e := (eT (eT eI))) (q_varF (e := (eT (eT eI))) (a := a.2.1) 1 (by rfl)) (q_aF (e := eI) (q_varF (e := eI) (a := a.2.2.1) 2 (by rfl)) (q_aF (e := (eT eI)) (SimD.toE (q_var (e := (eT eI)) (a := a.2.2.2.1) 3 (by rfl))) q_aN))) rfl)) (fun s818 =>
  (q_seq (q_sif (es := fun (s827 : Unit) => [(.f (eI a.1)), (.f ((eT (eT eI)) a.2.1)), (.f (eI a.2.2.1)), (.d ((eT eI) a.2.2.2.1)), (.k (s805.map eI)), (.d (eI a.2.2.2.2.1)), (.d (eD s818)), .u, .u, .u]) (q_tr (SimD.toE (q_op (o_isn (e := eD) (e1 := eU)) (SimD.toE (q_var (e := eD) (a := s818) 6 (by rfl))) (SimD.toE (q_const (e := eU) (a := ()) rfl))))) (q_retK (e := (eP2 eS eD)) (e1 := eI) (xs := s805) 4 (by rfl) (q_tup (e := (eP2 eS eD)) (g' := fun (b : Str × D × Unit) => (b.1, b.2.1)) (q_aS (e := eS) (q_const (e := eS) (a := ("no" : Str)) rfl) (q_aS (e := eD) (q_castD (e1 := eD) (g' := (eP2 eS eD)) (q_tup (e := (eP2 eS eD)) (g' := fun (b : Str × D × Unit) => (b.1, b.2.1)) (q_aS (e := eS) (q_const (e := eS) (a := ("over" : Str)) rfl) (q_aS (e := eD) (q_var (e := eD) (a := s818) 6 (by rfl)) q_aN)) rfl (fun _ => rfl) (fun _ => rfl)) (fun _ => rfl)) q_aN)) rfl (fun _ => rfl) (fun _ => rfl))) (q_skip (s := ()) (by exact (ls_k (ls_k (ls_k (ls_k (ls_k (ls_k (ls_k (ls_k (ls_k (ls_k ls_n))))))))))))) (fun s827 =>
  (q_seq (q_sif (es := fun (s843 : Unit) => [(.f (eI a.1)), (.f ((eT (eT eI)) a.2.1)), (.f (eI a.2.2.1)), (.d ((eT eI) a.2.2.2.1)), (.k (s805.map eI)), (.d (eI a.2.2.2.2.1)), (.d (eD s818)), .u, .u, .u]) (q_tr (SimD.toE (q_op o_eqI (SimD.toE (q_b (b_lenT (e := eI)) (q_aF (e := (eT eI)) (SimD.toE (q_var (e := (eT eI)) (a := a.2.2.2.1) 3 (by rfl))) q_aN) rfl)) (q_varF (e := eI) (a := a.1) 0 (by rfl))))) (q_retK (e := (eP2 eS eD)) (e1 := eI) (xs := s805) 4 (by rfl) (q_tup (e := (eP2 eS eD)) (g' := fun (b : Str × D × Unit) => (b.1, b.2.1)) (q_aS (e := eS) (q_const (e := eS) (a := ("yes" : Str)) rfl) (q_aS (e := eD) (q_castD (e1 := eD) (g' := (eT eI)) (q_var (e := (eT eI)) (a := a.2.2.2.1) 3 (by rfl)) (fun _ => rfl)) q_aN)) rfl (fun _ => rfl) (fun _ => rfl))) (q_skip (s := ()) (by exact (ls_k (ls_k (ls_k (ls_k (ls_k (ls_k (ls_k (ls_k (ls_k (ls_k ls_n))))))))))))) (fun s843 =>
  (q_seq (q_new (i := 7) (v_c (e := eD) (k := fun (b : Unit) => []) q_aN rfl (fun _ => rfl) (fun _ => rfl) v_nil)) (fun s857 =>
  (q_seq (q_for (e := eI) (es := fun (s862 : (List Int) × (List D)) => [(.f (eI a.1)), (.f ((eT (eT eI)) a.2.1)), (.f (eI a.2.2.1)), (.d ((eT eI) a.2.2.2.1)), (.k (s862.1.map eI)), (.d (eI a.2.2.2.2.1)), (.d (eD s818)), (.c (s862.2.map eD)), .u, .u]) (s805, s857.1) (q_ivT (e := eI) (SimD.toE (q_tup (e := (eT eI)) (g' := fun (b : Int × Int × Unit) => [b.1, b.2.1]) (q_aS (e := eI) (q_const (e := eI) (a := (1 : Int)) rfl) (q_aS (e := eI) (q_un u_negI (SimD.toE (q_const (e := eI) (a := (1 : Int)) rfl))) q_aN)) rfl (fun _ => rfl) (fun _ => rfl)))) (by exact (ls_k (ls_k (ls_k (ls_k (ls_k (ls_k (ls_k (ls_k (ls_k (ls_k ls_n))))))))))) (q_bn (e := eI) 8) (fun s862 x863 =>
  (q_seq (q_setK (e1 := (eP2 eS eD)) (e2 := eI) (xs := s862.1) 9 4 (by rfl) (by decide) ih rfl (k_f (e := eI) (i := 4) rfl (by rfl) (by intro _ _ h; cases h) (q_varF (e := eI) (a := a.1) 0 (by rfl)) (k_f (e := (eT (eT eI))) (i := 4) rfl (by rfl) (by intro _ _ h; cases h) (q_varF (e := (eT (eT eI))) (a := a.2.1) 1 (by rfl)) (k_f (e := eI) (i := 4) rfl (by rfl) (by intro _ _ h; cases h) (q_varF (e := eI) (a := a.2.2.1) 2 (by rfl)) (k_s (e := (eT eI)) (i := 4) rfl (by rfl) (q_op (o_addT (e := eI)) (SimD.toE (q_var (e := (eT eI)) (a := a.2.2.2.1) 3 (by rfl))) (SimD.toE (q_tup (e := (eT eI)) (g' := fun (b : Int × Unit) => [b.1]) (q_aS (e := eI) (q_var (e := eI) (a := x863) 8 (by rfl)) q_aN) rfl (fun _ => rfl) (fun _ => rfl)))) (k_k (i := 4) (by rfl) (k_s (e := eI) (i := 4) rfl (by rfl) (q_var (e := eI) (a := a.2.2.2.2.1) 5 (by rfl)) k_nil))))))) (fun s876 =>
  (q_seq (q_sif (es := fun (s894 : Unit) => [(.f (eI a.1)), (.f ((eT (eT eI)) a.2.1)), (.f (eI a.2.2.1)), (.d ((eT eI) a.2.2.2.1)), (.k (s876.2.map eI)), (.d (eI a.2.2.2.2.1)), (.d (eD s818)), (.c (s862.2.map eD)), (.d (eI x863)), (.d ((eP2 eS eD) s876.1))]) (q_tr (SimD.toE (q_op (o_eq (e := eS) (e1 := eS)) (SimD.toE (q_fst (e := eS) (e1 := eD) (SimD.toE (q_var (e := (eP2 eS eD)) (a := s876.1) 9 (by rfl))))) (SimD.toE (q_const (e := eS) (a := ("yes" : Str)) rfl))))) (q_retK (e := (eP2 eS eD)) (e1 := eI) (xs := s876.2) 4 (by rfl) (q_var (e := (eP2 eS eD)) (a := s876.1) 9 (by rfl))) (q_skip (s := ()) (by exact (ls_k (ls_k (ls_k (ls_k (ls_k (ls_k (ls_k (ls_k (ls_k (ls_k ls_n))))))))))))) (fun s894 =>
  (q_end (k := fun (s900 : (List D)) => (s876.2, s900)) (q_app (e1 := eD) (xs := s862.2) 7 (by rfl) (q_snd (e := eS) (e1 := eD) (SimD.toE (q_var (e := (eP2 eS eD)) (a := s876.1) 9 (by rfl))))) (fun s900 => (by exact (ls_k (ls_k (ls_k (ls_k (ls_k (ls_k (ls_k (ls_k (ls_u (ls_u ls_n))))))))))))))))))) (fun s861 =>
  (q_retK (e := (eP2 eS eD)) (e1 := eI) (xs := s861.1) 4 (by rfl) (q_tup (e := (eP2 eS eD)) (g' := fun (b : Str × D × Unit) => (b.1, b.2.1)) (q_aS (e := eS) (q_const (e := eS) (a := ("no" : Str)) rfl) (q_aS (e := eD) (q_castD (e1 := eD) (g' := (eT eD)) (q_tup (e := (eT eD)) (g' := fun (b : D × D × D × D × Unit) => [b.1, b.2.1, b.2.2.1, b.2.2.2.1]) (q_aS (e := eD) (q_castD (e1 := eD) (g' := eS) (q_const (e := eS) (a := ("split" : Str)) rfl) (fun _ => rfl)) (q_aS (e := eD) (q_castD (e1 := eD) (g' := eI) (q_b (b_lenT (e := eI)) (q_aF (e := (eT eI)) (SimD.toE (q_var (e := (eT eI)) (a := a.2.2.2.1) 3 (by rfl))) q_aN) rfl) (fun _ => rfl)) (q_aS (e := eD) (q_op (o_ixL (e := eD)) (q_varC (e := eD) (xs := s861.2) 7 (by rfl)) (SimD.toE (q_const (e := eI) (a := (0 : Int)) rfl))) (q_aS (e := eD) (q_op (o_ixL (e := eD)) (q_varC (e := eD) (xs := s861.2) 7 (by rfl)) (SimD.toE (q_const (e := eI) (a := (1 : Int)) rfl))) q_aN)))) rfl (fun _ => rfl) (fun _ => rfl)) (fun _ => rfl)) q_aN)) rfl (fun _ => rfl) (fun _ => rfl)))))))))))))))))
    case hm =>
      intro a xs
      simp only [t_within_from, X.m_fn, X.m_seq, X.m_bind, X.m_ite, X.m_ok, X.m_exc, X.m_lc, X.m_lc2, X.m_for, X.m_wh, X.m_try, X.m_hnd, X.m_sure]
def t_within_gap (p_many : Int) (p_family : (List (List Int))) (p_gap : Int) (p_most : Int) : X (Str × D) := let a := (p_many, p_family, p_gap, p_most, ())
  X.fn (σ := Unit) none (X.seq (X.bind (X.bind (X.bind (X.ok a.1) fun v935 =>
  (X.bind (X.bind (X.bind (X.ok a.2.1) fun v932 =>
  (X.ok ((eT (eT eI)) v932))) fun v933 =>
  (X.bind (X.ok ()) fun v934 =>
  (X.ok (v933, v934)))) fun v936 =>
  (X.ok (v935, v936)))) fun a937 =>
  (t_check_family a937.1 a937.2.1)) fun v938 =>
  (X.ok (.next ()))) fun _s931 =>
  (X.bind (X.bind (X.ok a.1) fun v952 =>
  (X.bind (X.bind (X.ok a.2.1) fun v950 =>
  (X.bind (X.bind (X.ok a.2.2.1) fun v948 =>
  (X.bind (X.bind (X.bind (X.ok ()) fun v947 =>
  (X.ok ([] : List Int))) fun v945 =>
  (X.bind (X.bind (X.bind (X.ok (0 : Int)) fun v943 =>
  (X.bind (X.ok ()) fun v944 =>
  (X.ok (v943, v944)))) fun v941 =>
  (X.bind (X.bind (X.ok a.2.2.2.1) fun v939 =>
  (X.bind (X.ok ((), ([] : List Int))) fun v940 =>
  (X.ok ((v939, v940.1), v940.2)))) fun v942 =>
  (X.ok (v942.1, ([v941.1] : List Int))))) fun v946 =>
  (X.ok ((v945, v946.1), v946.2)))) fun v949 =>
  (X.ok ((v948, v949.1), v949.2)))) fun v951 =>
  (X.ok ((v950, v951.1), v951.2)))) fun v953 =>
  (X.ok ((v952, v953.1), v953.2)))) fun a954 =>
  (X.bind (t_within_from DEPTH a954.1.1 a954.1.2.1 a954.1.2.2.1 a954.1.2.2.2.1 a954.1.2.2.2.2.1 a954.2) fun v955 =>
  (X.ok (.ret v955.1)))))
theorem ok_t_within_gap : FnX F_within_gap [.f, .f, .f, .s] (aC eI (aC (eT (eT eI)) (aC eI (aC eI aN)))) (eP2 eS eD) (fun a : Int × (List (List Int)) × Int × Int × Unit => t_within_gap a.1 a.2.1 a.2.2.1 a.2.2.2.1) := by
    apply q_fn (es := fun _ : Unit => [.u, .u, .u, .u]) (el := fun s => nomatch s) (k := 4) (body := c_within_gap) none (fun _ h => nomatch h)
    case h => intro c a; unfold c_within_gap; exact (q_seq (q_expr (SimD.toE (q_call ok_t_check_family (q_aF (e := eI) (q_varF (e := eI) (a := a.1) 0 (by rfl)) (q_aF (e := eD) (q_cast (e1 := eD) (g' := (eT (eT eI))) (q_varF (e := (eT (eT eI))) (a := a.2.1) 1 (by rfl)) (fun _ => rfl)) q_aN)) rfl))) (fun _s931 =>
  (q_retF (e1 := (eP2 eS eD)) (ec := eI) (ok_t_within_from DEPTH) rfl rfl (f_d (e := eI) (ec := eI) .f (.inr rfl) (SimE.toD (q_varF (e := eI) (a := a.1) 0 (by rfl))) (f_d (e := (eT (eT eI))) (ec := eI) .f (.inr rfl) (SimE.toD (q_varF (e := (eT (eT eI))) (a := a.2.1) 1 (by rfl))) (f_d (e := eI) (ec := eI) .f (.inr rfl) (SimE.toD (q_varF (e := eI) (a := a.2.2.1) 2 (by rfl))) (f_d (e := (eT eI)) (ec := eI) .s (.inl rfl) (q_tup (e := (eT eI)) (g' := fun (_ : Unit) => []) q_aN rfl (fun _ => rfl) (fun _ => rfl)) (f_c (ec := eI) (kk := fun (b : Int × Unit) => [b.1]) (q_aS (e := eI) (q_const (e := eI) (a := (0 : Int)) rfl) q_aN) rfl (fun _ => rfl) (fun _ => rfl) rfl (f_d (e := eI) (ec := eI) .s (.inl rfl) (q_var (e := eI) (a := a.2.2.2.1) 3 (by rfl)) f_nil)))))))))
    case hm =>
      intro a
      unfold t_within_gap; simp only [X.m_fn, X.m_seq, X.m_bind, X.m_ite, X.m_ok, X.m_exc, X.m_lc, X.m_lc2, X.m_for, X.m_wh, X.m_try, X.m_hnd, X.m_sure]
def t_least_gap (p_many : Int) (p_family : (List (List Int))) (p_most : Int) : X (Int × D) := let a := (p_many, p_family, p_most, ())
  X.fn (σ := Unit) none (X.seq (X.bind (X.ok (0 : Int)) fun v957 =>
  (X.ok (.next v957))) fun s956 =>
  (X.seq (X.bind (X.bind (X.bind (X.ok a.1) fun v965 =>
  (X.bind (X.bind (X.ok a.2.1) fun v963 =>
  (X.bind (X.bind (X.ok s956) fun v961 =>
  (X.bind (X.bind (X.ok a.2.2.1) fun v959 =>
  (X.bind (X.ok ()) fun v960 =>
  (X.ok (v959, v960)))) fun v962 =>
  (X.ok (v961, v962)))) fun v964 =>
  (X.ok (v963, v964)))) fun v966 =>
  (X.ok (v965, v966)))) fun a967 =>
  (t_within_gap a967.1 a967.2.1 a967.2.2.1 a967.2.2.2.1)) fun v968 =>
  (X.ok (.next v968))) fun s958 =>
  (X.seq (X.wh (fun (s970 : Int × (Str × D)) => (X.bind (X.bind (X.ok s970.2) fun v972 =>
  (X.ok v972.1)) fun v973 =>
  (X.bind (X.ok ("no" : Str)) fun v974 =>
  (X.of (eqD (eS v973) (eS v974)))))) (fun (s970 : Int × (Str × D)) => (X.seq (X.bind (X.bind (X.ok s970.1) fun v976 =>
  (X.bind (X.ok (1 : Int)) fun v977 =>
  (X.of (some (v976 + v977))))) fun v978 =>
  (X.ok (.next v978))) fun s975 =>
  (X.seq (X.bind (X.bind (X.bind (X.ok a.1) fun v986 =>
  (X.bind (X.bind (X.ok a.2.1) fun v984 =>
  (X.bind (X.bind (X.ok s975) fun v982 =>
  (X.bind (X.bind (X.ok a.2.2.1) fun v980 =>
  (X.bind (X.ok ()) fun v981 =>
  (X.ok (v980, v981)))) fun v983 =>
  (X.ok (v982, v983)))) fun v985 =>
  (X.ok (v984, v985)))) fun v987 =>
  (X.ok (v986, v987)))) fun a988 =>
  (t_within_gap a988.1 a988.2.1 a988.2.2.1 a988.2.2.2.1)) fun v989 =>
  (X.ok (.next v989))) fun s979 => (X.ok (.next (s975, s979)))))) fuel (s956, s958)) fun s969 =>
  (X.bind (X.bind (X.bind (X.ok s969.1) fun v993 =>
  (X.bind (X.bind (X.bind (X.ok s969.2) fun v990 =>
  (X.ok v990.2)) fun v991 =>
  (X.bind (X.ok ()) fun v992 =>
  (X.ok (v991, v992)))) fun v994 =>
  (X.ok (v993, v994)))) fun v995 =>
  (X.ok (v995.1, v995.2.1))) fun v996 =>
  (X.ok (.ret v996))))))
theorem ok_t_least_gap : FnX F_least_gap [.f, .f, .s] (aC eI (aC (eT (eT eI)) (aC eI aN))) (eP2 eI eD) (fun a : Int × (List (List Int)) × Int × Unit => t_least_gap a.1 a.2.1 a.2.2.1) := by
    apply q_fn (es := fun _ : Unit => [.u, .u, .u, .u, .u]) (el := fun s => nomatch s) (k := 5) (body := c_least_gap) none (fun _ h => nomatch h)
    case h => intro c a; unfold c_least_gap; exact (q_seq (q_set (e := eI) 3 (q_const (e := eI) (a := (0 : Int)) rfl)) (fun s956 =>
  (q_seq (q_set (e := (eP2 eS eD)) 4 (q_call ok_t_within_gap (q_aF (e := eI) (q_varF (e := eI) (a := a.1) 0 (by rfl)) (q_aF (e := (eT (eT eI))) (q_varF (e := (eT (eT eI))) (a := a.2.1) 1 (by rfl)) (q_aF (e := eI) (SimD.toE (q_var (e := eI) (a := s956) 3 (by rfl))) (q_aS (e := eI) (q_var (e := eI) (a := a.2.2.1) 2 (by rfl)) q_aN)))) rfl)) (fun s958 =>
  (q_seq (q_wh (es := fun (s970 : Int × (Str × D)) => [(.f (eI a.1)), (.f ((eT (eT eI)) a.2.1)), (.d (eI a.2.2.1)), (.d (eI s970.1)), (.d ((eP2 eS eD) s970.2))]) (s956, s958) (by exact (ls_k (ls_k (ls_k (ls_k (ls_k ls_n)))))) (fun s970 => (q_tr (SimD.toE (q_op (o_eq (e := eS) (e1 := eS)) (SimD.toE (q_fst (e := eS) (e1 := eD) (SimD.toE (q_var (e := (eP2 eS eD)) (a := s970.2) 4 (by rfl))))) (SimD.toE (q_const (e := eS) (a := ("no" : Str)) rfl)))))) (fun s970 =>
  (q_seq (q_set (e := eI) 3 (q_op o_addI2 (SimD.toE (q_var (e := eI) (a := s970.1) 3 (by rfl))) (SimD.toE (q_const (e := eI) (a := (1 : Int)) rfl)))) (fun s975 =>
  (q_end (k := fun (s979 : (Str × D)) => (s975, s979)) (q_set (e := (eP2 eS eD)) 4 (q_call ok_t_within_gap (q_aF (e := eI) (q_varF (e := eI) (a := a.1) 0 (by rfl)) (q_aF (e := (eT (eT eI))) (q_varF (e := (eT (eT eI))) (a := a.2.1) 1 (by rfl)) (q_aF (e := eI) (SimD.toE (q_var (e := eI) (a := s975) 3 (by rfl))) (q_aS (e := eI) (q_var (e := eI) (a := a.2.2.1) 2 (by rfl)) q_aN)))) rfl)) (fun s979 => (by exact (ls_k (ls_k (ls_k (ls_k (ls_k ls_n)))))))))))) (fun s969 =>
  (q_ret (e := (eP2 eI eD)) (q_tup (e := (eP2 eI eD)) (g' := fun (b : Int × D × Unit) => (b.1, b.2.1)) (q_aS (e := eI) (q_var (e := eI) (a := s969.1) 3 (by rfl)) (q_aS (e := eD) (q_snd (e := eS) (e1 := eD) (SimD.toE (q_var (e := (eP2 eS eD)) (a := s969.2) 4 (by rfl)))) q_aN)) rfl (fun _ => rfl) (fun _ => rfl)))))))))
    case hm =>
      intro a
      unfold t_least_gap; simp only [X.m_fn, X.m_seq, X.m_bind, X.m_ite, X.m_ok, X.m_exc, X.m_lc, X.m_lc2, X.m_for, X.m_wh, X.m_try, X.m_hnd, X.m_sure]
def t_step_sets (p_many : D) (p_step : D) : X (List (List Int)) := let a := (p_many, p_step, ())
  X.fn (σ := Unit) none (X.seq (X.bind (X.bind (X.bind (X.ok a.1) fun v998 =>
  (X.bind (X.ok ()) fun v999 =>
  (X.ok (v998, v999)))) fun a1000 =>
  (t_check_length a1000.1)) fun v1001 =>
  (X.ok (.next ()))) fun _s997 =>
  (X.seq (X.bind (X.bind (X.bind (X.bind (X.bind (X.ok a.2.1) fun v1006 =>
  (X.bind (X.ok ()) fun v1007 =>
  (X.ok (v1006, v1007)))) fun a1008 =>
  (t_is_count a1008.1)) fun v1009 =>
  (X.ok (!v1009))) fun v1010 =>
  (if v1010 = true then (X.ok true) else (X.bind (X.bind (X.ok a.2.1) fun v1003 =>
  (X.of (asI v1003))) fun v1004 =>
  (X.bind (X.ok (1 : Int)) fun v1005 =>
  (X.of (some (decide (v1004 < v1005)))))))) fun v1013 =>
  (if v1013 = true then (X.bind (X.bind (X.ok ()) fun v1011 =>
  (X.ok (eU v1011))) fun v1012 =>
  (X.exc "InvalidRow" v1012)) else (X.ok (.next ())))) fun s1002 =>
  (X.seq (X.bind (X.bind (X.ok ()) fun v1015 =>
  (X.bind (X.ok ()) fun v1016 =>
  (X.ok (([] : List (List Int)), v1016)))) fun v1017 =>
  (X.ok (.next v1017))) fun s1014 =>
  (X.seq (X.bind (X.bind (X.bind (X.bind (X.ok a.1) fun v1021 =>
  (X.of (asI v1021))) fun v1022 =>
  (X.bind (X.ok ()) fun v1023 =>
  (X.ok (v1022, v1023)))) fun v1024 =>
  (X.of (rg1 v1024.1))) fun v1059 =>
  (X.for (fun (s1019 : (List (List Int))) x1020 => (X.seq (X.bind (X.bind (X.bind (X.ok x1020) fun v1026 =>
  (X.bind (X.ok ()) fun v1027 =>
  (X.ok (v1026, v1027)))) fun v1028 =>
  (X.ok [v1028.1])) fun v1029 =>
  (X.ok (.next v1029))) fun s1025 =>
  (X.seq (X.wh (fun (s1031 : (List Int) × (List (List Int))) => (X.bind (X.bind (X.bind (X.ok s1031.1) fun v1034 =>
  (X.bind (X.bind (X.ok (1 : Int)) fun v1033 =>
  (X.of (some (-v1033)))) fun v1035 =>
  (X.of (L2.atI v1034 v1035)))) fun v1037 =>
  (X.bind (X.bind (X.ok a.2.1) fun v1036 =>
  (X.of (asI v1036))) fun v1038 =>
  (X.of (some (v1037 + v1038))))) fun v1040 =>
  (X.bind (X.bind (X.ok a.1) fun v1039 =>
  (X.of (asI v1039))) fun v1041 =>
  (X.of (some (decide (v1040 < v1041))))))) (fun (s1031 : (List Int) × (List (List Int))) => (X.seq (X.bind (X.bind (X.ok s1031.1) fun v1052 =>
  (X.bind (X.bind (X.bind (X.bind (X.bind (X.ok s1031.1) fun v1044 =>
  (X.bind (X.bind (X.ok (1 : Int)) fun v1043 =>
  (X.of (some (-v1043)))) fun v1045 =>
  (X.of (L2.atI v1044 v1045)))) fun v1047 =>
  (X.bind (X.bind (X.ok a.2.1) fun v1046 =>
  (X.of (asI v1046))) fun v1048 =>
  (X.of (some (v1047 + v1048))))) fun v1049 =>
  (X.bind (X.ok ()) fun v1050 =>
  (X.ok (v1049, v1050)))) fun v1051 =>
  (X.ok [v1051.1])) fun v1053 =>
  (X.of (catO v1052 v1053)))) fun v1054 =>
  (X.ok (.next v1054))) fun s1042 =>
  (X.seq (X.bind (X.ok s1042) fun v1056 =>
  (X.bind (X.app s1031.2 v1056) fun v1058 =>
  (X.ok (.next v1058)))) fun s1055 => (X.ok (.next (s1042, s1055)))))) fuel (s1025, s1019)) fun s1030 => (X.ok (.next s1030.2))))) v1059 s1014.1)) fun s1018 =>
  (X.bind (X.bind (X.bind (X.ok s1018) fun v1060 =>
  (X.bind (X.ok ()) fun v1061 =>
  (X.ok (v1060, v1061)))) fun v1062 =>
  (X.of (some v1062.1))) fun v1063 =>
  (X.ok (.ret v1063)))))))
theorem ok_t_step_sets : FnX F_step_sets [.f, .f] (aC eD (aC eD aN)) (eT (eT eI)) (fun a : D × D × Unit => t_step_sets a.1 a.2.1) := by
    apply q_fn (es := fun _ : Unit => [.u, .u, .u, .u, .u]) (el := fun s => nomatch s) (k := 5) (body := c_step_sets) none (fun _ h => nomatch h)
    case h => intro c a; unfold c_step_sets; exact (q_seq (q_expr (SimD.toE (q_call ok_t_check_length (q_aF (e := eD) (q_varF (e := eD) (a := a.1) 0 (by rfl)) q_aN) rfl))) (fun _s997 =>
  (q_seq (q_sif (es := fun (s1002 : Unit) => [(.f (eD a.1)), (.f (eD a.2.1)), .u, .u, .u]) (q_tor (q_tnot (q_truB (SimD.toE (q_call ok_t_is_count (q_aF (e := eD) (q_varF (e := eD) (a := a.2.1) 1 (by rfl)) q_aN) rfl)))) (q_tr (SimD.toE (q_op o_ltI (q_asE asI_is (q_varF (e := eD) (a := a.2.1) 1 (by rfl))) (SimD.toE (q_const (e := eI) (a := (1 : Int)) rfl)))))) (q_raise (cn := "InvalidRow") (q_castD (e1 := eD) (g' := eU) (q_const (e := eU) (a := ()) rfl) (fun _ => rfl))) (q_skip (s := ()) (by exact (ls_k (ls_k (ls_k (ls_k (ls_k ls_n)))))))) (fun s1002 =>
  (q_seq (q_new (i := 2) (v_c (e := (eT eI)) (k := fun (b : Unit) => []) q_aN rfl (fun _ => rfl) (fun _ => rfl) v_nil)) (fun s1014 =>
  (q_seq (q_for (e := eI) (es := fun (s1019 : (List (List Int))) => [(.f (eD a.1)), (.f (eD a.2.1)), (.c (s1019.map (eT eI))), .u, .u]) s1014.1 (q_r1 (q_aF (e := eI) (q_asE asI_is (q_varF (e := eD) (a := a.1) 0 (by rfl))) q_aN) rfl) (by exact (ls_k (ls_k (ls_k (ls_k (ls_k ls_n)))))) (q_bn (e := eI) 3) (fun s1019 x1020 =>
  (q_seq (q_set (e := (eT eI)) 4 (q_tup (e := (eT eI)) (g' := fun (b : Int × Unit) => [b.1]) (q_aS (e := eI) (q_var (e := eI) (a := x1020) 3 (by rfl)) q_aN) rfl (fun _ => rfl) (fun _ => rfl))) (fun s1025 =>
  (q_end (k := fun (s1030 : (List Int) × (List (List Int))) => s1030.2) (q_wh (es := fun (s1031 : (List Int) × (List (List Int))) => [(.f (eD a.1)), (.f (eD a.2.1)), (.c (s1031.2.map (eT eI))), (.d (eI x1020)), (.d ((eT eI) s1031.1))]) (s1025, s1019) (by exact (ls_k (ls_k (ls_k (ls_k (ls_k ls_n)))))) (fun s1031 => (q_tr (SimD.toE (q_op o_ltI (SimD.toE (q_op o_addI (SimD.toE (q_op (o_ixT (e := eI)) (SimD.toE (q_var (e := (eT eI)) (a := s1031.1) 4 (by rfl))) (SimD.toE (q_un u_negI (SimD.toE (q_const (e := eI) (a := (1 : Int)) rfl)))))) (q_asE asI_is (q_varF (e := eD) (a := a.2.1) 1 (by rfl))))) (q_asE asI_is (q_varF (e := eD) (a := a.1) 0 (by rfl))))))) (fun s1031 =>
  (q_seq (q_set (e := (eT eI)) 4 (q_op (o_addT (e := eI)) (SimD.toE (q_var (e := (eT eI)) (a := s1031.1) 4 (by rfl))) (SimD.toE (q_tup (e := (eT eI)) (g' := fun (b : Int × Unit) => [b.1]) (q_aS (e := eI) (q_op o_addI (SimD.toE (q_op (o_ixT (e := eI)) (SimD.toE (q_var (e := (eT eI)) (a := s1031.1) 4 (by rfl))) (SimD.toE (q_un u_negI (SimD.toE (q_const (e := eI) (a := (1 : Int)) rfl)))))) (q_asE asI_is (q_varF (e := eD) (a := a.2.1) 1 (by rfl)))) q_aN) rfl (fun _ => rfl) (fun _ => rfl))))) (fun s1042 =>
  (q_end (k := fun (s1055 : (List (List Int))) => (s1042, s1055)) (q_app (e1 := (eT eI)) (xs := s1031.2) 2 (by rfl) (q_var (e := (eT eI)) (a := s1042) 4 (by rfl))) (fun s1055 => (by exact (ls_k (ls_k (ls_k (ls_k (ls_k ls_n)))))))))))) (fun s1030 => (by exact (ls_k (ls_k (ls_k (ls_u (ls_u ls_n)))))))))))) (fun s1018 =>
  (q_ret (e := (eT (eT eI))) (q_b (b_tupL (e := (eT eI))) (q_aF (e := (eL (eT eI))) (q_varC (e := (eT eI)) (xs := s1018) 2 (by rfl)) q_aN) rfl))))))))))
    case hm =>
      intro a
      unfold t_step_sets; simp only [X.m_fn, X.m_seq, X.m_bind, X.m_ite, X.m_ok, X.m_exc, X.m_lc, X.m_lc2, X.m_for, X.m_wh, X.m_try, X.m_hnd, X.m_sure]
def t_all_step_sets (p_many : D) : X (List (List Int)) := let a := (p_many, ())
  X.fn (σ := Unit) none (X.seq (X.bind (X.bind (X.bind (X.ok a.1) fun v1065 =>
  (X.bind (X.ok ()) fun v1066 =>
  (X.ok (v1065, v1066)))) fun a1067 =>
  (t_check_length a1067.1)) fun v1068 =>
  (X.ok (.next ()))) fun _s1064 =>
  (X.seq (X.bind (X.bind (X.ok ()) fun v1070 =>
  (X.ok ([] : List (List Int)))) fun v1071 =>
  (X.ok (.next v1071))) fun s1069 =>
  (X.seq (X.bind (X.bind (X.bind (X.ok (1 : Int)) fun v1083 =>
  (X.bind (X.bind (X.bind (X.bind (X.bind (X.ok a.1) fun v1075 =>
  (X.of (asI v1075))) fun v1078 =>
  (X.bind (X.bind (X.ok (1 : Int)) fun v1076 =>
  (X.bind (X.ok ()) fun v1077 =>
  (X.ok (v1076, v1077)))) fun v1079 =>
  (X.ok (v1078, v1079)))) fun v1080 =>
  (X.of (some (if v1080.2.1 > v1080.1 then v1080.2.1 else v1080.1)))) fun v1081 =>
  (X.bind (X.ok ()) fun v1082 =>
  (X.ok (v1081, v1082)))) fun v1084 =>
  (X.ok (v1083, v1084)))) fun v1085 =>
  (X.of (rg2 v1085.1 v1085.2.1))) fun v1096 =>
  (X.for (fun (s1073 : (List (List Int))) x1074 => (X.seq (X.bind (X.bind (X.ok s1073) fun v1093 =>
  (X.bind (X.bind (X.bind (X.ok a.1) fun v1090 =>
  (X.bind (X.bind (X.bind (X.ok x1074) fun v1087 =>
  (X.ok (eI v1087))) fun v1088 =>
  (X.bind (X.ok ()) fun v1089 =>
  (X.ok (v1088, v1089)))) fun v1091 =>
  (X.ok (v1090, v1091)))) fun a1092 =>
  (t_step_sets a1092.1 a1092.2.1)) fun v1094 =>
  (X.of (catO v1093 v1094)))) fun v1095 =>
  (X.ok (.next v1095))) fun s1086 => (X.ok (.next s1086)))) v1096 s1069)) fun s1072 =>
  (X.bind (X.ok s1072) fun v1097 =>
  (X.ok (.ret v1097))))))
theorem ok_t_all_step_sets : FnX F_all_step_sets [.f] (aC eD aN) (eT (eT eI)) (fun a : D × Unit => t_all_step_sets a.1) := by
    apply q_fn (es := fun _ : Unit => [.u, .u, .u]) (el := fun s => nomatch s) (k := 3) (body := c_all_step_sets) none (fun _ h => nomatch h)
    case h => intro c a; unfold c_all_step_sets; exact (q_seq (q_expr (SimD.toE (q_call ok_t_check_length (q_aF (e := eD) (q_varF (e := eD) (a := a.1) 0 (by rfl)) q_aN) rfl))) (fun _s1064 =>
  (q_seq (q_set (e := (eT (eT eI))) 1 (q_tup (e := (eT (eT eI))) (g' := fun (_ : Unit) => []) q_aN rfl (fun _ => rfl) (fun _ => rfl))) (fun s1069 =>
  (q_seq (q_for (e := eI) (es := fun (s1073 : (List (List Int))) => [(.f (eD a.1)), (.d ((eT (eT eI)) s1073)), .u]) s1069 (q_r2 (q_aF (e := eI) (SimD.toE (q_const (e := eI) (a := (1 : Int)) rfl)) (q_aF (e := eI) (SimD.toE (q_b b_max2 (q_aF (e := eI) (q_asE asI_is (q_varF (e := eD) (a := a.1) 0 (by rfl))) (q_aF (e := eI) (SimD.toE (q_const (e := eI) (a := (1 : Int)) rfl)) q_aN)) rfl)) q_aN)) rfl) (by exact (ls_k (ls_k (ls_k ls_n)))) (q_bn (e := eI) 2) (fun s1073 x1074 =>
  (q_end (k := fun (s1086 : (List (List Int))) => s1086) (q_set (e := (eT (eT eI))) 1 (q_op (o_addT (e := (eT eI))) (SimD.toE (q_var (e := (eT (eT eI))) (a := s1073) 1 (by rfl))) (SimD.toE (q_call ok_t_step_sets (q_aF (e := eD) (q_varF (e := eD) (a := a.1) 0 (by rfl)) (q_aF (e := eD) (SimD.toE (q_castD (e1 := eD) (g' := eI) (q_var (e := eI) (a := x1074) 2 (by rfl)) (fun _ => rfl))) q_aN)) rfl)))) (fun s1086 => (by exact (ls_k (ls_k (ls_u ls_n)))))))) (fun s1072 =>
  (q_ret (e := (eT (eT eI))) (q_var (e := (eT (eT eI))) (a := s1072) 1 (by rfl)))))))))
    case hm =>
      intro a
      unfold t_all_step_sets; simp only [X.m_fn, X.m_seq, X.m_bind, X.m_ite, X.m_ok, X.m_exc, X.m_lc, X.m_lc2, X.m_for, X.m_wh, X.m_try, X.m_hnd, X.m_sure]
def t_least_step_gap (p_many : Int) (p_most : Int) : X (Int × D) := let a := (p_many, p_most, ())
  X.fn (σ := Unit) none (X.bind (X.bind (X.bind (X.ok a.1) fun v1106 =>
  (X.bind (X.bind (X.bind (X.bind (X.bind (X.ok a.1) fun v1098 =>
  (X.ok (eI v1098))) fun v1099 =>
  (X.bind (X.ok ()) fun v1100 =>
  (X.ok (v1099, v1100)))) fun a1101 =>
  (t_all_step_sets a1101.1)) fun v1104 =>
  (X.bind (X.bind (X.ok a.2.1) fun v1102 =>
  (X.bind (X.ok ()) fun v1103 =>
  (X.ok (v1102, v1103)))) fun v1105 =>
  (X.ok (v1104, v1105)))) fun v1107 =>
  (X.ok (v1106, v1107)))) fun a1108 =>
  (t_least_gap a1108.1 a1108.2.1 a1108.2.2.1)) fun v1109 =>
  (X.ok (.ret v1109)))
theorem ok_t_least_step_gap : FnX F_least_step_gap [.f, .s] (aC eI (aC eI aN)) (eP2 eI eD) (fun a : Int × Int × Unit => t_least_step_gap a.1 a.2.1) := by
    apply q_fn (es := fun _ : Unit => [.u, .u]) (el := fun s => nomatch s) (k := 2) (body := c_least_step_gap) none (fun _ h => nomatch h)
    case h => intro c a; unfold c_least_step_gap; exact (q_ret (e := (eP2 eI eD)) (q_call ok_t_least_gap (q_aF (e := eI) (q_varF (e := eI) (a := a.1) 0 (by rfl)) (q_aF (e := (eT (eT eI))) (SimD.toE (q_call ok_t_all_step_sets (q_aF (e := eD) (q_cast (e1 := eD) (g' := eI) (q_varF (e := eI) (a := a.1) 0 (by rfl)) (fun _ => rfl)) q_aN) rfl)) (q_aS (e := eI) (q_var (e := eI) (a := a.2.1) 1 (by rfl)) q_aN))) rfl))
    case hm =>
      intro a
      unfold t_least_step_gap; simp only [X.m_fn, X.m_seq, X.m_bind, X.m_ite, X.m_ok, X.m_exc, X.m_lc, X.m_lc2, X.m_for, X.m_wh, X.m_try, X.m_hnd, X.m_sure]
def t_span_sets (p_many : D) : X (List (List Int)) := let a := (p_many, ())
  X.fn (σ := Unit) none (X.seq (X.bind (X.bind (X.bind (X.ok a.1) fun v1111 =>
  (X.bind (X.ok ()) fun v1112 =>
  (X.ok (v1111, v1112)))) fun a1113 =>
  (t_check_length a1113.1)) fun v1114 =>
  (X.ok (.next ()))) fun _s1110 =>
  (X.bind (X.bind (X.bind (X.bind (X.bind (X.bind (X.bind (X.ok a.1) fun v1115 =>
  (X.of (asI v1115))) fun v1116 =>
  (X.bind (X.ok ()) fun v1117 =>
  (X.ok (v1116, v1117)))) fun v1118 =>
  (X.of (rg1 v1118.1))) fun v1120 =>
  (X.bind (X.lc2 (fun x1119 => (X.ok true)) (fun x1119 => (X.bind (X.bind (X.bind (X.ok x1119) fun v1122 =>
  (X.bind (X.ok (1 : Int)) fun v1123 =>
  (X.of (some (v1122 + v1123))))) fun v1129 =>
  (X.bind (X.bind (X.bind (X.bind (X.ok a.1) fun v1124 =>
  (X.of (asI v1124))) fun v1125 =>
  (X.bind (X.ok (1 : Int)) fun v1126 =>
  (X.of (some (v1125 + v1126))))) fun v1127 =>
  (X.bind (X.ok ()) fun v1128 =>
  (X.ok (v1127, v1128)))) fun v1130 =>
  (X.ok (v1129, v1130)))) fun v1131 =>
  (X.of (rg2 v1131.1 v1131.2.1)))) (fun x1119 x1132 => (X.ok true)) (fun x1119 x1132 => (X.bind (X.bind (X.ok x1119) fun v1135 =>
  (X.bind (X.bind (X.ok x1132) fun v1133 =>
  (X.bind (X.ok ()) fun v1134 =>
  (X.ok (v1133, v1134)))) fun v1136 =>
  (X.ok (v1135, v1136)))) fun v1137 =>
  (X.of (rgO v1137.1 v1137.2.1)))) v1120) fun v1121 =>
  (X.of (limO v1121)))) fun v1138 =>
  (X.bind (X.ok ()) fun v1139 =>
  (X.ok (v1138, v1139)))) fun v1140 =>
  (X.of (some v1140.1))) fun v1141 =>
  (X.ok (.ret v1141))))
theorem ok_t_span_sets : FnX F_span_sets [.f] (aC eD aN) (eT (eT eI)) (fun a : D × Unit => t_span_sets a.1) := by
    apply q_fn (es := fun _ : Unit => [.u, .u, .u]) (el := fun s => nomatch s) (k := 3) (body := c_span_sets) none (fun _ h => nomatch h)
    case h => intro c a; unfold c_span_sets; exact (q_seq (q_expr (SimD.toE (q_call ok_t_check_length (q_aF (e := eD) (q_varF (e := eD) (a := a.1) 0 (by rfl)) q_aN) rfl))) (fun _s1110 =>
  (q_ret (e := (eT (eT eI))) (q_b (b_tupL (e := (eT eI))) (q_aF (e := (eL (eT eI))) (SimD.toE (q_lc2 (e := eI) (e1 := eI) (e2 := (eT eI)) (vs := [1, 2]) (vs1 := [2]) (SimI.j (q_r1 (q_aF (e := eI) (q_asE asI_is (q_varF (e := eD) (a := a.1) 0 (by rfl))) q_aN) rfl)) (q_bn (e := eI) 1) (fun x1119 => q_yes) (fun x1119 => (SimI.j (q_r2 (q_aF (e := eI) (SimD.toE (q_op o_addI (SimD.toE (q_var (e := eI) (a := x1119) 1 (by rfl))) (SimD.toE (q_const (e := eI) (a := (1 : Int)) rfl)))) (q_aF (e := eI) (SimD.toE (q_op o_addI (q_asE asI_is (q_varF (e := eD) (a := a.1) 0 (by rfl))) (SimD.toE (q_const (e := eI) (a := (1 : Int)) rfl)))) q_aN)) rfl))) (q_bn (e := eI) 2) (fun x1119 x1132 => q_yes) (fun x1119 x1132 => (q_rg2T (q_aF (e := eI) (SimD.toE (q_var (e := eI) (a := x1119) 1 (by rfl))) (q_aF (e := eI) (SimD.toE (q_var (e := eI) (a := x1132) 2 (by rfl))) q_aN)) rfl)))) q_aN) rfl))))
    case hm =>
      intro a
      unfold t_span_sets; simp only [X.m_fn, X.m_seq, X.m_bind, X.m_ite, X.m_ok, X.m_exc, X.m_lc, X.m_lc2, X.m_for, X.m_wh, X.m_try, X.m_hnd, X.m_sure]
def t_last_fits (p_signs : (List Int)) (p_gap : Int) : X Bool := let a := (p_signs, p_gap, ())
  X.fn (σ := Unit) none (X.seq (X.bind (X.bind (X.bind (X.ok a.1) fun v1223 =>
  (X.bind (X.ok ()) fun v1224 =>
  (X.ok (v1223, v1224)))) fun v1225 =>
  (X.of (some (v1225.1.length : Int)))) fun v1226 =>
  (X.ok (.next v1226))) fun s1222 =>
  (X.seq (X.bind (X.bind (X.bind (X.ok (1 : Int)) fun v1234 =>
  (X.bind (X.bind (X.bind (X.ok s1222) fun v1230 =>
  (X.bind (X.ok (1 : Int)) fun v1231 =>
  (X.of (some (v1230 + v1231))))) fun v1232 =>
  (X.bind (X.ok ()) fun v1233 =>
  (X.ok (v1232, v1233)))) fun v1235 =>
  (X.ok (v1234, v1235)))) fun v1236 =>
  (X.of (rg2 v1236.1 v1236.2.1))) fun v1300 =>
  (X.for (fun (s1228 : Unit) x1229 => (X.seq (X.bind (X.bind (X.bind (X.bind (X.bind (X.ok s1222) fun v1238 =>
  (X.bind (X.ok ()) fun v1239 =>
  (X.ok (v1238, v1239)))) fun v1240 =>
  (X.of (some v1240.1))) fun v1241 =>
  (X.bind (X.ok x1229) fun v1242 =>
  (X.of (modO v1241 v1242)))) fun v1243 =>
  (X.bind (X.ok (0 : Int)) fun v1244 =>
  (X.of (some (decide (v1243 = v1244)))))) fun v1299 =>
  (if v1299 = true then (X.seq (X.bind (X.bind (X.bind (X.bind (X.bind (X.bind (X.bind (X.bind (X.bind (X.ok x1229) fun v1279 =>
  (X.bind (X.bind (X.bind (X.ok s1222) fun v1273 =>
  (X.bind (X.ok (1 : Int)) fun v1274 =>
  (X.of (some (v1273 + v1274))))) fun v1277 =>
  (X.bind (X.bind (X.ok x1229) fun v1275 =>
  (X.bind (X.ok ()) fun v1276 =>
  (X.ok (v1275, v1276)))) fun v1278 =>
  (X.ok (v1277, v1278)))) fun v1280 =>
  (X.ok (v1279, v1280)))) fun v1281 =>
  (X.of (rg3 v1281.1 v1281.2.1 v1281.2.2.1))) fun v1283 =>
  (X.bind (X.lc (fun x1282 => (X.ok true)) (fun x1282 => (X.bind (X.ok a.1) fun v1287 =>
  (X.bind (X.bind (X.ok x1282) fun v1285 =>
  (X.bind (X.ok (1 : Int)) fun v1286 =>
  (X.of (some (v1285 - v1286))))) fun v1288 =>
  (X.of (L2.atI v1287 v1288))))) v1283) fun v1284 =>
  (X.of (limO v1284)))) fun v1289 =>
  (X.bind (X.ok ()) fun v1290 =>
  (X.ok (v1289, v1290)))) fun v1291 =>
  (X.of (some v1291.1.sum))) fun v1292 =>
  (X.bind (X.ok ()) fun v1293 =>
  (X.ok (v1292, v1293)))) fun v1294 =>
  (X.of (some (absT v1294.1)))) fun v1295 =>
  (X.bind (X.ok a.2.1) fun v1296 =>
  (X.of (some (decide (v1296 < v1295)))))) fun v1298 =>
  (if v1298 = true then (X.bind (X.ok false) fun v1297 =>
  (X.ok (.ret v1297))) else (X.ok (.next ())))) fun s1272 => (X.ok (.next ()))) else (X.ok (.next ())))) fun s1237 => (X.ok (.next ())))) v1300 ())) fun s1227 =>
  (X.bind (X.ok true) fun v1301 =>
  (X.ok (.ret v1301)))))
theorem ok_t_last_fits : FnX F_last_fits [.f, .f] (aC (eT eI) (aC eI aN)) eB (fun a : (List Int) × Int × Unit => t_last_fits a.1 a.2.1) := by
    apply q_fn (es := fun _ : Unit => [.u, .u, .u, .u, .u]) (el := fun s => nomatch s) (k := 5) (body := c_last_fits) none (fun _ h => nomatch h)
    case h => intro c a; unfold c_last_fits; exact (q_seq (q_set (e := eI) 2 (q_b (b_lenT (e := eI)) (q_aF (e := (eT eI)) (q_varF (e := (eT eI)) (a := a.1) 0 (by rfl)) q_aN) rfl)) (fun s1222 =>
  (q_seq (q_for (e := eI) (es := fun (s1228 : Unit) => [(.f ((eT eI) a.1)), (.f (eI a.2.1)), (.d (eI s1222)), .u, .u]) () (q_r2 (q_aF (e := eI) (SimD.toE (q_const (e := eI) (a := (1 : Int)) rfl)) (q_aF (e := eI) (SimD.toE (q_op o_addI (SimD.toE (q_var (e := eI) (a := s1222) 2 (by rfl))) (SimD.toE (q_const (e := eI) (a := (1 : Int)) rfl)))) q_aN)) rfl) (by exact (ls_k (ls_k (ls_k (ls_k (ls_k ls_n)))))) (q_bn (e := eI) 3) (fun s1228 x1229 =>
  (q_end (k := fun (s1237 : Unit) => ()) (q_sif (es := fun (s1237 : Unit) => [(.f ((eT eI) a.1)), (.f (eI a.2.1)), (.d (eI s1222)), (.d (eI x1229)), .u]) (q_tr (SimD.toE (q_op o_eqI (SimD.toE (q_op o_modI (SimD.toE (q_b b_intI (q_aF (e := eI) (SimD.toE (q_var (e := eI) (a := s1222) 2 (by rfl))) q_aN) rfl)) (SimD.toE (q_var (e := eI) (a := x1229) 3 (by rfl))))) (SimD.toE (q_const (e := eI) (a := (0 : Int)) rfl))))) (q_end (k := fun (s1272 : Unit) => ()) (q_sif (es := fun (s1272 : Unit) => [(.f ((eT eI) a.1)), (.f (eI a.2.1)), (.d (eI s1222)), (.d (eI x1229)), .u]) (q_tr (SimD.toE (q_op o_gtI (SimD.toE (q_b b_absI (q_aF (e := eI) (SimD.toE (q_b b_sum (q_aF (e := (eL eI)) (SimD.toE (q_lc (e := eI) (e1 := eI) (vs := [4]) (SimI.j (q_r3 (q_aF (e := eI) (SimD.toE (q_var (e := eI) (a := x1229) 3 (by rfl))) (q_aF (e := eI) (SimD.toE (q_op o_addI (SimD.toE (q_var (e := eI) (a := s1222) 2 (by rfl))) (SimD.toE (q_const (e := eI) (a := (1 : Int)) rfl)))) (q_aF (e := eI) (SimD.toE (q_var (e := eI) (a := x1229) 3 (by rfl))) q_aN))) rfl)) (q_bn (e := eI) 4) (fun x1282 => q_yes) (fun x1282 => (q_op (o_ixT (e := eI)) (q_varF (e := (eT eI)) (a := a.1) 0 (by rfl)) (SimD.toE (q_op o_subI (SimD.toE (q_var (e := eI) (a := x1282) 4 (by rfl))) (SimD.toE (q_const (e := eI) (a := (1 : Int)) rfl)))))))) q_aN) rfl)) q_aN) rfl)) (q_varF (e := eI) (a := a.2.1) 1 (by rfl))))) (q_ret (e := eB) (q_const (e := eB) (a := false) rfl)) (q_skip (s := ()) (by exact (ls_k (ls_k (ls_k (ls_k (ls_k ls_n)))))))) (fun s1272 => (by exact (ls_k (ls_k (ls_k (ls_k (ls_k ls_n)))))))) (q_skip (s := ()) (by exact (ls_k (ls_k (ls_k (ls_k (ls_k ls_n)))))))) (fun s1237 => (by exact (ls_k (ls_k (ls_k (ls_u (ls_k ls_n)))))))))) (fun s1227 =>
  (q_ret (e := eB) (q_const (e := eB) (a := true) rfl))))))
    case hm =>
      intro a
      unfold t_last_fits; simp only [X.m_fn, X.m_seq, X.m_bind, X.m_ite, X.m_ok, X.m_exc, X.m_lc, X.m_lc2, X.m_for, X.m_wh, X.m_try, X.m_hnd, X.m_sure]
def t_longest_multiples (p_gap : D) (p_most : D) : X (Int × (List Int)) := let a := (p_gap, p_most, ())
  X.fn (σ := Unit) none (X.seq (X.bind (X.bind (X.bind (X.ok a.1) fun v1303 =>
  (X.bind (X.ok ()) fun v1304 =>
  (X.ok (v1303, v1304)))) fun a1305 =>
  (t_check_length a1305.1)) fun v1306 =>
  (X.ok (.next ()))) fun _s1302 =>
  (X.seq (X.bind (X.bind (X.bind (X.ok a.2.1) fun v1308 =>
  (X.bind (X.ok ()) fun v1309 =>
  (X.ok (v1308, v1309)))) fun a1310 =>
  (t_check_length a1310.1)) fun v1311 =>
  (X.ok (.next ()))) fun _s1307 =>
  (X.seq (X.bind (X.bind (X.bind (X.ok ()) fun v1313 =>
  (X.ok ([] : List Int))) fun v1319 =>
  (X.bind (X.bind (X.bind (X.bind (X.ok ()) fun v1314 =>
  (X.ok ([] : List Int))) fun v1315 =>
  (X.bind (X.ok ()) fun v1316 =>
  (X.ok (v1315, v1316)))) fun v1317 =>
  (X.bind (X.ok ()) fun v1318 =>
  (X.ok (([v1317.1] : List (List Int)), v1318)))) fun v1320 =>
  (X.ok (v1319, v1320)))) fun v1321 =>
  (X.ok (.next v1321))) fun s1312 =>
  (X.seq (X.wh (fun (s1323 : (List (List Int)) × (List Int)) => (X.bind (X.bind (X.bind (X.bind (X.ok s1323.1) fun v1331 =>
  (X.bind (X.ok ()) fun v1332 =>
  (X.ok (v1331, v1332)))) fun v1333 =>
  (X.of (some (v1333.1.length : Int)))) fun v1334 =>
  (X.bind (X.ok (0 : Int)) fun v1335 =>
  (X.of (some (decide (v1335 < v1334)))))) fun v1336 =>
  (if v1336 = true then (X.bind (X.bind (X.bind (X.ok s1323.2) fun v1325 =>
  (X.bind (X.ok ()) fun v1326 =>
  (X.ok (v1325, v1326)))) fun v1327 =>
  (X.of (some (v1327.1.length : Int)))) fun v1329 =>
  (X.bind (X.bind (X.ok a.2.1) fun v1328 =>
  (X.of (asI v1328))) fun v1330 =>
  (X.of (some (decide (v1329 < v1330)))))) else (X.ok false)))) (fun (s1323 : (List (List Int)) × (List Int)) => (X.seq (X.bind (X.pop s1323.1) fun v1338 =>
  (X.ok (.next v1338))) fun s1337 =>
  (X.seq (X.bind (X.bind (X.bind (X.bind (X.bind (X.ok s1337.1) fun v1340 =>
  (X.bind (X.ok ()) fun v1341 =>
  (X.ok (v1340, v1341)))) fun v1342 =>
  (X.of (some (v1342.1.length : Int)))) fun v1346 =>
  (X.bind (X.bind (X.bind (X.ok s1323.2) fun v1343 =>
  (X.bind (X.ok ()) fun v1344 =>
  (X.ok (v1343, v1344)))) fun v1345 =>
  (X.of (some (v1345.1.length : Int)))) fun v1347 =>
  (X.of (some (decide (v1347 < v1346)))))) fun v1348 =>
  (if v1348 = true then (X.ok s1337.1) else (X.ok s1323.2))) fun v1349 =>
  (X.ok (.next v1349))) fun s1339 =>
  (X.seq (X.bind (X.bind (X.bind (X.bind (X.ok s1337.1) fun v1351 =>
  (X.bind (X.ok ()) fun v1352 =>
  (X.ok (v1351, v1352)))) fun v1353 =>
  (X.of (some (v1353.1.length : Int)))) fun v1355 =>
  (X.bind (X.bind (X.ok a.2.1) fun v1354 =>
  (X.of (asI v1354))) fun v1356 =>
  (X.of (some (decide (v1355 < v1356)))))) fun v1427 =>
  (if v1427 = true then (X.seq (X.bind (X.bind (X.bind (X.bind (X.bind (X.ok (1 : Int)) fun v1402 =>
  (X.of (some (-v1402)))) fun v1405 =>
  (X.bind (X.bind (X.ok (1 : Int)) fun v1403 =>
  (X.bind (X.ok ()) fun v1404 =>
  (X.ok (v1403, v1404)))) fun v1406 =>
  (X.ok (v1405, v1406)))) fun v1407 =>
  (X.ok [v1407.1, v1407.2.1])) fun v1420 =>
  (X.bind (X.lc (fun x1408 => (X.bind (X.bind (X.bind (X.ok s1337.1) fun v1412 =>
  (X.bind (X.bind (X.bind (X.ok x1408) fun v1409 =>
  (X.bind (X.ok ()) fun v1410 =>
  (X.ok (v1409, v1410)))) fun v1411 =>
  (X.ok [v1411.1])) fun v1413 =>
  (X.of (catO v1412 v1413)))) fun v1417 =>
  (X.bind (X.bind (X.bind (X.ok a.1) fun v1414 =>
  (X.of (asI v1414))) fun v1415 =>
  (X.bind (X.ok ()) fun v1416 =>
  (X.ok (v1415, v1416)))) fun v1418 =>
  (X.ok (v1417, v1418)))) fun a1419 =>
  (t_last_fits a1419.1 a1419.2.1))) (fun x1408 => (X.bind (X.ok s1337.1) fun v1425 =>
  (X.bind (X.bind (X.bind (X.ok x1408) fun v1422 =>
  (X.bind (X.ok ()) fun v1423 =>
  (X.ok (v1422, v1423)))) fun v1424 =>
  (X.ok [v1424.1])) fun v1426 =>
  (X.of (catO v1425 v1426))))) v1420) fun v1421 =>
  (X.of (limO v1421)))) fun v1393 =>
  (X.bind (X.ext s1337.2 v1393) fun v1395 =>
  (X.ok (.next v1395)))) fun s1392 => (X.ok (.next s1392))) else (X.ok (.next s1337.2)))) fun s1350 => (X.ok (.next (s1350, s1339))))))) fuel (s1312.2.1, s1312.1)) fun s1322 =>
  (X.bind (X.bind (X.bind (X.bind (X.bind (X.ok s1322.2) fun v1428 =>
  (X.bind (X.ok ()) fun v1429 =>
  (X.ok (v1428, v1429)))) fun v1430 =>
  (X.of (some (v1430.1.length : Int)))) fun v1433 =>
  (X.bind (X.bind (X.ok s1322.2) fun v1431 =>
  (X.bind (X.ok ()) fun v1432 =>
  (X.ok (v1431, v1432)))) fun v1434 =>
  (X.ok (v1433, v1434)))) fun v1435 =>
  (X.ok (v1435.1, v1435.2.1))) fun v1436 =>
  (X.ok (.ret v1436)))))))
theorem ok_t_longest_multiples : FnX F_longest_multiples [.f, .f] (aC eD (aC eD aN)) (eP2 eI (eT eI)) (fun a : D × D × Unit => t_longest_multiples a.1 a.2.1) := by
    apply q_fn (es := fun _ : Unit => [.u, .u, .u, .u, .u, .u]) (el := fun s => nomatch s) (k := 6) (body := c_longest_multiples) none (fun _ h => nomatch h)
    case h => intro c a; unfold c_longest_multiples; exact (q_seq (q_expr (SimD.toE (q_call ok_t_check_length (q_aF (e := eD) (q_varF (e := eD) (a := a.1) 0 (by rfl)) q_aN) rfl))) (fun _s1302 =>
  (q_seq (q_expr (SimD.toE (q_call ok_t_check_length (q_aF (e := eD) (q_varF (e := eD) (a := a.2.1) 1 (by rfl)) q_aN) rfl))) (fun _s1307 =>
  (q_seq (q_par (v_d (e := (eT eI)) (q_tup (e := (eT eI)) (g' := fun (_ : Unit) => []) q_aN rfl (fun _ => rfl) (fun _ => rfl)) (v_c (e := (eT eI)) (k := fun (b : (List Int) × Unit) => [b.1]) (q_aS (e := (eT eI)) (q_tup (e := (eT eI)) (g' := fun (_ : Unit) => []) q_aN rfl (fun _ => rfl) (fun _ => rfl)) q_aN) rfl (fun _ => rfl) (fun _ => rfl) v_nil))) (fun s1312 =>
  (q_seq (q_wh (es := fun (s1323 : (List (List Int)) × (List Int)) => [(.f (eD a.1)), (.f (eD a.2.1)), (.d ((eT eI) s1323.2)), (.c (s1323.1.map (eT eI))), .u, .u]) (s1312.2.1, s1312.1) (by exact (ls_k (ls_k (ls_k (ls_k (ls_k (ls_k ls_n))))))) (fun s1323 => (q_tand (q_tr (SimD.toE (q_op o_gtI (SimD.toE (q_b (b_lenL (e := (eT eI))) (q_aF (e := (eL (eT eI))) (q_varC (e := (eT eI)) (xs := s1323.1) 3 (by rfl)) q_aN) rfl)) (SimD.toE (q_const (e := eI) (a := (0 : Int)) rfl))))) (q_tr (SimD.toE (q_op o_ltI (SimD.toE (q_b (b_lenT (e := eI)) (q_aF (e := (eT eI)) (SimD.toE (q_var (e := (eT eI)) (a := s1323.2) 2 (by rfl))) q_aN) rfl)) (q_asE asI_is (q_varF (e := eD) (a := a.2.1) 1 (by rfl)))))))) (fun s1323 =>
  (q_seq (q_pop (e2 := (eT eI)) (xs := s1323.1) 4 3 (by rfl) (by decide)) (fun s1337 =>
  (q_seq (q_set (e := (eT eI)) 2 (q_if (q_tr (SimD.toE (q_op o_gtI (SimD.toE (q_b (b_lenT (e := eI)) (q_aF (e := (eT eI)) (SimD.toE (q_var (e := (eT eI)) (a := s1337.1) 4 (by rfl))) q_aN) rfl)) (SimD.toE (q_b (b_lenT (e := eI)) (q_aF (e := (eT eI)) (SimD.toE (q_var (e := (eT eI)) (a := s1323.2) 2 (by rfl))) q_aN) rfl))))) (q_var (e := (eT eI)) (a := s1337.1) 4 (by rfl)) (q_var (e := (eT eI)) (a := s1323.2) 2 (by rfl)))) (fun s1339 =>
  (q_end (k := fun (s1350 : (List (List Int))) => (s1350, s1339)) (q_sif (es := fun (s1350 : (List (List Int))) => [(.f (eD a.1)), (.f (eD a.2.1)), (.d ((eT eI) s1339)), (.c (s1350.map (eT eI))), (.d ((eT eI) s1337.1)), .u]) (q_tr (SimD.toE (q_op o_ltI (SimD.toE (q_b (b_lenT (e := eI)) (q_aF (e := (eT eI)) (SimD.toE (q_var (e := (eT eI)) (a := s1337.1) 4 (by rfl))) q_aN) rfl)) (q_asE asI_is (q_varF (e := eD) (a := a.2.1) 1 (by rfl)))))) (q_end (k := fun (s1392 : (List (List Int))) => s1392) (q_ext (e2 := (eT eI)) (xs := s1337.2) 3 (by rfl) (q_lc (e := eI) (e1 := (eT eI)) (vs := [5]) (SimI.j (q_ivT (e := eI) (SimD.toE (q_tup (e := (eT eI)) (g' := fun (b : Int × Int × Unit) => [b.1, b.2.1]) (q_aS (e := eI) (q_un u_negI (SimD.toE (q_const (e := eI) (a := (1 : Int)) rfl))) (q_aS (e := eI) (q_const (e := eI) (a := (1 : Int)) rfl) q_aN)) rfl (fun _ => rfl) (fun _ => rfl))))) (q_bn (e := eI) 5) (fun x1408 => (q_truB (SimD.toE (q_call ok_t_last_fits (q_aF (e := (eT eI)) (SimD.toE (q_op (o_addT (e := eI)) (SimD.toE (q_var (e := (eT eI)) (a := s1337.1) 4 (by rfl))) (SimD.toE (q_tup (e := (eT eI)) (g' := fun (b : Int × Unit) => [b.1]) (q_aS (e := eI) (q_var (e := eI) (a := x1408) 5 (by rfl)) q_aN) rfl (fun _ => rfl) (fun _ => rfl))))) (q_aF (e := eI) (q_asE asI_is (q_varF (e := eD) (a := a.1) 0 (by rfl))) q_aN)) rfl)))) (fun x1408 => (q_op (o_addT (e := eI)) (SimD.toE (q_var (e := (eT eI)) (a := s1337.1) 4 (by rfl))) (SimD.toE (q_tup (e := (eT eI)) (g' := fun (b : Int × Unit) => [b.1]) (q_aS (e := eI) (q_var (e := eI) (a := x1408) 5 (by rfl)) q_aN) rfl (fun _ => rfl) (fun _ => rfl))))))) (fun s1392 => (by exact (ls_k (ls_k (ls_k (ls_k (ls_k (ls_k ls_n))))))))) (q_skip (s := s1337.2) (by exact (ls_k (ls_k (ls_k (ls_k (ls_k (ls_k ls_n))))))))) (fun s1350 => (by exact (ls_k (ls_k (ls_k (ls_k (ls_u (ls_k ls_n))))))))))))))) (fun s1322 =>
  (q_ret (e := (eP2 eI (eT eI))) (q_tup (e := (eP2 eI (eT eI))) (g' := fun (b : Int × (List Int) × Unit) => (b.1, b.2.1)) (q_aS (e := eI) (q_b (b_lenT (e := eI)) (q_aF (e := (eT eI)) (SimD.toE (q_var (e := (eT eI)) (a := s1322.2) 2 (by rfl))) q_aN) rfl) (q_aS (e := (eT eI)) (q_var (e := (eT eI)) (a := s1322.2) 2 (by rfl)) q_aN)) rfl (fun _ => rfl) (fun _ => rfl)))))))))))
    case hm =>
      intro a
      unfold t_longest_multiples; simp only [X.m_fn, X.m_seq, X.m_bind, X.m_ite, X.m_ok, X.m_exc, X.m_lc, X.m_lc2, X.m_for, X.m_wh, X.m_try, X.m_hnd, X.m_sure]
def t_threes_sign (p_number : Int) : X Int := let a := (p_number, ())
  X.fn (σ := Unit) none (X.seq (X.wh (fun (s1462 : Int) => (X.bind (X.bind (X.bind (X.bind (X.ok s1462) fun v1464 =>
  (X.bind (X.ok ()) fun v1465 =>
  (X.ok (v1464, v1465)))) fun v1466 =>
  (X.of (some v1466.1))) fun v1467 =>
  (X.bind (X.ok (3 : Int)) fun v1468 =>
  (X.of (modO v1467 v1468)))) fun v1469 =>
  (X.bind (X.ok (0 : Int)) fun v1470 =>
  (X.of (some (decide (v1469 = v1470))))))) (fun (s1462 : Int) => (X.seq (X.bind (X.bind (X.ok s1462) fun v1472 =>
  (X.bind (X.ok (3 : Int)) fun v1473 =>
  (X.of (divO v1472 v1473)))) fun v1474 =>
  (X.ok (.next v1474))) fun s1471 => (X.ok (.next s1471)))) fuel a.1) fun s1461 =>
  (X.bind (X.bind (X.bind (X.bind (X.bind (X.bind (X.ok s1461) fun v1475 =>
  (X.bind (X.ok ()) fun v1476 =>
  (X.ok (v1475, v1476)))) fun v1477 =>
  (X.of (some v1477.1))) fun v1478 =>
  (X.bind (X.ok (3 : Int)) fun v1479 =>
  (X.of (modO v1478 v1479)))) fun v1480 =>
  (X.bind (X.ok (1 : Int)) fun v1481 =>
  (X.of (some (decide (v1480 = v1481)))))) fun v1483 =>
  (if v1483 = true then (X.ok (1 : Int)) else (X.bind (X.ok (1 : Int)) fun v1482 =>
  (X.of (some (-v1482)))))) fun v1484 =>
  (X.ok (.ret v1484))))
theorem ok_t_threes_sign : FnX F_threes_sign [.s] (aC eI aN) eI (fun a : Int × Unit => t_threes_sign a.1) := by
    apply q_fn (es := fun _ : Unit => [.u]) (el := fun s => nomatch s) (k := 1) (body := c_threes_sign) none (fun _ h => nomatch h)
    case h => intro c a; unfold c_threes_sign; exact (q_seq (q_wh (es := fun (s1462 : Int) => [(.d (eI s1462))]) a.1 (by exact (ls_k ls_n)) (fun s1462 => (q_tr (SimD.toE (q_op o_eqI (SimD.toE (q_op o_modI (SimD.toE (q_b b_intI (q_aF (e := eI) (SimD.toE (q_var (e := eI) (a := s1462) 0 (by rfl))) q_aN) rfl)) (SimD.toE (q_const (e := eI) (a := (3 : Int)) rfl)))) (SimD.toE (q_const (e := eI) (a := (0 : Int)) rfl)))))) (fun s1462 =>
  (q_end (k := fun (s1471 : Int) => s1471) (q_set (e := eI) 0 (q_op o_divI (SimD.toE (q_var (e := eI) (a := s1462) 0 (by rfl))) (SimD.toE (q_const (e := eI) (a := (3 : Int)) rfl)))) (fun s1471 => (by exact (ls_k ls_n)))))) (fun s1461 =>
  (q_ret (e := eI) (q_if (q_tr (SimD.toE (q_op o_eqI (SimD.toE (q_op o_modI (SimD.toE (q_b b_intI (q_aF (e := eI) (SimD.toE (q_var (e := eI) (a := s1461) 0 (by rfl))) q_aN) rfl)) (SimD.toE (q_const (e := eI) (a := (3 : Int)) rfl)))) (SimD.toE (q_const (e := eI) (a := (1 : Int)) rfl))))) (q_const (e := eI) (a := (1 : Int)) rfl) (q_un u_negI (SimD.toE (q_const (e := eI) (a := (1 : Int)) rfl)))))))
    case hm =>
      intro a
      unfold t_threes_sign; simp only [X.m_fn, X.m_seq, X.m_bind, X.m_ite, X.m_ok, X.m_exc, X.m_lc, X.m_lc2, X.m_for, X.m_wh, X.m_try, X.m_hnd, X.m_sure]
def t_threes_signs (p_many : D) : X (List Int) := let a := (p_many, ())
  X.fn (σ := Unit) none (X.seq (X.bind (X.bind (X.bind (X.ok a.1) fun v1509 =>
  (X.bind (X.ok ()) fun v1510 =>
  (X.ok (v1509, v1510)))) fun a1511 =>
  (t_check_length a1511.1)) fun v1512 =>
  (X.ok (.next ()))) fun _s1508 =>
  (X.bind (X.bind (X.bind (X.bind (X.bind (X.bind (X.ok (1 : Int)) fun v1518 =>
  (X.bind (X.bind (X.bind (X.bind (X.ok a.1) fun v1513 =>
  (X.of (asI v1513))) fun v1514 =>
  (X.bind (X.ok (1 : Int)) fun v1515 =>
  (X.of (some (v1514 + v1515))))) fun v1516 =>
  (X.bind (X.ok ()) fun v1517 =>
  (X.ok (v1516, v1517)))) fun v1519 =>
  (X.ok (v1518, v1519)))) fun v1520 =>
  (X.of (rg2 v1520.1 v1520.2.1))) fun v1522 =>
  (X.bind (X.lc (fun x1521 => (X.ok true)) (fun x1521 => (X.bind (X.bind (X.ok x1521) fun v1524 =>
  (X.bind (X.ok ()) fun v1525 =>
  (X.ok (v1524, v1525)))) fun a1526 =>
  (t_threes_sign a1526.1))) v1522) fun v1523 =>
  (X.of (limO v1523)))) fun v1527 =>
  (X.bind (X.ok ()) fun v1528 =>
  (X.ok (v1527, v1528)))) fun v1529 =>
  (X.of (some v1529.1))) fun v1530 =>
  (X.ok (.ret v1530))))
theorem ok_t_threes_signs : FnX F_threes_signs [.f] (aC eD aN) (eT eI) (fun a : D × Unit => t_threes_signs a.1) := by
    apply q_fn (es := fun _ : Unit => [.u, .u]) (el := fun s => nomatch s) (k := 2) (body := c_threes_signs) none (fun _ h => nomatch h)
    case h => intro c a; unfold c_threes_signs; exact (q_seq (q_expr (SimD.toE (q_call ok_t_check_length (q_aF (e := eD) (q_varF (e := eD) (a := a.1) 0 (by rfl)) q_aN) rfl))) (fun _s1508 =>
  (q_ret (e := (eT eI)) (q_b (b_tupL (e := eI)) (q_aF (e := (eL eI)) (SimD.toE (q_lc (e := eI) (e1 := eI) (vs := [1]) (SimI.j (q_r2 (q_aF (e := eI) (SimD.toE (q_const (e := eI) (a := (1 : Int)) rfl)) (q_aF (e := eI) (SimD.toE (q_op o_addI (q_asE asI_is (q_varF (e := eD) (a := a.1) 0 (by rfl))) (SimD.toE (q_const (e := eI) (a := (1 : Int)) rfl)))) q_aN)) rfl)) (q_bn (e := eI) 1) (fun x1521 => q_yes) (fun x1521 => (q_call ok_t_threes_sign (q_aS (e := eI) (q_var (e := eI) (a := x1521) 1 (by rfl)) q_aN) rfl)))) q_aN) rfl))))
    case hm =>
      intro a
      unfold t_threes_signs; simp only [X.m_fn, X.m_seq, X.m_bind, X.m_ite, X.m_ok, X.m_exc, X.m_lc, X.m_lc2, X.m_for, X.m_wh, X.m_try, X.m_hnd, X.m_sure]
def t_threes_sum (p_many : D) : X Int := let a := (p_many, ())
  X.fn (σ := Unit) none (X.seq (X.bind (X.bind (X.bind (X.ok a.1) fun v1569 =>
  (X.bind (X.ok ()) fun v1570 =>
  (X.ok (v1569, v1570)))) fun a1571 =>
  (t_check_length a1571.1)) fun v1572 =>
  (X.ok (.next ()))) fun _s1568 =>
  (X.seq (X.bind (X.ok (0 : Int)) fun v1574 =>
  (X.ok (.next v1574))) fun s1573 =>
  (X.seq (X.wh (fun (s1576 : Int × D) => (X.bind (X.bind (X.ok s1576.2) fun v1578 =>
  (X.of (asI v1578))) fun v1579 =>
  (X.bind (X.ok (0 : Int)) fun v1580 =>
  (X.of (some (decide (v1580 < v1579))))))) (fun (s1576 : Int × D) => (X.seq (X.bind (X.bind (X.ok s1576.1) fun v1596 =>
  (X.bind (X.bind (X.bind (X.bind (X.bind (X.bind (X.bind (X.bind (X.ok s1576.2) fun v1585 =>
  (X.of (asI v1585))) fun v1586 =>
  (X.bind (X.ok ()) fun v1587 =>
  (X.ok (v1586, v1587)))) fun v1588 =>
  (X.of (some v1588.1))) fun v1589 =>
  (X.bind (X.ok (3 : Int)) fun v1590 =>
  (X.of (modO v1589 v1590)))) fun v1591 =>
  (X.bind (X.ok (1 : Int)) fun v1592 =>
  (X.of (some (decide (v1591 = v1592)))))) fun v1593 =>
  (X.bind (X.ok ()) fun v1594 =>
  (X.ok (v1593, v1594)))) fun v1595 =>
  (X.of (some (if v1595.1 = true then 1 else 0)))) fun v1597 =>
  (X.of (some (v1596 + v1597))))) fun v1598 =>
  (X.ok (.next v1598))) fun s1581 =>
  (X.seq (X.bind (X.bind (X.bind (X.ok s1576.2) fun v1600 =>
  (X.of (asI v1600))) fun v1601 =>
  (X.bind (X.ok (3 : Int)) fun v1602 =>
  (X.of (divO v1601 v1602)))) fun v1603 =>
  (X.ok (.next v1603))) fun s1599 => (X.ok (.next (s1581, (eI s1599))))))) fuel (s1573, a.1)) fun s1575 =>
  (X.bind (X.ok s1575.1) fun v1604 =>
  (X.ok (.ret v1604))))))
theorem ok_t_threes_sum : FnX F_threes_sum [.s] (aC eD aN) eI (fun a : D × Unit => t_threes_sum a.1) := by
    apply q_fn (es := fun _ : Unit => [.u, .u]) (el := fun s => nomatch s) (k := 2) (body := c_threes_sum) none (fun _ h => nomatch h)
    case h => intro c a; unfold c_threes_sum; exact (q_seq (q_expr (SimD.toE (q_call ok_t_check_length (q_aF (e := eD) (SimD.toE (q_var (e := eD) (a := a.1) 0 (by rfl))) q_aN) rfl))) (fun _s1568 =>
  (q_seq (q_set (e := eI) 1 (q_const (e := eI) (a := (0 : Int)) rfl)) (fun s1573 =>
  (q_seq (q_wh (es := fun (s1576 : Int × D) => [(.d (eD s1576.2)), (.d (eI s1576.1))]) (s1573, a.1) (by exact (ls_k (ls_k ls_n))) (fun s1576 => (q_tr (SimD.toE (q_op o_gtI (SimD.toE (q_as asI_is (q_var (e := eD) (a := s1576.2) 0 (by rfl)))) (SimD.toE (q_const (e := eI) (a := (0 : Int)) rfl)))))) (fun s1576 =>
  (q_seq (q_set (e := eI) 1 (q_op o_addI2 (SimD.toE (q_var (e := eI) (a := s1576.1) 1 (by rfl))) (SimD.toE (q_b b_intB (q_aF (e := eB) (SimD.toE (q_op o_eqI (SimD.toE (q_op o_modI (SimD.toE (q_b b_intI (q_aF (e := eI) (SimD.toE (q_as asI_is (q_var (e := eD) (a := s1576.2) 0 (by rfl)))) q_aN) rfl)) (SimD.toE (q_const (e := eI) (a := (3 : Int)) rfl)))) (SimD.toE (q_const (e := eI) (a := (1 : Int)) rfl)))) q_aN) rfl)))) (fun s1581 =>
  (q_end (k := fun (s1599 : Int) => (s1581, (eI s1599))) (q_set (e := eI) 0 (q_op o_divI (SimD.toE (q_as asI_is (q_var (e := eD) (a := s1576.2) 0 (by rfl)))) (SimD.toE (q_const (e := eI) (a := (3 : Int)) rfl)))) (fun s1599 => (by exact (ls_k (ls_k ls_n))))))))) (fun s1575 =>
  (q_ret (e := eI) (q_var (e := eI) (a := s1575.1) 1 (by rfl)))))))))
    case hm =>
      intro a
      unfold t_threes_sum; simp only [X.m_fn, X.m_seq, X.m_bind, X.m_ite, X.m_ok, X.m_exc, X.m_lc, X.m_lc2, X.m_for, X.m_wh, X.m_try, X.m_hnd, X.m_sure]
def t__law_refused (p_kind : Int) (p_value : D) : X D := let a := (p_kind, p_value, ())
  X.fn (σ := Unit) none (X.try (X.seq (X.bind (X.bind (X.ok a.1) fun v1607 =>
  (X.bind (X.ok (0 : Int)) fun v1608 =>
  (X.of (some (decide (v1607 = v1608)))))) fun v7523 =>
  (if v7523 = true then (X.seq (X.bind (X.bind (X.bind (X.ok a.2.1) fun v4567 =>
  (X.bind (X.ok ()) fun v4568 =>
  (X.ok (v4567, v4568)))) fun a4569 =>
  (t_span_sets a4569.1)) fun v4570 =>
  (X.ok (.next ()))) fun _s4566 => (X.ok (.next ()))) else (X.seq (X.bind (X.bind (X.ok a.1) fun v4572 =>
  (X.bind (X.ok (1 : Int)) fun v4573 =>
  (X.of (some (decide (v4572 = v4573)))))) fun v7522 =>
  (if v7522 = true then (X.seq (X.bind (X.bind (X.bind (X.ok a.2.1) fun v6052 =>
  (X.bind (X.bind (X.bind (X.ok (1 : Int)) fun v6049 =>
  (X.ok (eI v6049))) fun v6050 =>
  (X.bind (X.ok ()) fun v6051 =>
  (X.ok (v6050, v6051)))) fun v6053 =>
  (X.ok (v6052, v6053)))) fun a6054 =>
  (t_step_sets a6054.1 a6054.2.1)) fun v6055 =>
  (X.ok (.next ()))) fun _s6048 => (X.ok (.next ()))) else (X.seq (X.bind (X.bind (X.ok a.1) fun v6057 =>
  (X.bind (X.ok (2 : Int)) fun v6058 =>
  (X.of (some (decide (v6057 = v6058)))))) fun v7521 =>
  (if v7521 = true then (X.seq (X.bind (X.bind (X.bind (X.ok a.2.1) fun v6791 =>
  (X.bind (X.ok ()) fun v6792 =>
  (X.ok (v6791, v6792)))) fun a6793 =>
  (t_all_step_sets a6793.1)) fun v6794 =>
  (X.ok (.next ()))) fun _s6790 => (X.ok (.next ()))) else (X.seq (X.bind (X.bind (X.ok a.1) fun v6796 =>
  (X.bind (X.ok (3 : Int)) fun v6797 =>
  (X.of (some (decide (v6796 = v6797)))))) fun v7520 =>
  (if v7520 = true then (X.seq (X.bind (X.bind (X.bind (X.ok a.2.1) fun v7160 =>
  (X.bind (X.ok ()) fun v7161 =>
  (X.ok (v7160, v7161)))) fun a7162 =>
  (t_multiple_sets a7162.1)) fun v7163 =>
  (X.ok (.next ()))) fun _s7159 => (X.ok (.next ()))) else (X.seq (X.bind (X.bind (X.ok a.1) fun v7165 =>
  (X.bind (X.ok (4 : Int)) fun v7166 =>
  (X.of (some (decide (v7165 = v7166)))))) fun v7519 =>
  (if v7519 = true then (X.seq (X.bind (X.bind (X.bind (X.ok a.2.1) fun v7347 =>
  (X.bind (X.bind (X.bind (X.ok (3 : Int)) fun v7344 =>
  (X.ok (eI v7344))) fun v7345 =>
  (X.bind (X.ok ()) fun v7346 =>
  (X.ok (v7345, v7346)))) fun v7348 =>
  (X.ok (v7347, v7348)))) fun a7349 =>
  (t_longest_multiples a7349.1 a7349.2.1)) fun v7350 =>
  (X.ok (.next ()))) fun _s7343 => (X.ok (.next ()))) else (X.seq (X.bind (X.bind (X.ok a.1) fun v7352 =>
  (X.bind (X.ok (5 : Int)) fun v7353 =>
  (X.of (some (decide (v7352 = v7353)))))) fun v7518 =>
  (if v7518 = true then (X.seq (X.bind (X.bind (X.bind (X.bind (X.ok (1 : Int)) fun v7437 =>
  (X.ok (eI v7437))) fun v7440 =>
  (X.bind (X.bind (X.ok a.2.1) fun v7438 =>
  (X.bind (X.ok ()) fun v7439 =>
  (X.ok (v7438, v7439)))) fun v7441 =>
  (X.ok (v7440, v7441)))) fun a7442 =>
  (t_longest_multiples a7442.1 a7442.2.1)) fun v7443 =>
  (X.ok (.next ()))) fun _s7436 => (X.ok (.next ()))) else (X.seq (X.bind (X.bind (X.ok a.1) fun v7445 =>
  (X.bind (X.ok (6 : Int)) fun v7446 =>
  (X.of (some (decide (v7445 = v7446)))))) fun v7517 =>
  (if v7517 = true then (X.seq (X.bind (X.bind (X.bind (X.ok a.2.1) fun v7483 =>
  (X.bind (X.ok ()) fun v7484 =>
  (X.ok (v7483, v7484)))) fun a7485 =>
  (t_threes_signs a7485.1)) fun v7486 =>
  (X.ok (.next ()))) fun _s7482 => (X.ok (.next ()))) else (X.seq (X.bind (X.bind (X.ok a.1) fun v7488 =>
  (X.bind (X.ok (7 : Int)) fun v7489 =>
  (X.of (some (decide (v7488 = v7489)))))) fun v7516 =>
  (if v7516 = true then (X.seq (X.bind (X.bind (X.bind (X.ok a.2.1) fun v7504 =>
  (X.bind (X.ok ()) fun v7505 =>
  (X.ok (v7504, v7505)))) fun a7506 =>
  (t_threes_sum a7506.1)) fun v7507 =>
  (X.ok (.next ()))) fun _s7503 => (X.ok (.next ()))) else (X.seq (X.bind (X.bind (X.bind (X.bind (X.ok (5 : Int)) fun v7509 =>
  (X.ok (eI v7509))) fun v7512 =>
  (X.bind (X.bind (X.ok a.2.1) fun v7510 =>
  (X.bind (X.ok ()) fun v7511 =>
  (X.ok (v7510, v7511)))) fun v7513 =>
  (X.ok (v7512, v7513)))) fun a7514 =>
  (t_step_sets a7514.1 a7514.2.1)) fun v7515 =>
  (X.ok (.next ()))) fun _s7508 => (X.ok (.next ()))))) fun s7487 => (X.ok (.next ()))))) fun s7444 => (X.ok (.next ()))))) fun s7351 => (X.ok (.next ()))))) fun s7164 => (X.ok (.next ()))))) fun s6795 => (X.ok (.next ()))))) fun s6056 => (X.ok (.next ()))))) fun s4571 => (X.ok (.next ()))))) fun s1606 =>
  (X.bind (X.bind (X.ok ("none" : Str)) fun v7524 =>
  (X.ok (eS v7524))) fun v7525 =>
  (X.ok (.ret v7525)))) (fun cn pl => (if (subX cn "InvalidRow") = true then (X.hnd (σ1 := Unit) (X.bind (X.ok pl) fun v7526 =>
  (X.ok (.ret v7526)))) else (X.exc cn pl))))
theorem ok_t__law_refused : FnX F__law_refused [.f, .s] (aC eI (aC eD aN)) eD (fun a : Int × D × Unit => t__law_refused a.1 a.2.1) := by
    apply q_fn (es := fun _ : Unit => [.u, .u, .u]) (el := fun s => nomatch s) (k := 3) (body := c__law_refused) none (fun _ h => nomatch h)
    case h => intro c a; unfold c__law_refused; exact (q_try (exs := [(.f (eI a.1)), (.d (eD a.2.1)), .u]) (q_seq (q_sif (es := fun (s1606 : Unit) => [(.f (eI a.1)), (.d (eD a.2.1)), .u]) (q_tr (SimD.toE (q_op o_eqI (q_varF (e := eI) (a := a.1) 0 (by rfl)) (SimD.toE (q_const (e := eI) (a := (0 : Int)) rfl))))) (q_end (k := fun (_s4566 : Unit) => ()) (q_expr (SimD.toE (q_call ok_t_span_sets (q_aF (e := eD) (SimD.toE (q_var (e := eD) (a := a.2.1) 1 (by rfl))) q_aN) rfl)) (hx := fun e h => by cases h; exact (by exact (ls_k (ls_k (ls_k ls_n)))))) (fun _s4566 => (by exact (ls_k (ls_k (ls_k ls_n)))))) (q_end (k := fun (s4571 : Unit) => ()) (q_sif (es := fun (s4571 : Unit) => [(.f (eI a.1)), (.d (eD a.2.1)), .u]) (q_tr (SimD.toE (q_op o_eqI (q_varF (e := eI) (a := a.1) 0 (by rfl)) (SimD.toE (q_const (e := eI) (a := (1 : Int)) rfl))))) (q_end (k := fun (_s6048 : Unit) => ()) (q_expr (SimD.toE (q_call ok_t_step_sets (q_aF (e := eD) (SimD.toE (q_var (e := eD) (a := a.2.1) 1 (by rfl))) (q_aF (e := eD) (SimD.toE (q_castD (e1 := eD) (g' := eI) (q_const (e := eI) (a := (1 : Int)) rfl) (fun _ => rfl))) q_aN)) rfl)) (hx := fun e h => by cases h; exact (by exact (ls_k (ls_k (ls_k ls_n)))))) (fun _s6048 => (by exact (ls_k (ls_k (ls_k ls_n)))))) (q_end (k := fun (s6056 : Unit) => ()) (q_sif (es := fun (s6056 : Unit) => [(.f (eI a.1)), (.d (eD a.2.1)), .u]) (q_tr (SimD.toE (q_op o_eqI (q_varF (e := eI) (a := a.1) 0 (by rfl)) (SimD.toE (q_const (e := eI) (a := (2 : Int)) rfl))))) (q_end (k := fun (_s6790 : Unit) => ()) (q_expr (SimD.toE (q_call ok_t_all_step_sets (q_aF (e := eD) (SimD.toE (q_var (e := eD) (a := a.2.1) 1 (by rfl))) q_aN) rfl)) (hx := fun e h => by cases h; exact (by exact (ls_k (ls_k (ls_k ls_n)))))) (fun _s6790 => (by exact (ls_k (ls_k (ls_k ls_n)))))) (q_end (k := fun (s6795 : Unit) => ()) (q_sif (es := fun (s6795 : Unit) => [(.f (eI a.1)), (.d (eD a.2.1)), .u]) (q_tr (SimD.toE (q_op o_eqI (q_varF (e := eI) (a := a.1) 0 (by rfl)) (SimD.toE (q_const (e := eI) (a := (3 : Int)) rfl))))) (q_end (k := fun (_s7159 : Unit) => ()) (q_expr (SimD.toE (q_call ok_t_multiple_sets (q_aF (e := eD) (SimD.toE (q_var (e := eD) (a := a.2.1) 1 (by rfl))) q_aN) rfl)) (hx := fun e h => by cases h; exact (by exact (ls_k (ls_k (ls_k ls_n)))))) (fun _s7159 => (by exact (ls_k (ls_k (ls_k ls_n)))))) (q_end (k := fun (s7164 : Unit) => ()) (q_sif (es := fun (s7164 : Unit) => [(.f (eI a.1)), (.d (eD a.2.1)), .u]) (q_tr (SimD.toE (q_op o_eqI (q_varF (e := eI) (a := a.1) 0 (by rfl)) (SimD.toE (q_const (e := eI) (a := (4 : Int)) rfl))))) (q_end (k := fun (_s7343 : Unit) => ()) (q_expr (SimD.toE (q_call ok_t_longest_multiples (q_aF (e := eD) (SimD.toE (q_var (e := eD) (a := a.2.1) 1 (by rfl))) (q_aF (e := eD) (SimD.toE (q_castD (e1 := eD) (g' := eI) (q_const (e := eI) (a := (3 : Int)) rfl) (fun _ => rfl))) q_aN)) rfl)) (hx := fun e h => by cases h; exact (by exact (ls_k (ls_k (ls_k ls_n)))))) (fun _s7343 => (by exact (ls_k (ls_k (ls_k ls_n)))))) (q_end (k := fun (s7351 : Unit) => ()) (q_sif (es := fun (s7351 : Unit) => [(.f (eI a.1)), (.d (eD a.2.1)), .u]) (q_tr (SimD.toE (q_op o_eqI (q_varF (e := eI) (a := a.1) 0 (by rfl)) (SimD.toE (q_const (e := eI) (a := (5 : Int)) rfl))))) (q_end (k := fun (_s7436 : Unit) => ()) (q_expr (SimD.toE (q_call ok_t_longest_multiples (q_aF (e := eD) (SimD.toE (q_castD (e1 := eD) (g' := eI) (q_const (e := eI) (a := (1 : Int)) rfl) (fun _ => rfl))) (q_aF (e := eD) (SimD.toE (q_var (e := eD) (a := a.2.1) 1 (by rfl))) q_aN)) rfl)) (hx := fun e h => by cases h; exact (by exact (ls_k (ls_k (ls_k ls_n)))))) (fun _s7436 => (by exact (ls_k (ls_k (ls_k ls_n)))))) (q_end (k := fun (s7444 : Unit) => ()) (q_sif (es := fun (s7444 : Unit) => [(.f (eI a.1)), (.d (eD a.2.1)), .u]) (q_tr (SimD.toE (q_op o_eqI (q_varF (e := eI) (a := a.1) 0 (by rfl)) (SimD.toE (q_const (e := eI) (a := (6 : Int)) rfl))))) (q_end (k := fun (_s7482 : Unit) => ()) (q_expr (SimD.toE (q_call ok_t_threes_signs (q_aF (e := eD) (SimD.toE (q_var (e := eD) (a := a.2.1) 1 (by rfl))) q_aN) rfl)) (hx := fun e h => by cases h; exact (by exact (ls_k (ls_k (ls_k ls_n)))))) (fun _s7482 => (by exact (ls_k (ls_k (ls_k ls_n)))))) (q_end (k := fun (s7487 : Unit) => ()) (q_sif (es := fun (s7487 : Unit) => [(.f (eI a.1)), (.d (eD a.2.1)), .u]) (q_tr (SimD.toE (q_op o_eqI (q_varF (e := eI) (a := a.1) 0 (by rfl)) (SimD.toE (q_const (e := eI) (a := (7 : Int)) rfl))))) (q_end (k := fun (_s7503 : Unit) => ()) (q_expr (SimD.toE (q_call ok_t_threes_sum (q_aS (e := eD) (q_var (e := eD) (a := a.2.1) 1 (by rfl)) q_aN) rfl)) (hx := fun e h => by cases h; exact (by exact (ls_k (ls_k (ls_k ls_n)))))) (fun _s7503 => (by exact (ls_k (ls_k (ls_k ls_n)))))) (q_end (k := fun (_s7508 : Unit) => ()) (q_expr (SimD.toE (q_call ok_t_step_sets (q_aF (e := eD) (SimD.toE (q_castD (e1 := eD) (g' := eI) (q_const (e := eI) (a := (5 : Int)) rfl) (fun _ => rfl))) (q_aF (e := eD) (SimD.toE (q_var (e := eD) (a := a.2.1) 1 (by rfl))) q_aN)) rfl)) (hx := fun e h => by cases h; exact (by exact (ls_k (ls_k (ls_k ls_n)))))) (fun _s7508 => (by exact (ls_k (ls_k (ls_k ls_n)))))) (hx := fun e h => by cases h; exact (by exact (ls_k (ls_k (ls_k ls_n)))))) (fun s7487 => (by exact (ls_k (ls_k (ls_k ls_n)))))) (hx := fun e h => by cases h; exact (by exact (ls_k (ls_k (ls_k ls_n)))))) (fun s7444 => (by exact (ls_k (ls_k (ls_k ls_n)))))) (hx := fun e h => by cases h; exact (by exact (ls_k (ls_k (ls_k ls_n)))))) (fun s7351 => (by exact (ls_k (ls_k (ls_k ls_n)))))) (hx := fun e h => by cases h; exact (by exact (ls_k (ls_k (ls_k ls_n)))))) (fun s7164 => (by exact (ls_k (ls_k (ls_k ls_n)))))) (hx := fun e h => by cases h; exact (by exact (ls_k (ls_k (ls_k ls_n)))))) (fun s6795 => (by exact (ls_k (ls_k (ls_k ls_n)))))) (hx := fun e h => by cases h; exact (by exact (ls_k (ls_k (ls_k ls_n)))))) (fun s6056 => (by exact (ls_k (ls_k (ls_k ls_n)))))) (hx := fun e h => by cases h; exact (by exact (ls_k (ls_k (ls_k ls_n)))))) (fun s4571 => (by exact (ls_k (ls_k (ls_k ls_n)))))) (hx := fun e h => by cases h; exact (by exact (ls_k (ls_k (ls_k ls_n)))))) (fun s1606 =>
  (q_ret (e := eD) (q_castD (e1 := eD) (g' := eS) (q_const (e := eS) (a := ("none" : Str)) rfl) (fun _ => rfl)) (hx := fun e h => by cases h; exact (by exact (ls_k (ls_k (ls_k ls_n)))))))) (fun cn pl => (q_has (σ1 := Unit) (es1 := fun _ => []) rfl (q_ret (e := eD) (q_xf (x := pl) 2 (by rfl))) q_hnil)))
    case hm =>
      intro a
      unfold t__law_refused; simp only [X.m_fn, X.m_seq, X.m_bind, X.m_ite, X.m_ok, X.m_exc, X.m_lc, X.m_lc2, X.m_for, X.m_wh, X.m_try, X.m_hnd, X.m_sure]
def t__law_steps (p_many : Int) (p_step : Int) : X (List (List Int)) := let a := (p_many, p_step, ())
  X.fn (σ := Unit) none (X.seq (X.bind (X.bind (X.ok ()) fun v7573 =>
  (X.bind (X.ok ()) fun v7574 =>
  (X.ok (([] : List (List Int)), v7574)))) fun v7575 =>
  (X.ok (.next v7575))) fun s7572 =>
  (X.seq (X.bind (X.bind (X.bind (X.ok a.1) fun v7579 =>
  (X.bind (X.ok ()) fun v7580 =>
  (X.ok (v7579, v7580)))) fun v7581 =>
  (X.of (rg1 v7581.1))) fun v7616 =>
  (X.for (fun (s7577 : (List (List Int))) x7578 => (X.seq (X.bind (X.ok (2 : Int)) fun v7583 =>
  (X.ok (.next v7583))) fun s7582 =>
  (X.seq (X.wh (fun (s7585 : (List (List Int)) × Int) => (X.bind (X.bind (X.ok x7578) fun v7591 =>
  (X.bind (X.bind (X.ok a.2.1) fun v7589 =>
  (X.bind (X.bind (X.ok s7585.2) fun v7587 =>
  (X.bind (X.ok (1 : Int)) fun v7588 =>
  (X.of (some (v7587 - v7588))))) fun v7590 =>
  (X.of (mulO v7589 v7590)))) fun v7592 =>
  (X.of (some (v7591 + v7592))))) fun v7593 =>
  (X.bind (X.ok a.1) fun v7594 =>
  (X.of (some (decide (v7593 < v7594))))))) (fun (s7585 : (List (List Int)) × Int) => (X.seq (X.bind (X.bind (X.bind (X.bind (X.bind (X.bind (X.ok s7585.2) fun v7599 =>
  (X.bind (X.ok ()) fun v7600 =>
  (X.ok (v7599, v7600)))) fun v7601 =>
  (X.of (rg1 v7601.1))) fun v7603 =>
  (X.bind (X.lc (fun x7602 => (X.ok true)) (fun x7602 => (X.bind (X.ok x7578) fun v7607 =>
  (X.bind (X.bind (X.ok a.2.1) fun v7605 =>
  (X.bind (X.ok x7602) fun v7606 =>
  (X.of (mulO v7605 v7606)))) fun v7608 =>
  (X.of (some (v7607 + v7608)))))) v7603) fun v7604 =>
  (X.of (limO v7604)))) fun v7609 =>
  (X.bind (X.ok ()) fun v7610 =>
  (X.ok (v7609, v7610)))) fun v7611 =>
  (X.of (some v7611.1))) fun v7596 =>
  (X.bind (X.app s7585.1 v7596) fun v7598 =>
  (X.ok (.next v7598)))) fun s7595 =>
  (X.seq (X.bind (X.bind (X.ok s7585.2) fun v7613 =>
  (X.bind (X.ok (1 : Int)) fun v7614 =>
  (X.of (some (v7613 + v7614))))) fun v7615 =>
  (X.ok (.next v7615))) fun s7612 => (X.ok (.next (s7595, s7612)))))) fuel (s7577, s7582)) fun s7584 => (X.ok (.next s7584.1))))) v7616 s7572.1)) fun s7576 =>
  (X.ok (.ret s7576))))
theorem ok_t__law_steps : FnX F__law_steps [.f, .f] (aC eI (aC eI aN)) (eL (eT eI)) (fun a : Int × Int × Unit => t__law_steps a.1 a.2.1) := by
    apply q_fn (es := fun _ : Unit => [.u, .u, .u, .u, .u, .u]) (el := fun s => nomatch s) (k := 6) (body := c__law_steps) none (fun _ h => nomatch h)
    case h => intro c a; unfold c__law_steps; exact (q_seq (q_new (i := 2) (v_c (e := (eT eI)) (k := fun (b : Unit) => []) q_aN rfl (fun _ => rfl) (fun _ => rfl) v_nil)) (fun s7572 =>
  (q_seq (q_for (e := eI) (es := fun (s7577 : (List (List Int))) => [(.f (eI a.1)), (.f (eI a.2.1)), (.c (s7577.map (eT eI))), .u, .u, .u]) s7572.1 (q_r1 (q_aF (e := eI) (q_varF (e := eI) (a := a.1) 0 (by rfl)) q_aN) rfl) (by exact (ls_k (ls_k (ls_k (ls_k (ls_k (ls_k ls_n))))))) (q_bn (e := eI) 3) (fun s7577 x7578 =>
  (q_seq (q_set (e := eI) 4 (q_const (e := eI) (a := (2 : Int)) rfl)) (fun s7582 =>
  (q_end (k := fun (s7584 : (List (List Int)) × Int) => s7584.1) (q_wh (es := fun (s7585 : (List (List Int)) × Int) => [(.f (eI a.1)), (.f (eI a.2.1)), (.c (s7585.1.map (eT eI))), (.d (eI x7578)), (.d (eI s7585.2)), .u]) (s7577, s7582) (by exact (ls_k (ls_k (ls_k (ls_k (ls_k (ls_k ls_n))))))) (fun s7585 => (q_tr (SimD.toE (q_op o_ltI (SimD.toE (q_op o_addI (SimD.toE (q_var (e := eI) (a := x7578) 3 (by rfl))) (SimD.toE (q_op o_mulI (q_varF (e := eI) (a := a.2.1) 1 (by rfl)) (SimD.toE (q_op o_subI (SimD.toE (q_var (e := eI) (a := s7585.2) 4 (by rfl))) (SimD.toE (q_const (e := eI) (a := (1 : Int)) rfl)))))))) (q_varF (e := eI) (a := a.1) 0 (by rfl)))))) (fun s7585 =>
  (q_seq (q_app (e1 := (eT eI)) (xs := s7585.1) 2 (by rfl) (q_b (b_tupL (e := eI)) (q_aF (e := (eL eI)) (SimD.toE (q_lc (e := eI) (e1 := eI) (vs := [5]) (SimI.j (q_r1 (q_aF (e := eI) (SimD.toE (q_var (e := eI) (a := s7585.2) 4 (by rfl))) q_aN) rfl)) (q_bn (e := eI) 5) (fun x7602 => q_yes) (fun x7602 => (q_op o_addI (SimD.toE (q_var (e := eI) (a := x7578) 3 (by rfl))) (SimD.toE (q_op o_mulI (q_varF (e := eI) (a := a.2.1) 1 (by rfl)) (SimD.toE (q_var (e := eI) (a := x7602) 5 (by rfl))))))))) q_aN) rfl)) (fun s7595 =>
  (q_end (k := fun (s7612 : Int) => (s7595, s7612)) (q_set (e := eI) 4 (q_op o_addI (SimD.toE (q_var (e := eI) (a := s7585.2) 4 (by rfl))) (SimD.toE (q_const (e := eI) (a := (1 : Int)) rfl)))) (fun s7612 => (by exact (ls_k (ls_k (ls_k (ls_k (ls_k (ls_k ls_n))))))))))))) (fun s7584 => (by exact (ls_k (ls_k (ls_k (ls_u (ls_u (ls_k ls_n))))))))))))) (fun s7576 =>
  (q_retC (e := (eT eI)) (xs := s7576) 2 (by rfl))))))
    case hm =>
      intro a
      unfold t__law_steps; simp only [X.m_fn, X.m_seq, X.m_bind, X.m_ite, X.m_ok, X.m_exc, X.m_lc, X.m_lc2, X.m_for, X.m_wh, X.m_try, X.m_hnd, X.m_sure]
def t__law_multiples (p_many : Int) : X (List (List Int)) := let a := (p_many, ())
  X.fn (σ := Unit) none (X.seq (X.bind (X.bind (X.ok ()) fun v7666 =>
  (X.ok ([] : List (List Int)))) fun v7667 =>
  (X.ok (.next v7667))) fun s7665 =>
  (X.seq (X.bind (X.bind (X.bind (X.ok (1 : Int)) fun v7675 =>
  (X.bind (X.bind (X.bind (X.ok a.1) fun v7671 =>
  (X.bind (X.ok (1 : Int)) fun v7672 =>
  (X.of (some (v7671 + v7672))))) fun v7673 =>
  (X.bind (X.ok ()) fun v7674 =>
  (X.ok (v7673, v7674)))) fun v7676 =>
  (X.ok (v7675, v7676)))) fun v7677 =>
  (X.of (rg2 v7677.1 v7677.2.1))) fun v7711 =>
  (X.for (fun (s7669 : (List (List Int))) x7670 => (X.seq (X.bind (X.bind (X.ok s7669) fun v7708 =>
  (X.bind (X.bind (X.bind (X.bind (X.ok (1 : Int)) fun v7685 =>
  (X.bind (X.bind (X.bind (X.bind (X.ok a.1) fun v7679 =>
  (X.bind (X.ok x7670) fun v7680 =>
  (X.of (divO v7679 v7680)))) fun v7681 =>
  (X.bind (X.ok (1 : Int)) fun v7682 =>
  (X.of (some (v7681 + v7682))))) fun v7683 =>
  (X.bind (X.ok ()) fun v7684 =>
  (X.ok (v7683, v7684)))) fun v7686 =>
  (X.ok (v7685, v7686)))) fun v7687 =>
  (X.of (rg2 v7687.1 v7687.2.1))) fun v7689 =>
  (X.bind (X.lc (fun x7688 => (X.ok true)) (fun x7688 => (X.bind (X.bind (X.bind (X.bind (X.bind (X.ok (1 : Int)) fun v7695 =>
  (X.bind (X.bind (X.bind (X.ok x7688) fun v7691 =>
  (X.bind (X.ok (1 : Int)) fun v7692 =>
  (X.of (some (v7691 + v7692))))) fun v7693 =>
  (X.bind (X.ok ()) fun v7694 =>
  (X.ok (v7693, v7694)))) fun v7696 =>
  (X.ok (v7695, v7696)))) fun v7697 =>
  (X.of (rg2 v7697.1 v7697.2.1))) fun v7699 =>
  (X.bind (X.lc (fun x7698 => (X.ok true)) (fun x7698 => (X.bind (X.bind (X.ok x7670) fun v7701 =>
  (X.bind (X.ok x7698) fun v7702 =>
  (X.of (mulO v7701 v7702)))) fun v7703 =>
  (X.bind (X.ok (1 : Int)) fun v7704 =>
  (X.of (some (v7703 - v7704)))))) v7699) fun v7700 =>
  (X.of (limO v7700)))) fun v7705 =>
  (X.bind (X.ok ()) fun v7706 =>
  (X.ok (v7705, v7706)))) fun v7707 =>
  (X.of (some v7707.1)))) v7689) fun v7690 =>
  (X.of (limO v7690)))) fun v7709 =>
  (X.of (catO v7708 v7709)))) fun v7710 =>
  (X.ok (.next v7710))) fun s7678 => (X.ok (.next s7678)))) v7711 s7665)) fun s7668 =>
  (X.bind (X.ok s7668) fun v7712 =>
  (X.ok (.ret v7712)))))
theorem ok_t__law_multiples : FnX F__law_multiples [.f] (aC eI aN) (eL (eT eI)) (fun a : Int × Unit => t__law_multiples a.1) := by
    apply q_fn (es := fun _ : Unit => [.u, .u, .u, .u, .u]) (el := fun s => nomatch s) (k := 5) (body := c__law_multiples) none (fun _ h => nomatch h)
    case h => intro c a; unfold c__law_multiples; exact (q_seq (q_set (e := (eL (eT eI))) 1 (q_lst (e := (eL (eT eI))) (g' := fun (_ : Unit) => []) q_aN rfl (fun _ => rfl) (fun _ => rfl))) (fun s7665 =>
  (q_seq (q_for (e := eI) (es := fun (s7669 : (List (List Int))) => [(.f (eI a.1)), (.d ((eL (eT eI)) s7669)), .u, .u, .u]) s7665 (q_r2 (q_aF (e := eI) (SimD.toE (q_const (e := eI) (a := (1 : Int)) rfl)) (q_aF (e := eI) (SimD.toE (q_op o_addI (q_varF (e := eI) (a := a.1) 0 (by rfl)) (SimD.toE (q_const (e := eI) (a := (1 : Int)) rfl)))) q_aN)) rfl) (by exact (ls_k (ls_k (ls_k (ls_k (ls_k ls_n)))))) (q_bn (e := eI) 2) (fun s7669 x7670 =>
  (q_end (k := fun (s7678 : (List (List Int))) => s7678) (q_set (e := (eL (eT eI))) 1 (q_op (o_addL (e := (eT eI))) (SimD.toE (q_var (e := (eL (eT eI))) (a := s7669) 1 (by rfl))) (SimD.toE (q_lc (e := eI) (e1 := (eT eI)) (vs := [3]) (SimI.j (q_r2 (q_aF (e := eI) (SimD.toE (q_const (e := eI) (a := (1 : Int)) rfl)) (q_aF (e := eI) (SimD.toE (q_op o_addI (SimD.toE (q_op o_divI (q_varF (e := eI) (a := a.1) 0 (by rfl)) (SimD.toE (q_var (e := eI) (a := x7670) 2 (by rfl))))) (SimD.toE (q_const (e := eI) (a := (1 : Int)) rfl)))) q_aN)) rfl)) (q_bn (e := eI) 3) (fun x7688 => q_yes) (fun x7688 => (q_b (b_tupL (e := eI)) (q_aF (e := (eL eI)) (SimD.toE (q_lc (e := eI) (e1 := eI) (vs := [4]) (SimI.j (q_r2 (q_aF (e := eI) (SimD.toE (q_const (e := eI) (a := (1 : Int)) rfl)) (q_aF (e := eI) (SimD.toE (q_op o_addI (SimD.toE (q_var (e := eI) (a := x7688) 3 (by rfl))) (SimD.toE (q_const (e := eI) (a := (1 : Int)) rfl)))) q_aN)) rfl)) (q_bn (e := eI) 4) (fun x7698 => q_yes) (fun x7698 => (q_op o_subI (SimD.toE (q_op o_mulI (SimD.toE (q_var (e := eI) (a := x7670) 2 (by rfl))) (SimD.toE (q_var (e := eI) (a := x7698) 4 (by rfl))))) (SimD.toE (q_const (e := eI) (a := (1 : Int)) rfl)))))) q_aN) rfl)))))) (fun s7678 => (by exact (ls_k (ls_k (ls_u (ls_k (ls_k ls_n)))))))))) (fun s7668 =>
  (q_ret (e := (eL (eT eI))) (q_var (e := (eL (eT eI))) (a := s7668) 1 (by rfl)))))))
    case hm =>
      intro a
      unfold t__law_multiples; simp only [X.m_fn, X.m_seq, X.m_bind, X.m_ite, X.m_ok, X.m_exc, X.m_lc, X.m_lc2, X.m_for, X.m_wh, X.m_try, X.m_hnd, X.m_sure]
def t__law_longest (p_gap : Int) (p_most : Int) : X (Int × (List Int)) := let a := (p_gap, p_most, ())
  X.fn (σ := Unit) none (X.seq (X.bind (X.bind (X.bind (X.bind (X.ok ()) fun v7714 =>
  (X.ok ([] : List Int))) fun v7715 =>
  (X.bind (X.ok ()) fun v7716 =>
  (X.ok (v7715, v7716)))) fun v7717 =>
  (X.ok [v7717.1])) fun v7718 =>
  (X.ok (.next v7718))) fun s7713 =>
  (X.seq (X.bind (X.bind (X.bind (X.ok (1 : Int)) fun v7726 =>
  (X.bind (X.bind (X.bind (X.ok a.2.1) fun v7722 =>
  (X.bind (X.ok (1 : Int)) fun v7723 =>
  (X.of (some (v7722 + v7723))))) fun v7724 =>
  (X.bind (X.ok ()) fun v7725 =>
  (X.ok (v7724, v7725)))) fun v7727 =>
  (X.ok (v7726, v7727)))) fun v7728 =>
  (X.of (rg2 v7728.1 v7728.2.1))) fun v7806 =>
  (X.for (fun (s7720 : (List (List Int))) x7721 => (X.seq (X.bind (X.bind (X.bind (X.bind (X.ok x7721) fun v7730 =>
  (X.bind (X.ok ()) fun v7731 =>
  (X.ok (v7730, v7731)))) fun a7732 =>
  (t__law_multiples a7732.1)) fun v7741 =>
  (X.bind (X.lc (fun x7733 => (X.bind (X.bind (X.ok x7733) fun v7735 =>
  (X.bind (X.bind (X.ok (1 : Int)) fun v7734 =>
  (X.of (some (-v7734)))) fun v7736 =>
  (X.of (L2.atI v7735 v7736)))) fun v7739 =>
  (X.bind (X.bind (X.ok x7721) fun v7737 =>
  (X.bind (X.ok (1 : Int)) fun v7738 =>
  (X.of (some (v7737 - v7738))))) fun v7740 =>
  (X.of (some (decide (v7739 = v7740))))))) (fun x7733 => (X.ok x7733)) v7741) fun v7742 =>
  (X.of (limO v7742)))) fun v7743 =>
  (X.ok (.next v7743))) fun s7729 =>
  (X.seq (X.bind (X.bind (X.ok ()) fun v7745 =>
  (X.ok ([] : List (List Int)))) fun v7746 =>
  (X.ok (.next v7746))) fun s7744 =>
  (X.seq (X.bind (X.ok s7720) fun v7788 =>
  (X.for (fun (s7748 : (List (List Int))) x7749 => (X.seq (X.bind (X.bind (X.ok s7748) fun v7785 =>
  (X.bind (X.bind (X.bind (X.bind (X.ok (1 : Int)) fun v7762 =>
  (X.bind (X.bind (X.bind (X.ok (0 : Int)) fun v7758 =>
  (X.bind (X.ok (1 : Int)) fun v7759 =>
  (X.of (some (v7758 - v7759))))) fun v7760 =>
  (X.bind (X.ok ()) fun v7761 =>
  (X.ok (v7760, v7761)))) fun v7763 =>
  (X.ok (v7762, v7763)))) fun v7764 =>
  (X.ok [v7764.1, v7764.2.1])) fun v7778 =>
  (X.bind (X.lc (fun x7765 => (X.bind (X.bind (X.bind (X.ok s7729) fun v7773 =>
  (X.bind (X.bind (X.bind (X.ok x7749) fun v7769 =>
  (X.bind (X.bind (X.bind (X.ok x7765) fun v7766 =>
  (X.bind (X.ok ()) fun v7767 =>
  (X.ok (v7766, v7767)))) fun v7768 =>
  (X.ok [v7768.1])) fun v7770 =>
  (X.of (catO v7769 v7770)))) fun v7771 =>
  (X.bind (X.ok ()) fun v7772 =>
  (X.ok (v7771, v7772)))) fun v7774 =>
  (X.ok (v7773, v7774)))) fun a7775 =>
  (t__law_gap a7775.1 a7775.2.1)) fun v7776 =>
  (X.bind (X.ok a.1) fun v7777 =>
  (X.of (some (decide (v7776 ≤ v7777))))))) (fun x7765 => (X.bind (X.ok x7749) fun v7783 =>
  (X.bind (X.bind (X.bind (X.ok x7765) fun v7780 =>
  (X.bind (X.ok ()) fun v7781 =>
  (X.ok (v7780, v7781)))) fun v7782 =>
  (X.ok [v7782.1])) fun v7784 =>
  (X.of (catO v7783 v7784))))) v7778) fun v7779 =>
  (X.of (limO v7779)))) fun v7786 =>
  (X.of (catO v7785 v7786)))) fun v7787 =>
  (X.ok (.next v7787))) fun s7750 => (X.ok (.next s7750)))) v7788 s7744)) fun s7747 =>
  (X.seq (X.bind (X.bind (X.ok s7747) fun v7791 =>
  (X.bind (X.bind (X.ok ()) fun v7790 =>
  (X.ok ([] : List (List Int)))) fun v7792 =>
  (X.of (eqD ((eL (eT eI)) v7791) ((eL (eT eI)) v7792))))) fun v7803 =>
  (if v7803 = true then (X.bind (X.bind (X.bind (X.bind (X.ok x7721) fun v7793 =>
  (X.bind (X.ok (1 : Int)) fun v7794 =>
  (X.of (some (v7793 - v7794))))) fun v7799 =>
  (X.bind (X.bind (X.bind (X.ok s7720) fun v7795 =>
  (X.bind (X.ok (0 : Int)) fun v7796 =>
  (X.of (L2.atI v7795 v7796)))) fun v7797 =>
  (X.bind (X.ok ()) fun v7798 =>
  (X.ok (v7797, v7798)))) fun v7800 =>
  (X.ok (v7799, v7800)))) fun v7801 =>
  (X.ok (v7801.1, v7801.2.1))) fun v7802 =>
  (X.ok (.ret v7802))) else (X.ok (.next ())))) fun s7789 =>
  (X.seq (X.bind (X.ok s7747) fun v7805 =>
  (X.ok (.next v7805))) fun s7804 => (X.ok (.next s7804)))))))) v7806 s7713)) fun s7719 =>
  (X.bind (X.bind (X.bind (X.ok a.2.1) fun v7811 =>
  (X.bind (X.bind (X.bind (X.ok s7719) fun v7807 =>
  (X.bind (X.ok (0 : Int)) fun v7808 =>
  (X.of (L2.atI v7807 v7808)))) fun v7809 =>
  (X.bind (X.ok ()) fun v7810 =>
  (X.ok (v7809, v7810)))) fun v7812 =>
  (X.ok (v7811, v7812)))) fun v7813 =>
  (X.ok (v7813.1, v7813.2.1))) fun v7814 =>
  (X.ok (.ret v7814)))))
theorem ok_t__law_longest : FnX F__law_longest [.f, .s] (aC eI (aC eI aN)) (eP2 eI (eT eI)) (fun a : Int × Int × Unit => t__law_longest a.1 a.2.1) := by
    apply q_fn (es := fun _ : Unit => [.u, .u, .u, .u, .u, .u, .u, .u, .u]) (el := fun s => nomatch s) (k := 9) (body := c__law_longest) none (fun _ h => nomatch h)
    case h => intro c a; unfold c__law_longest; exact (q_seq (q_set (e := (eL (eT eI))) 2 (q_lst (e := (eL (eT eI))) (g' := fun (b : (List Int) × Unit) => [b.1]) (q_aS (e := (eT eI)) (q_tup (e := (eT eI)) (g' := fun (_ : Unit) => []) q_aN rfl (fun _ => rfl) (fun _ => rfl)) q_aN) rfl (fun _ => rfl) (fun _ => rfl))) (fun s7713 =>
  (q_seq (q_for (e := eI) (es := fun (s7720 : (List (List Int))) => [(.f (eI a.1)), (.d (eI a.2.1)), (.d ((eL (eT eI)) s7720)), .u, .u, .u, .u, .u, .u]) s7713 (q_r2 (q_aF (e := eI) (SimD.toE (q_const (e := eI) (a := (1 : Int)) rfl)) (q_aF (e := eI) (SimD.toE (q_op o_addI (SimD.toE (q_var (e := eI) (a := a.2.1) 1 (by rfl))) (SimD.toE (q_const (e := eI) (a := (1 : Int)) rfl)))) q_aN)) rfl) (by exact (ls_k (ls_k (ls_k (ls_k (ls_k (ls_k (ls_k (ls_k (ls_k ls_n)))))))))) (q_bn (e := eI) 3) (fun s7720 x7721 =>
  (q_seq (q_set (e := (eL (eT eI))) 4 (q_lc (e := (eT eI)) (e1 := (eT eI)) (vs := [7]) (SimI.j (q_ivL (e := (eT eI)) (q_call ok_t__law_multiples (q_aF (e := eI) (SimD.toE (q_var (e := eI) (a := x7721) 3 (by rfl))) q_aN) rfl))) (q_bn (e := (eT eI)) 7) (fun x7733 => (q_tr (SimD.toE (q_op o_eqI (SimD.toE (q_op (o_ixT (e := eI)) (SimD.toE (q_var (e := (eT eI)) (a := x7733) 7 (by rfl))) (SimD.toE (q_un u_negI (SimD.toE (q_const (e := eI) (a := (1 : Int)) rfl)))))) (SimD.toE (q_op o_subI (SimD.toE (q_var (e := eI) (a := x7721) 3 (by rfl))) (SimD.toE (q_const (e := eI) (a := (1 : Int)) rfl)))))))) (fun x7733 => (q_var (e := (eT eI)) (a := x7733) 7 (by rfl))))) (fun s7729 =>
  (q_seq (q_set (e := (eL (eT eI))) 5 (q_lst (e := (eL (eT eI))) (g' := fun (_ : Unit) => []) q_aN rfl (fun _ => rfl) (fun _ => rfl))) (fun s7744 =>
  (q_seq (q_for (e := (eT eI)) (es := fun (s7748 : (List (List Int))) => [(.f (eI a.1)), (.d (eI a.2.1)), (.d ((eL (eT eI)) s7720)), (.d (eI x7721)), (.d ((eL (eT eI)) s7729)), (.d ((eL (eT eI)) s7748)), .u, .u, .u]) s7744 (q_ivL (e := (eT eI)) (q_var (e := (eL (eT eI))) (a := s7720) 2 (by rfl))) (by exact (ls_k (ls_k (ls_k (ls_k (ls_k (ls_k (ls_k (ls_k (ls_k ls_n)))))))))) (q_bn (e := (eT eI)) 6) (fun s7748 x7749 =>
  (q_end (k := fun (s7750 : (List (List Int))) => s7750) (q_set (e := (eL (eT eI))) 5 (q_op (o_addL (e := (eT eI))) (SimD.toE (q_var (e := (eL (eT eI))) (a := s7748) 5 (by rfl))) (SimD.toE (q_lc (e := eI) (e1 := (eT eI)) (vs := [8]) (SimI.j (q_ivT (e := eI) (SimD.toE (q_tup (e := (eT eI)) (g' := fun (b : Int × Int × Unit) => [b.1, b.2.1]) (q_aS (e := eI) (q_const (e := eI) (a := (1 : Int)) rfl) (q_aS (e := eI) (q_op o_subI (SimD.toE (q_const (e := eI) (a := (0 : Int)) rfl)) (SimD.toE (q_const (e := eI) (a := (1 : Int)) rfl))) q_aN)) rfl (fun _ => rfl) (fun _ => rfl))))) (q_bn (e := eI) 8) (fun x7765 => (q_tr (SimD.toE (q_op o_leI (SimD.toE (q_call ok_t__law_gap (q_aF (e := (eL (eT eI))) (SimD.toE (q_var (e := (eL (eT eI))) (a := s7729) 4 (by rfl))) (q_aF (e := (eT eI)) (SimD.toE (q_op (o_addT (e := eI)) (SimD.toE (q_var (e := (eT eI)) (a := x7749) 6 (by rfl))) (SimD.toE (q_tup (e := (eT eI)) (g' := fun (b : Int × Unit) => [b.1]) (q_aS (e := eI) (q_var (e := eI) (a := x7765) 8 (by rfl)) q_aN) rfl (fun _ => rfl) (fun _ => rfl))))) q_aN)) rfl)) (q_varF (e := eI) (a := a.1) 0 (by rfl)))))) (fun x7765 => (q_op (o_addT (e := eI)) (SimD.toE (q_var (e := (eT eI)) (a := x7749) 6 (by rfl))) (SimD.toE (q_tup (e := (eT eI)) (g' := fun (b : Int × Unit) => [b.1]) (q_aS (e := eI) (q_var (e := eI) (a := x7765) 8 (by rfl)) q_aN) rfl (fun _ => rfl) (fun _ => rfl))))))))) (fun s7750 => (by exact (ls_k (ls_k (ls_k (ls_k (ls_k (ls_k (ls_u (ls_k (ls_k ls_n)))))))))))))) (fun s7747 =>
  (q_seq (q_sif (es := fun (s7789 : Unit) => [(.f (eI a.1)), (.d (eI a.2.1)), (.d ((eL (eT eI)) s7720)), (.d (eI x7721)), (.d ((eL (eT eI)) s7729)), (.d ((eL (eT eI)) s7747)), .u, .u, .u]) (q_tr (SimD.toE (q_op (o_eq (e := (eL (eT eI))) (e1 := (eL (eT eI)))) (SimD.toE (q_var (e := (eL (eT eI))) (a := s7747) 5 (by rfl))) (SimD.toE (q_lst (e := (eL (eT eI))) (g' := fun (_ : Unit) => []) q_aN rfl (fun _ => rfl) (fun _ => rfl)))))) (q_ret (e := (eP2 eI (eT eI))) (q_tup (e := (eP2 eI (eT eI))) (g' := fun (b : Int × (List Int) × Unit) => (b.1, b.2.1)) (q_aS (e := eI) (q_op o_subI (SimD.toE (q_var (e := eI) (a := x7721) 3 (by rfl))) (SimD.toE (q_const (e := eI) (a := (1 : Int)) rfl))) (q_aS (e := (eT eI)) (q_op (o_ixL (e := (eT eI))) (SimD.toE (q_var (e := (eL (eT eI))) (a := s7720) 2 (by rfl))) (SimD.toE (q_const (e := eI) (a := (0 : Int)) rfl))) q_aN)) rfl (fun _ => rfl) (fun _ => rfl))) (q_skip (s := ()) (by exact (ls_k (ls_k (ls_k (ls_k (ls_k (ls_k (ls_k (ls_k (ls_k ls_n)))))))))))) (fun s7789 =>
  (q_end (k := fun (s7804 : (List (List Int))) => s7804) (q_set (e := (eL (eT eI))) 2 (q_var (e := (eL (eT eI))) (a := s7747) 5 (by rfl))) (fun s7804 => (by exact (ls_k (ls_k (ls_k (ls_u (ls_u (ls_u (ls_k (ls_k (ls_k ls_n)))))))))))))))))))))) (fun s7719 =>
  (q_ret (e := (eP2 eI (eT eI))) (q_tup (e := (eP2 eI (eT eI))) (g' := fun (b : Int × (List Int) × Unit) => (b.1, b.2.1)) (q_aS (e := eI) (q_var (e := eI) (a := a.2.1) 1 (by rfl)) (q_aS (e := (eT eI)) (q_op (o_ixL (e := (eT eI))) (SimD.toE (q_var (e := (eL (eT eI))) (a := s7719) 2 (by rfl))) (SimD.toE (q_const (e := eI) (a := (0 : Int)) rfl))) q_aN)) rfl (fun _ => rfl) (fun _ => rfl)))))))
    case hm =>
      intro a
      unfold t__law_longest; simp only [X.m_fn, X.m_seq, X.m_bind, X.m_ite, X.m_ok, X.m_exc, X.m_lc, X.m_lc2, X.m_for, X.m_wh, X.m_try, X.m_hnd, X.m_sure]
end K35


set_option Elab.async false
set_option linter.all false
set_option maxRecDepth 100000
set_option maxHeartbeats 8000000

namespace K35
open PySem PySem.Spec FW
def m_2 (ns : (List Int)) : M (Fl ((Int × Int)) Empty Bool) :=
  (M.bind (M.bind (M.bind (M.bind (M.bind (M.pure ns) fun v7830 =>
  (M.bind (M.bind (M.pure (11 : Int)) fun v7828 =>
  (M.bind (M.pure ()) fun v7829 =>
  (M.pure (v7828, v7829)))) fun v7831 =>
  (M.pure (v7830, v7831)))) fun a7832 =>
  (w__law_draw a7832.1 a7832.2.1)) fun v7842 =>
  (M.bind (M.bind (M.bind (M.pure (1 : Int)) fun v7838 =>
  (M.bind (M.bind (M.bind (M.pure ns) fun v7835 =>
  (M.bind (M.bind (M.pure (6 : Int)) fun v7833 =>
  (M.bind (M.pure ()) fun v7834 =>
  (M.pure (v7833, v7834)))) fun v7836 =>
  (M.pure (v7835, v7836)))) fun a7837 =>
  (w__law_draw a7837.1 a7837.2.1)) fun v7839 =>
  (X.of (some (v7838 + v7839))).m)) fun v7840 =>
  (M.bind (M.pure ()) fun v7841 =>
  (M.pure (v7840, v7841)))) fun v7843 =>
  (M.pure (v7842, v7843)))) fun v7844 =>
  (M.pure (v7844.1, v7844.2.1))) fun v7845 =>
  (M.pure (.next v7845)))
theorem sl_2 {n0 : Nat} {base : Sto} (ns : (List Int)) : SimS ⟨n0, base, some 0, TI, false⟩ (fun s7815 : (Int × Int) => [(.d ((eL eI) ns)), .t, .u, .u, .u, .u, .u, .u, .u, .u, .u, .u, .u, .u, .u, .u, .u, (.d (eI s7815.1)), (.d (eI s7815.2)), .u, .u, .u, .u, .u, .u, .u]) (fun s : Empty => nomatch s) (rD eB) none [(.d ((eL eI) ns)), .t, .u, .u, .u, .u, .u, .u, .u, .u, .u, .u, .u, .u, .u, .u, .u, .u, .u, .u, .u, .u, .u, .u, .u, .u] l_2 (m_2 ns) := by
  unfold l_2 m_2
  exact (q_unp2 (e := eI) (e1 := eI) 17 18 (q_tup (e := (eP2 eI eI)) (g' := fun (b : Int × Int × Unit) => (b.1, b.2.1)) (q_aS (e := eI) (q_callM (c := ⟨n0, base, some 0, TI, false⟩) ok_w__law_draw (q_aT 1 (by rfl) (q_aF (e := (eL eI)) (SimD.toE (q_var (e := (eL eI)) (a := ns) 0 (by rfl))) (q_aF (e := eI) (SimD.toE (q_const (e := eI) (a := (11 : Int)) rfl)) q_aN))) rfl) (q_aS (e := eI) (q_op o_addI (SimD.toE (q_const (e := eI) (a := (1 : Int)) rfl)) (SimD.toE (q_callM (c := ⟨n0, base, some 0, TI, false⟩) ok_w__law_draw (q_aT 1 (by rfl) (q_aF (e := (eL eI)) (SimD.toE (q_var (e := (eL eI)) (a := ns) 0 (by rfl))) (q_aF (e := eI) (SimD.toE (q_const (e := eI) (a := (6 : Int)) rfl)) q_aN))) rfl))) q_aN)) rfl (fun _ => rfl) (fun _ => rfl)))
def x_3 (ns : (List Int)) (v_many : Int) (v_step : Int) : X (Fl ((List (List Int))) Empty Bool) :=
  (X.bind (X.bind (X.ok ()) fun v7847 =>
  (X.ok ([] : List (List Int)))) fun v7848 =>
  (X.ok (.next v7848)))
def m_3 (ns : (List Int)) (v_many : Int) (v_step : Int) : M (Fl ((List (List Int))) Empty Bool) := (x_3 ns v_many v_step).m
theorem sl_3 {n0 : Nat} {base : Sto} (ns : (List Int)) (v_many : Int) (v_step : Int) : SimS ⟨n0, base, some 0, TI, false⟩ (fun s7846 : (List (List Int)) => [(.d ((eL eI) ns)), .t, (.d ((eL (eT eI)) s7846)), .u, .u, .u, .u, .u, .u, .u, .u, .u, .u, .u, .u, .u, .u, (.d (eI v_many)), (.d (eI v_step)), .u, .u, .u, .u, .u, .u, .u]) (fun s : Empty => nomatch s) (rD eB) none [(.d ((eL eI) ns)), .t, .u, .u, .u, .u, .u, .u, .u, .u, .u, .u, .u, .u, .u, .u, .u, (.d (eI v_many)), (.d (eI v_step)), .u, .u, .u, .u, .u, .u, .u] l_3 (m_3 ns v_many v_step) := by
  unfold l_3
  apply SimS.eq
  case h => exact (q_set (e := (eL (eT eI))) 2 (q_lst (e := (eL (eT eI))) (g' := fun (_ : Unit) => []) q_aN rfl (fun _ => rfl) (fun _ => rfl)))
  case e => simp only [m_3, x_3, X.m_fn, X.m_seq, X.m_bind, X.m_ite, X.m_ok, X.m_exc, X.m_lc, X.m_lc2, X.m_for, X.m_wh, X.m_try, X.m_hnd, X.m_sure]
def x_4 (ns : (List Int)) (v_spans : (List (List Int))) (v_many : Int) (v_step : Int) : X (Fl ((List (List Int))) Empty Bool) :=
  (X.bind (X.bind (X.bind (X.ok v_many) fun v7852 =>
  (X.bind (X.ok ()) fun v7853 =>
  (X.ok (v7852, v7853)))) fun v7854 =>
  (X.of (rg1 v7854.1))) fun v7879 =>
  (X.for (fun (s7850 : (List (List Int))) x7851 => (X.seq (X.bind (X.bind (X.ok s7850) fun v7876 =>
  (X.bind (X.bind (X.bind (X.bind (X.bind (X.ok x7851) fun v7856 =>
  (X.bind (X.ok (1 : Int)) fun v7857 =>
  (X.of (some (v7856 + v7857))))) fun v7862 =>
  (X.bind (X.bind (X.bind (X.ok v_many) fun v7858 =>
  (X.bind (X.ok (1 : Int)) fun v7859 =>
  (X.of (some (v7858 + v7859))))) fun v7860 =>
  (X.bind (X.ok ()) fun v7861 =>
  (X.ok (v7860, v7861)))) fun v7863 =>
  (X.ok (v7862, v7863)))) fun v7864 =>
  (X.of (rg2 v7864.1 v7864.2.1))) fun v7866 =>
  (X.bind (X.lc (fun x7865 => (X.ok true)) (fun x7865 => (X.bind (X.bind (X.bind (X.bind (X.ok x7851) fun v7870 =>
  (X.bind (X.bind (X.ok x7865) fun v7868 =>
  (X.bind (X.ok ()) fun v7869 =>
  (X.ok (v7868, v7869)))) fun v7871 =>
  (X.ok (v7870, v7871)))) fun v7872 =>
  (X.of (rgO v7872.1 v7872.2.1))) fun v7873 =>
  (X.bind (X.ok ()) fun v7874 =>
  (X.ok (v7873, v7874)))) fun v7875 =>
  (X.of (some v7875.1)))) v7866) fun v7867 =>
  (X.of (limO v7867)))) fun v7877 =>
  (X.of (catO v7876 v7877)))) fun v7878 =>
  (X.ok (.next v7878))) fun s7855 => (X.ok (.next s7855)))) v7879 v_spans))
def m_4 (ns : (List Int)) (v_spans : (List (List Int))) (v_many : Int) (v_step : Int) : M (Fl ((List (List Int))) Empty Bool) := (x_4 ns v_spans v_many v_step).m
theorem sl_4 {n0 : Nat} {base : Sto} (ns : (List Int)) (v_spans : (List (List Int))) (v_many : Int) (v_step : Int) : SimS ⟨n0, base, some 0, TI, false⟩ (fun s7849 : (List (List Int)) => [(.d ((eL eI) ns)), .t, (.d ((eL (eT eI)) s7849)), .u, .u, .u, .u, .u, .u, .u, .u, .u, .u, .u, .u, .u, .u, (.d (eI v_many)), (.d (eI v_step)), .u, .u, .u, .u, .u, .u, .u]) (fun s : Empty => nomatch s) (rD eB) none [(.d ((eL eI) ns)), .t, (.d ((eL (eT eI)) v_spans)), .u, .u, .u, .u, .u, .u, .u, .u, .u, .u, .u, .u, .u, .u, (.d (eI v_many)), (.d (eI v_step)), .u, .u, .u, .u, .u, .u, .u] l_4 (m_4 ns v_spans v_many v_step) := by
  unfold l_4 l_4_b
  apply SimS.eq
  case h => exact (q_for (e := eI) (es := fun (s7850 : (List (List Int))) => [(.d ((eL eI) ns)), .t, (.d ((eL (eT eI)) s7850)), .u, .u, .u, .u, .u, .u, .u, .u, .u, .u, .u, .u, .u, .u, (.d (eI v_many)), (.d (eI v_step)), .u, .u, .u, .u, .u, .u, .u]) v_spans (q_r1 (q_aF (e := eI) (SimD.toE (q_var (e := eI) (a := v_many) 17 (by rfl))) q_aN) rfl) (by exact (ls_k (ls_k (ls_k (ls_k (ls_k (ls_k (ls_k (ls_k (ls_k (ls_k (ls_k (ls_k (ls_k (ls_k (ls_k (ls_k (ls_k (ls_k (ls_k (ls_k (ls_k (ls_k (ls_k (ls_k (ls_k (ls_k ls_n))))))))))))))))))))))))))) (q_bn (e := eI) 3) (fun s7850 x7851 =>
  (q_end (k := fun (s7855 : (List (List Int))) => s7855) (q_set (e := (eL (eT eI))) 2 (q_op (o_addL (e := (eT eI))) (SimD.toE (q_var (e := (eL (eT eI))) (a := s7850) 2 (by rfl))) (SimD.toE (q_lc (e := eI) (e1 := (eT eI)) (vs := [21]) (SimI.j (q_r2 (q_aF (e := eI) (SimD.toE (q_op o_addI (SimD.toE (q_var (e := eI) (a := x7851) 3 (by rfl))) (SimD.toE (q_const (e := eI) (a := (1 : Int)) rfl)))) (q_aF (e := eI) (SimD.toE (q_op o_addI (SimD.toE (q_var (e := eI) (a := v_many) 17 (by rfl))) (SimD.toE (q_const (e := eI) (a := (1 : Int)) rfl)))) q_aN)) rfl)) (q_bn (e := eI) 21) (fun x7865 => q_yes) (fun x7865 => (q_b (b_tupL (e := eI)) (q_aF (e := (eL eI)) (SimD.toE (q_rg2L (q_aF (e := eI) (SimD.toE (q_var (e := eI) (a := x7851) 3 (by rfl))) (q_aF (e := eI) (SimD.toE (q_var (e := eI) (a := x7865) 21 (by rfl))) q_aN)) rfl)) q_aN) rfl)))))) (fun s7855 => (by exact (ls_k (ls_k (ls_k (ls_u (ls_k (ls_k (ls_k (ls_k (ls_k (ls_k (ls_k (ls_k (ls_k (ls_k (ls_k (ls_k (ls_k (ls_k (ls_k (ls_k (ls_k (ls_k (ls_k (ls_k (ls_k (ls_k ls_n)))))))))))))))))))))))))))))))
  case e => simp only [m_4, x_4, X.m_fn, X.m_seq, X.m_bind, X.m_ite, X.m_ok, X.m_exc, X.m_lc, X.m_lc2, X.m_for, X.m_wh, X.m_try, X.m_hnd, X.m_sure]
def x_5 (ns : (List Int)) (v_spans : (List (List Int))) (v_many : Int) (v_step : Int) : X (Fl ((List (List Int))) Empty Bool) :=
  (X.bind (X.bind (X.ok ()) fun v7881 =>
  (X.ok ([] : List (List Int)))) fun v7882 =>
  (X.ok (.next v7882)))
def m_5 (ns : (List Int)) (v_spans : (List (List Int))) (v_many : Int) (v_step : Int) : M (Fl ((List (List Int))) Empty Bool) := (x_5 ns v_spans v_many v_step).m
theorem sl_5 {n0 : Nat} {base : Sto} (ns : (List Int)) (v_spans : (List (List Int))) (v_many : Int) (v_step : Int) : SimS ⟨n0, base, some 0, TI, false⟩ (fun s7880 : (List (List Int)) => [(.d ((eL eI) ns)), .t, (.d ((eL (eT eI)) v_spans)), .u, (.d ((eL (eT eI)) s7880)), .u, .u, .u, .u, .u, .u, .u, .u, .u, .u, .u, .u, (.d (eI v_many)), (.d (eI v_step)), .u, .u, .u, .u, .u, .u, .u]) (fun s : Empty => nomatch s) (rD eB) none [(.d ((eL eI) ns)), .t, (.d ((eL (eT eI)) v_spans)), .u, .u, .u, .u, .u, .u, .u, .u, .u, .u, .u, .u, .u, .u, (.d (eI v_many)), (.d (eI v_step)), .u, .u, .u, .u, .u, .u, .u] l_5 (m_5 ns v_spans v_many v_step) := by
  unfold l_5
  apply SimS.eq
  case h => exact (q_set (e := (eL (eT eI))) 4 (q_lst (e := (eL (eT eI))) (g' := fun (_ : Unit) => []) q_aN rfl (fun _ => rfl) (fun _ => rfl)))
  case e => simp only [m_5, x_5, X.m_fn, X.m_seq, X.m_bind, X.m_ite, X.m_ok, X.m_exc, X.m_lc, X.m_lc2, X.m_for, X.m_wh, X.m_try, X.m_hnd, X.m_sure]
def x_6 (ns : (List Int)) (v_spans : (List (List Int))) (v_every : (List (List Int))) (v_many : Int) (v_step : Int) : X (Fl ((List (List Int))) Empty Bool) :=
  (X.bind (X.bind (X.bind (X.ok (1 : Int)) fun v7893 =>
  (X.bind (X.bind (X.bind (X.bind (X.ok v_many) fun v7888 =>
  (X.bind (X.bind (X.ok (1 : Int)) fun v7886 =>
  (X.bind (X.ok ()) fun v7887 =>
  (X.ok (v7886, v7887)))) fun v7889 =>
  (X.ok (v7888, v7889)))) fun v7890 =>
  (X.of (some (if v7890.2.1 > v7890.1 then v7890.2.1 else v7890.1)))) fun v7891 =>
  (X.bind (X.ok ()) fun v7892 =>
  (X.ok (v7891, v7892)))) fun v7894 =>
  (X.ok (v7893, v7894)))) fun v7895 =>
  (X.of (rg2 v7895.1 v7895.2.1))) fun v7905 =>
  (X.for (fun (s7884 : (List (List Int))) x7885 => (X.seq (X.bind (X.bind (X.ok s7884) fun v7902 =>
  (X.bind (X.bind (X.bind (X.ok v_many) fun v7899 =>
  (X.bind (X.bind (X.ok x7885) fun v7897 =>
  (X.bind (X.ok ()) fun v7898 =>
  (X.ok (v7897, v7898)))) fun v7900 =>
  (X.ok (v7899, v7900)))) fun a7901 =>
  (t__law_steps a7901.1 a7901.2.1)) fun v7903 =>
  (X.of (catO v7902 v7903)))) fun v7904 =>
  (X.ok (.next v7904))) fun s7896 => (X.ok (.next s7896)))) v7905 v_every))
def m_6 (ns : (List Int)) (v_spans : (List (List Int))) (v_every : (List (List Int))) (v_many : Int) (v_step : Int) : M (Fl ((List (List Int))) Empty Bool) := (x_6 ns v_spans v_every v_many v_step).m
theorem sl_6 {n0 : Nat} {base : Sto} (ns : (List Int)) (v_spans : (List (List Int))) (v_every : (List (List Int))) (v_many : Int) (v_step : Int) : SimS ⟨n0, base, some 0, TI, false⟩ (fun s7883 : (List (List Int)) => [(.d ((eL eI) ns)), .t, (.d ((eL (eT eI)) v_spans)), .u, (.d ((eL (eT eI)) s7883)), .u, .u, .u, .u, .u, .u, .u, .u, .u, .u, .u, .u, (.d (eI v_many)), (.d (eI v_step)), .u, .u, .u, .u, .u, .u, .u]) (fun s : Empty => nomatch s) (rD eB) none [(.d ((eL eI) ns)), .t, (.d ((eL (eT eI)) v_spans)), .u, (.d ((eL (eT eI)) v_every)), .u, .u, .u, .u, .u, .u, .u, .u, .u, .u, .u, .u, (.d (eI v_many)), (.d (eI v_step)), .u, .u, .u, .u, .u, .u, .u] l_6 (m_6 ns v_spans v_every v_many v_step) := by
  unfold l_6 l_6_b
  apply SimS.eq
  case h => exact (q_for (e := eI) (es := fun (s7884 : (List (List Int))) => [(.d ((eL eI) ns)), .t, (.d ((eL (eT eI)) v_spans)), .u, (.d ((eL (eT eI)) s7884)), .u, .u, .u, .u, .u, .u, .u, .u, .u, .u, .u, .u, (.d (eI v_many)), (.d (eI v_step)), .u, .u, .u, .u, .u, .u, .u]) v_every (q_r2 (q_aF (e := eI) (SimD.toE (q_const (e := eI) (a := (1 : Int)) rfl)) (q_aF (e := eI) (SimD.toE (q_b b_max2 (q_aF (e := eI) (SimD.toE (q_var (e := eI) (a := v_many) 17 (by rfl))) (q_aF (e := eI) (SimD.toE (q_const (e := eI) (a := (1 : Int)) rfl)) q_aN)) rfl)) q_aN)) rfl) (by exact (ls_k (ls_k (ls_k (ls_k (ls_k (ls_k (ls_k (ls_k (ls_k (ls_k (ls_k (ls_k (ls_k (ls_k (ls_k (ls_k (ls_k (ls_k (ls_k (ls_k (ls_k (ls_k (ls_k (ls_k (ls_k (ls_k ls_n))))))))))))))))))))))))))) (q_bn (e := eI) 5) (fun s7884 x7885 =>
  (q_end (k := fun (s7896 : (List (List Int))) => s7896) (q_set (e := (eL (eT eI))) 4 (q_op (o_addL (e := (eT eI))) (SimD.toE (q_var (e := (eL (eT eI))) (a := s7884) 4 (by rfl))) (SimD.toE (q_call ok_t__law_steps (q_aF (e := eI) (SimD.toE (q_var (e := eI) (a := v_many) 17 (by rfl))) (q_aF (e := eI) (SimD.toE (q_var (e := eI) (a := x7885) 5 (by rfl))) q_aN)) rfl)))) (fun s7896 => (by exact (ls_k (ls_k (ls_k (ls_k (ls_k (ls_u (ls_k (ls_k (ls_k (ls_k (ls_k (ls_k (ls_k (ls_k (ls_k (ls_k (ls_k (ls_k (ls_k (ls_k (ls_k (ls_k (ls_k (ls_k (ls_k (ls_k ls_n)))))))))))))))))))))))))))))))
  case e => simp only [m_6, x_6, X.m_fn, X.m_seq, X.m_bind, X.m_ite, X.m_ok, X.m_exc, X.m_lc, X.m_lc2, X.m_for, X.m_wh, X.m_try, X.m_hnd, X.m_sure]
def x_7 (ns : (List Int)) (v_spans : (List (List Int))) (v_every : (List (List Int))) (v_many : Int) (v_step : Int) : X (Fl (Unit) Empty Bool) :=
  (X.bind (X.bind (X.bind (X.bind (X.bind (X.bind (X.ok v_many) fun v7947 =>
  (X.ok (eI v7947))) fun v7948 =>
  (X.bind (X.ok ()) fun v7949 =>
  (X.ok (v7948, v7949)))) fun a7950 =>
  (t_span_sets a7950.1)) fun v7954 =>
  (X.bind (X.bind (X.bind (X.ok v_spans) fun v7951 =>
  (X.bind (X.ok ()) fun v7952 =>
  (X.ok (v7951, v7952)))) fun v7953 =>
  (X.of (some v7953.1))) fun v7955 =>
  (X.of (neD ((eT (eT eI)) v7954) ((eT (eT eI)) v7955))))) fun v7956 =>
  (if v7956 = true then (X.ok true) else (X.bind (X.bind (X.bind (X.bind (X.bind (X.ok v_many) fun v7929 =>
  (X.ok (eI v7929))) fun v7933 =>
  (X.bind (X.bind (X.bind (X.ok v_step) fun v7930 =>
  (X.ok (eI v7930))) fun v7931 =>
  (X.bind (X.ok ()) fun v7932 =>
  (X.ok (v7931, v7932)))) fun v7934 =>
  (X.ok (v7933, v7934)))) fun a7935 =>
  (t_step_sets a7935.1 a7935.2.1)) fun v7944 =>
  (X.bind (X.bind (X.bind (X.bind (X.bind (X.ok v_many) fun v7938 =>
  (X.bind (X.bind (X.ok v_step) fun v7936 =>
  (X.bind (X.ok ()) fun v7937 =>
  (X.ok (v7936, v7937)))) fun v7939 =>
  (X.ok (v7938, v7939)))) fun a7940 =>
  (t__law_steps a7940.1 a7940.2.1)) fun v7941 =>
  (X.bind (X.ok ()) fun v7942 =>
  (X.ok (v7941, v7942)))) fun v7943 =>
  (X.of (some v7943.1))) fun v7945 =>
  (X.of (neD ((eT (eT eI)) v7944) ((eT (eT eI)) v7945))))) fun v7946 =>
  (if v7946 = true then (X.ok true) else (X.bind (X.bind (X.bind (X.bind (X.bind (X.ok v_many) fun v7919 =>
  (X.ok (eI v7919))) fun v7920 =>
  (X.bind (X.ok ()) fun v7921 =>
  (X.ok (v7920, v7921)))) fun a7922 =>
  (t_all_step_sets a7922.1)) fun v7926 =>
  (X.bind (X.bind (X.bind (X.ok v_every) fun v7923 =>
  (X.bind (X.ok ()) fun v7924 =>
  (X.ok (v7923, v7924)))) fun v7925 =>
  (X.of (some v7925.1))) fun v7927 =>
  (X.of (neD ((eT (eT eI)) v7926) ((eT (eT eI)) v7927))))) fun v7928 =>
  (if v7928 = true then (X.ok true) else (X.bind (X.bind (X.bind (X.bind (X.ok v_many) fun v7907 =>
  (X.ok (eI v7907))) fun v7908 =>
  (X.bind (X.ok ()) fun v7909 =>
  (X.ok (v7908, v7909)))) fun a7910 =>
  (t_multiple_sets a7910.1)) fun v7917 =>
  (X.bind (X.bind (X.bind (X.bind (X.bind (X.ok v_many) fun v7911 =>
  (X.bind (X.ok ()) fun v7912 =>
  (X.ok (v7911, v7912)))) fun a7913 =>
  (t__law_multiples a7913.1)) fun v7914 =>
  (X.bind (X.ok ()) fun v7915 =>
  (X.ok (v7914, v7915)))) fun v7916 =>
  (X.of (some v7916.1))) fun v7918 =>
  (X.of (neD ((eT (eT eI)) v7917) ((eT (eT eI)) v7918))))))))))) fun v7958 =>
  (if v7958 = true then (X.bind (X.ok false) fun v7957 =>
  (X.ok (.ret v7957))) else (X.ok (.next ()))))
def m_7 (ns : (List Int)) (v_spans : (List (List Int))) (v_every : (List (List Int))) (v_many : Int) (v_step : Int) : M (Fl (Unit) Empty Bool) := (x_7 ns v_spans v_every v_many v_step).m
theorem sl_7 {n0 : Nat} {base : Sto} (ns : (List Int)) (v_spans : (List (List Int))) (v_every : (List (List Int))) (v_many : Int) (v_step : Int) : SimS ⟨n0, base, some 0, TI, false⟩ (fun s7906 : Unit => [(.d ((eL eI) ns)), .t, (.d ((eL (eT eI)) v_spans)), .u, (.d ((eL (eT eI)) v_every)), .u, .u, .u, .u, .u, .u, .u, .u, .u, .u, .u, .u, (.d (eI v_many)), (.d (eI v_step)), .u, .u, .u, .u, .u, .u, .u]) (fun s : Empty => nomatch s) (rD eB) none [(.d ((eL eI) ns)), .t, (.d ((eL (eT eI)) v_spans)), .u, (.d ((eL (eT eI)) v_every)), .u, .u, .u, .u, .u, .u, .u, .u, .u, .u, .u, .u, (.d (eI v_many)), (.d (eI v_step)), .u, .u, .u, .u, .u, .u, .u] l_7 (m_7 ns v_spans v_every v_many v_step) := by
  unfold l_7 l_7_t
  apply SimS.eq
  case h => exact (q_sif (es := fun (s7906 : Unit) => [(.d ((eL eI) ns)), .t, (.d ((eL (eT eI)) v_spans)), .u, (.d ((eL (eT eI)) v_every)), .u, .u, .u, .u, .u, .u, .u, .u, .u, .u, .u, .u, (.d (eI v_many)), (.d (eI v_step)), .u, .u, .u, .u, .u, .u, .u]) (q_tor (q_tr (SimD.toE (q_op (o_ne (e := (eT (eT eI))) (e1 := (eT (eT eI)))) (SimD.toE (q_call ok_t_span_sets (q_aF (e := eD) (SimD.toE (q_castD (e1 := eD) (g' := eI) (q_var (e := eI) (a := v_many) 17 (by rfl)) (fun _ => rfl))) q_aN) rfl)) (SimD.toE (q_b (b_tupL (e := (eT eI))) (q_aF (e := (eL (eT eI))) (SimD.toE (q_var (e := (eL (eT eI))) (a := v_spans) 2 (by rfl))) q_aN) rfl))))) (q_tor (q_tr (SimD.toE (q_op (o_ne (e := (eT (eT eI))) (e1 := (eT (eT eI)))) (SimD.toE (q_call ok_t_step_sets (q_aF (e := eD) (SimD.toE (q_castD (e1 := eD) (g' := eI) (q_var (e := eI) (a := v_many) 17 (by rfl)) (fun _ => rfl))) (q_aF (e := eD) (SimD.toE (q_castD (e1 := eD) (g' := eI) (q_var (e := eI) (a := v_step) 18 (by rfl)) (fun _ => rfl))) q_aN)) rfl)) (SimD.toE (q_b (b_tupL (e := (eT eI))) (q_aF (e := (eL (eT eI))) (SimD.toE (q_call ok_t__law_steps (q_aF (e := eI) (SimD.toE (q_var (e := eI) (a := v_many) 17 (by rfl))) (q_aF (e := eI) (SimD.toE (q_var (e := eI) (a := v_step) 18 (by rfl))) q_aN)) rfl)) q_aN) rfl))))) (q_tor (q_tr (SimD.toE (q_op (o_ne (e := (eT (eT eI))) (e1 := (eT (eT eI)))) (SimD.toE (q_call ok_t_all_step_sets (q_aF (e := eD) (SimD.toE (q_castD (e1 := eD) (g' := eI) (q_var (e := eI) (a := v_many) 17 (by rfl)) (fun _ => rfl))) q_aN) rfl)) (SimD.toE (q_b (b_tupL (e := (eT eI))) (q_aF (e := (eL (eT eI))) (SimD.toE (q_var (e := (eL (eT eI))) (a := v_every) 4 (by rfl))) q_aN) rfl))))) (q_tr (SimD.toE (q_op (o_ne (e := (eT (eT eI))) (e1 := (eT (eT eI)))) (SimD.toE (q_call ok_t_multiple_sets (q_aF (e := eD) (SimD.toE (q_castD (e1 := eD) (g' := eI) (q_var (e := eI) (a := v_many) 17 (by rfl)) (fun _ => rfl))) q_aN) rfl)) (SimD.toE (q_b (b_tupL (e := (eT eI))) (q_aF (e := (eL (eT eI))) (SimD.toE (q_call ok_t__law_multiples (q_aF (e := eI) (SimD.toE (q_var (e := eI) (a := v_many) 17 (by rfl))) q_aN) rfl)) q_aN) rfl)))))))) (q_ret (e := eB) (q_const (e := eB) (a := false) rfl)) (q_skip (s := ()) (by exact (ls_k (ls_k (ls_k (ls_k (ls_k (ls_k (ls_k (ls_k (ls_k (ls_k (ls_k (ls_k (ls_k (ls_k (ls_k (ls_k (ls_k (ls_k (ls_k (ls_k (ls_k (ls_k (ls_k (ls_k (ls_k (ls_k ls_n)))))))))))))))))))))))))))))
  case e => simp only [m_7, x_7, X.m_fn, X.m_seq, X.m_bind, X.m_ite, X.m_ok, X.m_exc, X.m_lc, X.m_lc2, X.m_for, X.m_wh, X.m_try, X.m_hnd, X.m_sure]
def m_8 (ns : (List Int)) (v_spans : (List (List Int))) (v_every : (List (List Int))) (v_many : Int) (v_step : Int) : M (Fl ((List Int)) Empty Bool) :=
  (M.bind (M.bind (M.bind (M.bind (M.bind (M.bind (M.pure v_many) fun v7960 =>
  (M.bind (M.pure ()) fun v7961 =>
  (M.pure (v7960, v7961)))) fun v7962 =>
  (X.of (rg1 v7962.1)).m) fun v7964 =>
  (M.bind (M.lc (fun x7963 => (M.pure true)) (fun x7963 => (M.bind (M.pure (1 : Int)) fun v7973 =>
  (M.bind (M.bind (M.pure (2 : Int)) fun v7971 =>
  (M.bind (M.bind (M.bind (M.pure ns) fun v7968 =>
  (M.bind (M.bind (M.pure (2 : Int)) fun v7966 =>
  (M.bind (M.pure ()) fun v7967 =>
  (M.pure (v7966, v7967)))) fun v7969 =>
  (M.pure (v7968, v7969)))) fun a7970 =>
  (w__law_draw a7970.1 a7970.2.1)) fun v7972 =>
  (X.of (mulO v7971 v7972)).m)) fun v7974 =>
  (X.of (some (v7973 - v7974))).m))) v7964) fun v7965 =>
  (X.of (limO v7965)).m)) fun v7975 =>
  (M.bind (M.pure ()) fun v7976 =>
  (M.pure (v7975, v7976)))) fun v7977 =>
  (X.of (some v7977.1)).m) fun v7978 =>
  (M.pure (.next v7978)))
theorem sl_8 {n0 : Nat} {base : Sto} (ns : (List Int)) (v_spans : (List (List Int))) (v_every : (List (List Int))) (v_many : Int) (v_step : Int) : SimS ⟨n0, base, some 0, TI, false⟩ (fun s7959 : (List Int) => [(.d ((eL eI) ns)), .t, (.d ((eL (eT eI)) v_spans)), .u, (.d ((eL (eT eI)) v_every)), .u, (.d ((eT eI) s7959)), .u, .u, .u, .u, .u, .u, .u, .u, .u, .u, (.d (eI v_many)), (.d (eI v_step)), .u, .u, .u, .u, .u, .u, .u]) (fun s : Empty => nomatch s) (rD eB) none [(.d ((eL eI) ns)), .t, (.d ((eL (eT eI)) v_spans)), .u, (.d ((eL (eT eI)) v_every)), .u, .u, .u, .u, .u, .u, .u, .u, .u, .u, .u, .u, (.d (eI v_many)), (.d (eI v_step)), .u, .u, .u, .u, .u, .u, .u] l_8 (m_8 ns v_spans v_every v_many v_step) := by
  unfold l_8 m_8
  exact (q_set (e := (eT eI)) 6 (q_b (b_tupL (e := eI)) (q_aF (e := (eL eI)) (SimD.toE (q_lc (e := eI) (e1 := eI) (vs := [23]) (SimI.j (q_r1 (q_aF (e := eI) (SimD.toE (q_var (e := eI) (a := v_many) 17 (by rfl))) q_aN) rfl)) (q_bn (e := eI) 23) (fun x7963 => q_yes) (fun x7963 => (q_op o_subI (SimD.toE (q_const (e := eI) (a := (1 : Int)) rfl)) (SimD.toE (q_op o_mulI (SimD.toE (q_const (e := eI) (a := (2 : Int)) rfl)) (SimD.toE (q_callM (c := ⟨n0, base, some 0, TI, false⟩) ok_w__law_draw (q_aT 1 (by rfl) (q_aF (e := (eL eI)) (SimD.toE (q_var (e := (eL eI)) (a := ns) 0 (by rfl))) (q_aF (e := eI) (SimD.toE (q_const (e := eI) (a := (2 : Int)) rfl)) q_aN))) rfl)))))))) q_aN) rfl))
def m_9 (ns : (List Int)) (v_spans : (List (List Int))) (v_every : (List (List Int))) (v_signs : (List Int)) (v_many : Int) (v_step : Int) : M (Fl (Int) Empty Bool) :=
  (M.bind (M.bind (M.bind (M.pure ns) fun v7982 =>
  (M.bind (M.bind (M.pure (3 : Int)) fun v7980 =>
  (M.bind (M.pure ()) fun v7981 =>
  (M.pure (v7980, v7981)))) fun v7983 =>
  (M.pure (v7982, v7983)))) fun a7984 =>
  (w__law_draw a7984.1 a7984.2.1)) fun v7985 =>
  (M.pure (.next v7985)))
theorem sl_9 {n0 : Nat} {base : Sto} (ns : (List Int)) (v_spans : (List (List Int))) (v_every : (List (List Int))) (v_signs : (List Int)) (v_many : Int) (v_step : Int) : SimS ⟨n0, base, some 0, TI, false⟩ (fun s7979 : Int => [(.d ((eL eI) ns)), .t, (.d ((eL (eT eI)) v_spans)), .u, (.d ((eL (eT eI)) v_every)), .u, (.d ((eT eI) v_signs)), (.d (eI s7979)), .u, .u, .u, .u, .u, .u, .u, .u, .u, (.d (eI v_many)), (.d (eI v_step)), .u, .u, .u, .u, .u, .u, .u]) (fun s : Empty => nomatch s) (rD eB) none [(.d ((eL eI) ns)), .t, (.d ((eL (eT eI)) v_spans)), .u, (.d ((eL (eT eI)) v_every)), .u, (.d ((eT eI) v_signs)), .u, .u, .u, .u, .u, .u, .u, .u, .u, .u, (.d (eI v_many)), (.d (eI v_step)), .u, .u, .u, .u, .u, .u, .u] l_9 (m_9 ns v_spans v_every v_signs v_many v_step) := by
  unfold l_9 m_9
  exact (q_set (e := eI) 7 (q_callM (c := ⟨n0, base, some 0, TI, false⟩) ok_w__law_draw (q_aT 1 (by rfl) (q_aF (e := (eL eI)) (SimD.toE (q_var (e := (eL eI)) (a := ns) 0 (by rfl))) (q_aF (e := eI) (SimD.toE (q_const (e := eI) (a := (3 : Int)) rfl)) q_aN))) rfl))
def x_10 (ns : (List Int)) (v_spans : (List (List Int))) (v_every : (List (List Int))) (v_signs : (List Int)) (v_gap : Int) (v_many : Int) (v_step : Int) : X (Fl (Unit) Empty Bool) :=
  (X.bind (X.bind (X.bind (X.bind (X.ok v_signs) fun v7987 =>
  (X.bind (X.ok ()) fun v7988 =>
  (X.ok (v7987, v7988)))) fun a7989 =>
  (t_multiple_gap a7989.1)) fun v7998 =>
  (X.bind (X.bind (X.bind (X.bind (X.bind (X.ok v_many) fun v7990 =>
  (X.bind (X.ok ()) fun v7991 =>
  (X.ok (v7990, v7991)))) fun a7992 =>
  (t__law_multiples a7992.1)) fun v7995 =>
  (X.bind (X.bind (X.ok v_signs) fun v7993 =>
  (X.bind (X.ok ()) fun v7994 =>
  (X.ok (v7993, v7994)))) fun v7996 =>
  (X.ok (v7995, v7996)))) fun a7997 =>
  (t__law_gap a7997.1 a7997.2.1)) fun v7999 =>
  (X.of (some (!decide (v7998 = v7999)))))) fun v8001 =>
  (if v8001 = true then (X.bind (X.ok false) fun v8000 =>
  (X.ok (.ret v8000))) else (X.ok (.next ()))))
def m_10 (ns : (List Int)) (v_spans : (List (List Int))) (v_every : (List (List Int))) (v_signs : (List Int)) (v_gap : Int) (v_many : Int) (v_step : Int) : M (Fl (Unit) Empty Bool) := (x_10 ns v_spans v_every v_signs v_gap v_many v_step).m
theorem sl_10 {n0 : Nat} {base : Sto} (ns : (List Int)) (v_spans : (List (List Int))) (v_every : (List (List Int))) (v_signs : (List Int)) (v_gap : Int) (v_many : Int) (v_step : Int) : SimS ⟨n0, base, some 0, TI, false⟩ (fun s7986 : Unit => [(.d ((eL eI) ns)), .t, (.d ((eL (eT eI)) v_spans)), .u, (.d ((eL (eT eI)) v_every)), .u, (.d ((eT eI) v_signs)), (.d (eI v_gap)), .u, .u, .u, .u, .u, .u, .u, .u, .u, (.d (eI v_many)), (.d (eI v_step)), .u, .u, .u, .u, .u, .u, .u]) (fun s : Empty => nomatch s) (rD eB) none [(.d ((eL eI) ns)), .t, (.d ((eL (eT eI)) v_spans)), .u, (.d ((eL (eT eI)) v_every)), .u, (.d ((eT eI) v_signs)), (.d (eI v_gap)), .u, .u, .u, .u, .u, .u, .u, .u, .u, (.d (eI v_many)), (.d (eI v_step)), .u, .u, .u, .u, .u, .u, .u] l_10 (m_10 ns v_spans v_every v_signs v_gap v_many v_step) := by
  unfold l_10 l_10_t
  apply SimS.eq
  case h => exact (q_sif (es := fun (s7986 : Unit) => [(.d ((eL eI) ns)), .t, (.d ((eL (eT eI)) v_spans)), .u, (.d ((eL (eT eI)) v_every)), .u, (.d ((eT eI) v_signs)), (.d (eI v_gap)), .u, .u, .u, .u, .u, .u, .u, .u, .u, (.d (eI v_many)), (.d (eI v_step)), .u, .u, .u, .u, .u, .u, .u]) (q_tr (SimD.toE (q_op o_neI (SimD.toE (q_call ok_t_multiple_gap (q_aF (e := (eT eI)) (SimD.toE (q_var (e := (eT eI)) (a := v_signs) 6 (by rfl))) q_aN) rfl)) (SimD.toE (q_call ok_t__law_gap (q_aF (e := (eL (eT eI))) (SimD.toE (q_call ok_t__law_multiples (q_aF (e := eI) (SimD.toE (q_var (e := eI) (a := v_many) 17 (by rfl))) q_aN) rfl)) (q_aF (e := (eT eI)) (SimD.toE (q_var (e := (eT eI)) (a := v_signs) 6 (by rfl))) q_aN)) rfl))))) (q_ret (e := eB) (q_const (e := eB) (a := false) rfl)) (q_skip (s := ()) (by exact (ls_k (ls_k (ls_k (ls_k (ls_k (ls_k (ls_k (ls_k (ls_k (ls_k (ls_k (ls_k (ls_k (ls_k (ls_k (ls_k (ls_k (ls_k (ls_k (ls_k (ls_k (ls_k (ls_k (ls_k (ls_k (ls_k ls_n)))))))))))))))))))))))))))))
  case e => simp only [m_10, x_10, X.m_fn, X.m_seq, X.m_bind, X.m_ite, X.m_ok, X.m_exc, X.m_lc, X.m_lc2, X.m_for, X.m_wh, X.m_try, X.m_hnd, X.m_sure]
def x_11 (ns : (List Int)) (v_spans : (List (List Int))) (v_every : (List (List Int))) (v_signs : (List Int)) (v_gap : Int) (v_many : Int) (v_step : Int) : X (Fl (Unit) Empty Bool) :=
  (X.bind (X.bind (X.bind (X.ok v_many) fun v8030 =>
  (X.bind (X.ok (0 : Int)) fun v8031 =>
  (X.of (some (decide (v8031 < v8030)))))) fun v8032 =>
  (if v8032 = true then (X.bind (X.bind (X.bind (X.ok v_signs) fun v8005 =>
  (X.bind (X.bind (X.ok v_gap) fun v8003 =>
  (X.bind (X.ok ()) fun v8004 =>
  (X.ok (v8003, v8004)))) fun v8006 =>
  (X.ok (v8005, v8006)))) fun a8007 =>
  (t_last_fits a8007.1 a8007.2.1)) fun v8028 =>
  (X.bind (X.bind (X.bind (X.bind (X.bind (X.bind (X.bind (X.ok v_many) fun v8008 =>
  (X.bind (X.ok ()) fun v8009 =>
  (X.ok (v8008, v8009)))) fun a8010 =>
  (t__law_multiples a8010.1)) fun v8019 =>
  (X.bind (X.lc (fun x8011 => (X.bind (X.bind (X.ok x8011) fun v8013 =>
  (X.bind (X.bind (X.ok (1 : Int)) fun v8012 =>
  (X.of (some (-v8012)))) fun v8014 =>
  (X.of (L2.atI v8013 v8014)))) fun v8017 =>
  (X.bind (X.bind (X.ok v_many) fun v8015 =>
  (X.bind (X.ok (1 : Int)) fun v8016 =>
  (X.of (some (v8015 - v8016))))) fun v8018 =>
  (X.of (some (decide (v8017 = v8018))))))) (fun x8011 => (X.ok x8011)) v8019) fun v8020 =>
  (X.of (limO v8020)))) fun v8023 =>
  (X.bind (X.bind (X.ok v_signs) fun v8021 =>
  (X.bind (X.ok ()) fun v8022 =>
  (X.ok (v8021, v8022)))) fun v8024 =>
  (X.ok (v8023, v8024)))) fun a8025 =>
  (t__law_gap a8025.1 a8025.2.1)) fun v8026 =>
  (X.bind (X.ok v_gap) fun v8027 =>
  (X.of (some (decide (v8026 ≤ v8027)))))) fun v8029 =>
  (X.of (neD (eB v8028) (eB v8029))))) else (X.ok false))) fun v8034 =>
  (if v8034 = true then (X.bind (X.ok false) fun v8033 =>
  (X.ok (.ret v8033))) else (X.ok (.next ()))))
def m_11 (ns : (List Int)) (v_spans : (List (List Int))) (v_every : (List (List Int))) (v_signs : (List Int)) (v_gap : Int) (v_many : Int) (v_step : Int) : M (Fl (Unit) Empty Bool) := (x_11 ns v_spans v_every v_signs v_gap v_many v_step).m
theorem sl_11 {n0 : Nat} {base : Sto} (ns : (List Int)) (v_spans : (List (List Int))) (v_every : (List (List Int))) (v_signs : (List Int)) (v_gap : Int) (v_many : Int) (v_step : Int) : SimS ⟨n0, base, some 0, TI, false⟩ (fun s8002 : Unit => [(.d ((eL eI) ns)), .t, (.d ((eL (eT eI)) v_spans)), .u, (.d ((eL (eT eI)) v_every)), .u, (.d ((eT eI) v_signs)), (.d (eI v_gap)), .u, .u, .u, .u, .u, .u, .u, .u, .u, (.d (eI v_many)), (.d (eI v_step)), .u, .u, .u, .u, .u, .u, .u]) (fun s : Empty => nomatch s) (rD eB) none [(.d ((eL eI) ns)), .t, (.d ((eL (eT eI)) v_spans)), .u, (.d ((eL (eT eI)) v_every)), .u, (.d ((eT eI) v_signs)), (.d (eI v_gap)), .u, .u, .u, .u, .u, .u, .u, .u, .u, (.d (eI v_many)), (.d (eI v_step)), .u, .u, .u, .u, .u, .u, .u] l_11 (m_11 ns v_spans v_every v_signs v_gap v_many v_step) := by
  unfold l_11 l_11_t
  apply SimS.eq
  case h => exact (q_sif (es := fun (s8002 : Unit) => [(.d ((eL eI) ns)), .t, (.d ((eL (eT eI)) v_spans)), .u, (.d ((eL (eT eI)) v_every)), .u, (.d ((eT eI) v_signs)), (.d (eI v_gap)), .u, .u, .u, .u, .u, .u, .u, .u, .u, (.d (eI v_many)), (.d (eI v_step)), .u, .u, .u, .u, .u, .u, .u]) (q_tand (q_tr (SimD.toE (q_op o_gtI (SimD.toE (q_var (e := eI) (a := v_many) 17 (by rfl))) (SimD.toE (q_const (e := eI) (a := (0 : Int)) rfl))))) (q_tr (SimD.toE (q_op (o_ne (e := eB) (e1 := eB)) (SimD.toE (q_call ok_t_last_fits (q_aF (e := (eT eI)) (SimD.toE (q_var (e := (eT eI)) (a := v_signs) 6 (by rfl))) (q_aF (e := eI) (SimD.toE (q_var (e := eI) (a := v_gap) 7 (by rfl))) q_aN)) rfl)) (SimD.toE (q_op o_leI (SimD.toE (q_call ok_t__law_gap (q_aF (e := (eL (eT eI))) (SimD.toE (q_lc (e := (eT eI)) (e1 := (eT eI)) (vs := [25]) (SimI.j (q_ivL (e := (eT eI)) (q_call ok_t__law_multiples (q_aF (e := eI) (SimD.toE (q_var (e := eI) (a := v_many) 17 (by rfl))) q_aN) rfl))) (q_bn (e := (eT eI)) 25) (fun x8011 => (q_tr (SimD.toE (q_op o_eqI (SimD.toE (q_op (o_ixT (e := eI)) (SimD.toE (q_var (e := (eT eI)) (a := x8011) 25 (by rfl))) (SimD.toE (q_un u_negI (SimD.toE (q_const (e := eI) (a := (1 : Int)) rfl)))))) (SimD.toE (q_op o_subI (SimD.toE (q_var (e := eI) (a := v_many) 17 (by rfl))) (SimD.toE (q_const (e := eI) (a := (1 : Int)) rfl)))))))) (fun x8011 => (q_var (e := (eT eI)) (a := x8011) 25 (by rfl))))) (q_aF (e := (eT eI)) (SimD.toE (q_var (e := (eT eI)) (a := v_signs) 6 (by rfl))) q_aN)) rfl)) (SimD.toE (q_var (e := eI) (a := v_gap) 7 (by rfl))))))))) (q_ret (e := eB) (q_const (e := eB) (a := false) rfl)) (q_skip (s := ()) (by exact (ls_k (ls_k (ls_k (ls_k (ls_k (ls_k (ls_k (ls_k (ls_k (ls_k (ls_k (ls_k (ls_k (ls_k (ls_k (ls_k (ls_k (ls_k (ls_k (ls_k (ls_k (ls_k (ls_k (ls_k (ls_k (ls_k ls_n)))))))))))))))))))))))))))))
  case e => simp only [m_11, x_11, X.m_fn, X.m_seq, X.m_bind, X.m_ite, X.m_ok, X.m_exc, X.m_lc, X.m_lc2, X.m_for, X.m_wh, X.m_try, X.m_hnd, X.m_sure]
def m_12 (ns : (List Int)) (v_spans : (List (List Int))) (v_every : (List (List Int))) (v_signs : (List Int)) (v_gap : Int) (v_many : Int) (v_step : Int) : M (Fl (Int) Empty Bool) :=
  (M.bind (M.bind (M.bind (M.pure ns) fun v8038 =>
  (M.bind (M.bind (M.pure (14 : Int)) fun v8036 =>
  (M.bind (M.pure ()) fun v8037 =>
  (M.pure (v8036, v8037)))) fun v8039 =>
  (M.pure (v8038, v8039)))) fun a8040 =>
  (w__law_draw a8040.1 a8040.2.1)) fun v8041 =>
  (M.pure (.next v8041)))
theorem sl_12 {n0 : Nat} {base : Sto} (ns : (List Int)) (v_spans : (List (List Int))) (v_every : (List (List Int))) (v_signs : (List Int)) (v_gap : Int) (v_many : Int) (v_step : Int) : SimS ⟨n0, base, some 0, TI, false⟩ (fun s8035 : Int => [(.d ((eL eI) ns)), .t, (.d ((eL (eT eI)) v_spans)), .u, (.d ((eL (eT eI)) v_every)), .u, (.d ((eT eI) v_signs)), (.d (eI v_gap)), (.d (eI s8035)), .u, .u, .u, .u, .u, .u, .u, .u, (.d (eI v_many)), (.d (eI v_step)), .u, .u, .u, .u, .u, .u, .u]) (fun s : Empty => nomatch s) (rD eB) none [(.d ((eL eI) ns)), .t, (.d ((eL (eT eI)) v_spans)), .u, (.d ((eL (eT eI)) v_every)), .u, (.d ((eT eI) v_signs)), (.d (eI v_gap)), .u, .u, .u, .u, .u, .u, .u, .u, .u, (.d (eI v_many)), (.d (eI v_step)), .u, .u, .u, .u, .u, .u, .u] l_12 (m_12 ns v_spans v_every v_signs v_gap v_many v_step) := by
  unfold l_12 m_12
  exact (q_set (e := eI) 8 (q_callM (c := ⟨n0, base, some 0, TI, false⟩) ok_w__law_draw (q_aT 1 (by rfl) (q_aF (e := (eL eI)) (SimD.toE (q_var (e := (eL eI)) (a := ns) 0 (by rfl))) (q_aF (e := eI) (SimD.toE (q_const (e := eI) (a := (14 : Int)) rfl)) q_aN))) rfl))
def x_13 (ns : (List Int)) (v_spans : (List (List Int))) (v_every : (List (List Int))) (v_signs : (List Int)) (v_gap : Int) (v_most : Int) (v_many : Int) (v_step : Int) : X (Fl (Unit) Empty Bool) :=
  (X.bind (X.bind (X.bind (X.bind (X.ok v_gap) fun v8084 =>
  (X.bind (X.ok (2 : Int)) fun v8085 =>
  (X.of (some (decide (v8084 < v8085)))))) fun v8086 =>
  (if v8086 = true then (X.bind (X.bind (X.bind (X.bind (X.ok v_gap) fun v8070 =>
  (X.ok (eI v8070))) fun v8074 =>
  (X.bind (X.bind (X.bind (X.ok v_most) fun v8071 =>
  (X.ok (eI v8071))) fun v8072 =>
  (X.bind (X.ok ()) fun v8073 =>
  (X.ok (v8072, v8073)))) fun v8075 =>
  (X.ok (v8074, v8075)))) fun a8076 =>
  (t_longest_multiples a8076.1 a8076.2.1)) fun v8082 =>
  (X.bind (X.bind (X.bind (X.ok v_gap) fun v8079 =>
  (X.bind (X.bind (X.ok v_most) fun v8077 =>
  (X.bind (X.ok ()) fun v8078 =>
  (X.ok (v8077, v8078)))) fun v8080 =>
  (X.ok (v8079, v8080)))) fun a8081 =>
  (t__law_longest a8081.1 a8081.2.1)) fun v8083 =>
  (X.of (neD ((eP2 eI (eT eI)) v8082) ((eP2 eI (eT eI)) v8083))))) else (X.ok false))) fun v8087 =>
  (if v8087 = true then (X.ok true) else (X.bind (X.bind (X.ok v_gap) fun v8067 =>
  (X.bind (X.ok (2 : Int)) fun v8068 =>
  (X.of (some (decide (v8067 = v8068)))))) fun v8069 =>
  (if v8069 = true then (X.bind (X.bind (X.bind (X.bind (X.ok (2 : Int)) fun v8043 =>
  (X.ok (eI v8043))) fun v8052 =>
  (X.bind (X.bind (X.bind (X.bind (X.bind (X.ok v_most) fun v8046 =>
  (X.bind (X.bind (X.ok (7 : Int)) fun v8044 =>
  (X.bind (X.ok ()) fun v8045 =>
  (X.ok (v8044, v8045)))) fun v8047 =>
  (X.ok (v8046, v8047)))) fun v8048 =>
  (X.of (some (if v8048.2.1 < v8048.1 then v8048.2.1 else v8048.1)))) fun v8049 =>
  (X.ok (eI v8049))) fun v8050 =>
  (X.bind (X.ok ()) fun v8051 =>
  (X.ok (v8050, v8051)))) fun v8053 =>
  (X.ok (v8052, v8053)))) fun a8054 =>
  (t_longest_multiples a8054.1 a8054.2.1)) fun v8065 =>
  (X.bind (X.bind (X.bind (X.ok (2 : Int)) fun v8062 =>
  (X.bind (X.bind (X.bind (X.bind (X.ok v_most) fun v8057 =>
  (X.bind (X.bind (X.ok (7 : Int)) fun v8055 =>
  (X.bind (X.ok ()) fun v8056 =>
  (X.ok (v8055, v8056)))) fun v8058 =>
  (X.ok (v8057, v8058)))) fun v8059 =>
  (X.of (some (if v8059.2.1 < v8059.1 then v8059.2.1 else v8059.1)))) fun v8060 =>
  (X.bind (X.ok ()) fun v8061 =>
  (X.ok (v8060, v8061)))) fun v8063 =>
  (X.ok (v8062, v8063)))) fun a8064 =>
  (t__law_longest a8064.1 a8064.2.1)) fun v8066 =>
  (X.of (neD ((eP2 eI (eT eI)) v8065) ((eP2 eI (eT eI)) v8066))))) else (X.ok false))))) fun v8089 =>
  (if v8089 = true then (X.bind (X.ok false) fun v8088 =>
  (X.ok (.ret v8088))) else (X.ok (.next ()))))
def m_13 (ns : (List Int)) (v_spans : (List (List Int))) (v_every : (List (List Int))) (v_signs : (List Int)) (v_gap : Int) (v_most : Int) (v_many : Int) (v_step : Int) : M (Fl (Unit) Empty Bool) := (x_13 ns v_spans v_every v_signs v_gap v_most v_many v_step).m
theorem sl_13 {n0 : Nat} {base : Sto} (ns : (List Int)) (v_spans : (List (List Int))) (v_every : (List (List Int))) (v_signs : (List Int)) (v_gap : Int) (v_most : Int) (v_many : Int) (v_step : Int) : SimS ⟨n0, base, some 0, TI, false⟩ (fun s8042 : Unit => [(.d ((eL eI) ns)), .t, (.d ((eL (eT eI)) v_spans)), .u, (.d ((eL (eT eI)) v_every)), .u, (.d ((eT eI) v_signs)), (.d (eI v_gap)), (.d (eI v_most)), .u, .u, .u, .u, .u, .u, .u, .u, (.d (eI v_many)), (.d (eI v_step)), .u, .u, .u, .u, .u, .u, .u]) (fun s : Empty => nomatch s) (rD eB) none [(.d ((eL eI) ns)), .t, (.d ((eL (eT eI)) v_spans)), .u, (.d ((eL (eT eI)) v_every)), .u, (.d ((eT eI) v_signs)), (.d (eI v_gap)), (.d (eI v_most)), .u, .u, .u, .u, .u, .u, .u, .u, (.d (eI v_many)), (.d (eI v_step)), .u, .u, .u, .u, .u, .u, .u] l_13 (m_13 ns v_spans v_every v_signs v_gap v_most v_many v_step) := by
  unfold l_13 l_13_t
  apply SimS.eq
  case h => exact (q_sif (es := fun (s8042 : Unit) => [(.d ((eL eI) ns)), .t, (.d ((eL (eT eI)) v_spans)), .u, (.d ((eL (eT eI)) v_every)), .u, (.d ((eT eI) v_signs)), (.d (eI v_gap)), (.d (eI v_most)), .u, .u, .u, .u, .u, .u, .u, .u, (.d (eI v_many)), (.d (eI v_step)), .u, .u, .u, .u, .u, .u, .u]) (q_tor (q_tand (q_tr (SimD.toE (q_op o_ltI (SimD.toE (q_var (e := eI) (a := v_gap) 7 (by rfl))) (SimD.toE (q_const (e := eI) (a := (2 : Int)) rfl))))) (q_tr (SimD.toE (q_op (o_ne (e := (eP2 eI (eT eI))) (e1 := (eP2 eI (eT eI)))) (SimD.toE (q_call ok_t_longest_multiples (q_aF (e := eD) (SimD.toE (q_castD (e1 := eD) (g' := eI) (q_var (e := eI) (a := v_gap) 7 (by rfl)) (fun _ => rfl))) (q_aF (e := eD) (SimD.toE (q_castD (e1 := eD) (g' := eI) (q_var (e := eI) (a := v_most) 8 (by rfl)) (fun _ => rfl))) q_aN)) rfl)) (SimD.toE (q_call ok_t__law_longest (q_aF (e := eI) (SimD.toE (q_var (e := eI) (a := v_gap) 7 (by rfl))) (q_aS (e := eI) (q_var (e := eI) (a := v_most) 8 (by rfl)) q_aN)) rfl)))))) (q_tand (q_tr (SimD.toE (q_op o_eqI (SimD.toE (q_var (e := eI) (a := v_gap) 7 (by rfl))) (SimD.toE (q_const (e := eI) (a := (2 : Int)) rfl))))) (q_tr (SimD.toE (q_op (o_ne (e := (eP2 eI (eT eI))) (e1 := (eP2 eI (eT eI)))) (SimD.toE (q_call ok_t_longest_multiples (q_aF (e := eD) (SimD.toE (q_castD (e1 := eD) (g' := eI) (q_const (e := eI) (a := (2 : Int)) rfl) (fun _ => rfl))) (q_aF (e := eD) (SimD.toE (q_castD (e1 := eD) (g' := eI) (q_b b_min2 (q_aF (e := eI) (SimD.toE (q_var (e := eI) (a := v_most) 8 (by rfl))) (q_aF (e := eI) (SimD.toE (q_const (e := eI) (a := (7 : Int)) rfl)) q_aN)) rfl) (fun _ => rfl))) q_aN)) rfl)) (SimD.toE (q_call ok_t__law_longest (q_aF (e := eI) (SimD.toE (q_const (e := eI) (a := (2 : Int)) rfl)) (q_aS (e := eI) (q_b b_min2 (q_aF (e := eI) (SimD.toE (q_var (e := eI) (a := v_most) 8 (by rfl))) (q_aF (e := eI) (SimD.toE (q_const (e := eI) (a := (7 : Int)) rfl)) q_aN)) rfl) q_aN)) rfl))))))) (q_ret (e := eB) (q_const (e := eB) (a := false) rfl)) (q_skip (s := ()) (by exact (ls_k (ls_k (ls_k (ls_k (ls_k (ls_k (ls_k (ls_k (ls_k (ls_k (ls_k (ls_k (ls_k (ls_k (ls_k (ls_k (ls_k (ls_k (ls_k (ls_k (ls_k (ls_k (ls_k (ls_k (ls_k (ls_k ls_n)))))))))))))))))))))))))))))
  case e => simp only [m_13, x_13, X.m_fn, X.m_seq, X.m_bind, X.m_ite, X.m_ok, X.m_exc, X.m_lc, X.m_lc2, X.m_for, X.m_wh, X.m_try, X.m_hnd, X.m_sure]
def x_14 (ns : (List Int)) (v_spans : (List (List Int))) (v_every : (List (List Int))) (v_signs : (List Int)) (v_gap : Int) (v_most : Int) (v_many : Int) (v_step : Int) : X (Fl (Unit) Empty Bool) :=
  (X.bind (X.bind (X.bind (X.bind (X.bind (X.bind (X.ok (1 : Int)) fun v8091 =>
  (X.ok (eI v8091))) fun v8095 =>
  (X.bind (X.bind (X.bind (X.ok (14 : Int)) fun v8092 =>
  (X.ok (eI v8092))) fun v8093 =>
  (X.bind (X.ok ()) fun v8094 =>
  (X.ok (v8093, v8094)))) fun v8096 =>
  (X.ok (v8095, v8096)))) fun a8097 =>
  (t_longest_multiples a8097.1 a8097.2.1)) fun v8098 =>
  (X.ok v8098.1)) fun v8099 =>
  (X.bind (X.ok (11 : Int)) fun v8100 =>
  (X.of (some (!decide (v8099 = v8100)))))) fun v8102 =>
  (if v8102 = true then (X.bind (X.ok false) fun v8101 =>
  (X.ok (.ret v8101))) else (X.ok (.next ()))))
def m_14 (ns : (List Int)) (v_spans : (List (List Int))) (v_every : (List (List Int))) (v_signs : (List Int)) (v_gap : Int) (v_most : Int) (v_many : Int) (v_step : Int) : M (Fl (Unit) Empty Bool) := (x_14 ns v_spans v_every v_signs v_gap v_most v_many v_step).m
theorem sl_14 {n0 : Nat} {base : Sto} (ns : (List Int)) (v_spans : (List (List Int))) (v_every : (List (List Int))) (v_signs : (List Int)) (v_gap : Int) (v_most : Int) (v_many : Int) (v_step : Int) : SimS ⟨n0, base, some 0, TI, false⟩ (fun s8090 : Unit => [(.d ((eL eI) ns)), .t, (.d ((eL (eT eI)) v_spans)), .u, (.d ((eL (eT eI)) v_every)), .u, (.d ((eT eI) v_signs)), (.d (eI v_gap)), (.d (eI v_most)), .u, .u, .u, .u, .u, .u, .u, .u, (.d (eI v_many)), (.d (eI v_step)), .u, .u, .u, .u, .u, .u, .u]) (fun s : Empty => nomatch s) (rD eB) none [(.d ((eL eI) ns)), .t, (.d ((eL (eT eI)) v_spans)), .u, (.d ((eL (eT eI)) v_every)), .u, (.d ((eT eI) v_signs)), (.d (eI v_gap)), (.d (eI v_most)), .u, .u, .u, .u, .u, .u, .u, .u, (.d (eI v_many)), (.d (eI v_step)), .u, .u, .u, .u, .u, .u, .u] l_14 (m_14 ns v_spans v_every v_signs v_gap v_most v_many v_step) := by
  unfold l_14 l_14_t
  apply SimS.eq
  case h => exact (q_sif (es := fun (s8090 : Unit) => [(.d ((eL eI) ns)), .t, (.d ((eL (eT eI)) v_spans)), .u, (.d ((eL (eT eI)) v_every)), .u, (.d ((eT eI) v_signs)), (.d (eI v_gap)), (.d (eI v_most)), .u, .u, .u, .u, .u, .u, .u, .u, (.d (eI v_many)), (.d (eI v_step)), .u, .u, .u, .u, .u, .u, .u]) (q_tr (SimD.toE (q_op o_neI (SimD.toE (q_fst (e := eI) (e1 := (eT eI)) (SimD.toE (q_call ok_t_longest_multiples (q_aF (e := eD) (SimD.toE (q_castD (e1 := eD) (g' := eI) (q_const (e := eI) (a := (1 : Int)) rfl) (fun _ => rfl))) (q_aF (e := eD) (SimD.toE (q_castD (e1 := eD) (g' := eI) (q_const (e := eI) (a := (14 : Int)) rfl) (fun _ => rfl))) q_aN)) rfl)))) (SimD.toE (q_const (e := eI) (a := (11 : Int)) rfl))))) (q_ret (e := eB) (q_const (e := eB) (a := false) rfl)) (q_skip (s := ()) (by exact (ls_k (ls_k (ls_k (ls_k (ls_k (ls_k (ls_k (ls_k (ls_k (ls_k (ls_k (ls_k (ls_k (ls_k (ls_k (ls_k (ls_k (ls_k (ls_k (ls_k (ls_k (ls_k (ls_k (ls_k (ls_k (ls_k ls_n)))))))))))))))))))))))))))))
  case e => simp only [m_14, x_14, X.m_fn, X.m_seq, X.m_bind, X.m_ite, X.m_ok, X.m_exc, X.m_lc, X.m_lc2, X.m_for, X.m_wh, X.m_try, X.m_hnd, X.m_sure]
def m_15 (ns : (List Int)) (v_spans : (List (List Int))) (v_every : (List (List Int))) (v_signs : (List Int)) (v_gap : Int) (v_most : Int) (v_many : Int) (v_step : Int) : M (Fl (Int) Empty Bool) :=
  (M.bind (M.bind (M.pure (1 : Int)) fun v8109 =>
  (M.bind (M.bind (M.bind (M.pure ns) fun v8106 =>
  (M.bind (M.bind (M.pure (400 : Int)) fun v8104 =>
  (M.bind (M.pure ()) fun v8105 =>
  (M.pure (v8104, v8105)))) fun v8107 =>
  (M.pure (v8106, v8107)))) fun a8108 =>
  (w__law_draw a8108.1 a8108.2.1)) fun v8110 =>
  (X.of (some (v8109 + v8110))).m)) fun v8111 =>
  (M.pure (.next v8111)))
theorem sl_15 {n0 : Nat} {base : Sto} (ns : (List Int)) (v_spans : (List (List Int))) (v_every : (List (List Int))) (v_signs : (List Int)) (v_gap : Int) (v_most : Int) (v_many : Int) (v_step : Int) : SimS ⟨n0, base, some 0, TI, false⟩ (fun s8103 : Int => [(.d ((eL eI) ns)), .t, (.d ((eL (eT eI)) v_spans)), .u, (.d ((eL (eT eI)) v_every)), .u, (.d ((eT eI) v_signs)), (.d (eI v_gap)), (.d (eI v_most)), (.d (eI s8103)), .u, .u, .u, .u, .u, .u, .u, (.d (eI v_many)), (.d (eI v_step)), .u, .u, .u, .u, .u, .u, .u]) (fun s : Empty => nomatch s) (rD eB) none [(.d ((eL eI) ns)), .t, (.d ((eL (eT eI)) v_spans)), .u, (.d ((eL (eT eI)) v_every)), .u, (.d ((eT eI) v_signs)), (.d (eI v_gap)), (.d (eI v_most)), .u, .u, .u, .u, .u, .u, .u, .u, (.d (eI v_many)), (.d (eI v_step)), .u, .u, .u, .u, .u, .u, .u] l_15 (m_15 ns v_spans v_every v_signs v_gap v_most v_many v_step) := by
  unfold l_15 m_15
  exact (q_set (e := eI) 9 (q_op o_addI (SimD.toE (q_const (e := eI) (a := (1 : Int)) rfl)) (SimD.toE (q_callM (c := ⟨n0, base, some 0, TI, false⟩) ok_w__law_draw (q_aT 1 (by rfl) (q_aF (e := (eL eI)) (SimD.toE (q_var (e := (eL eI)) (a := ns) 0 (by rfl))) (q_aF (e := eI) (SimD.toE (q_const (e := eI) (a := (400 : Int)) rfl)) q_aN))) rfl))))
def x_16 (ns : (List Int)) (v_spans : (List (List Int))) (v_every : (List (List Int))) (v_signs : (List Int)) (v_gap : Int) (v_most : Int) (v_number : Int) (v_many : Int) (v_step : Int) : X (Fl ((List Int)) Empty Bool) :=
  (X.bind (X.bind (X.bind (X.bind (X.ok (1 : Int)) fun v8117 =>
  (X.bind (X.bind (X.bind (X.ok v_number) fun v8113 =>
  (X.bind (X.ok (1 : Int)) fun v8114 =>
  (X.of (some (v8113 + v8114))))) fun v8115 =>
  (X.bind (X.ok ()) fun v8116 =>
  (X.ok (v8115, v8116)))) fun v8118 =>
  (X.ok (v8117, v8118)))) fun v8119 =>
  (X.of (rg2 v8119.1 v8119.2.1))) fun v8121 =>
  (X.bind (X.lc (fun x8120 => (X.ok true)) (fun x8120 => (X.bind (X.bind (X.ok x8120) fun v8123 =>
  (X.bind (X.ok ()) fun v8124 =>
  (X.ok (v8123, v8124)))) fun a8125 =>
  (t__law_sign a8125.1))) v8121) fun v8122 =>
  (X.of (limO v8122)))) fun v8126 =>
  (X.ok (.next v8126)))
def m_16 (ns : (List Int)) (v_spans : (List (List Int))) (v_every : (List (List Int))) (v_signs : (List Int)) (v_gap : Int) (v_most : Int) (v_number : Int) (v_many : Int) (v_step : Int) : M (Fl ((List Int)) Empty Bool) := (x_16 ns v_spans v_every v_signs v_gap v_most v_number v_many v_step).m
theorem sl_16 {n0 : Nat} {base : Sto} (ns : (List Int)) (v_spans : (List (List Int))) (v_every : (List (List Int))) (v_signs : (List Int)) (v_gap : Int) (v_most : Int) (v_number : Int) (v_many : Int) (v_step : Int) : SimS ⟨n0, base, some 0, TI, false⟩ (fun s8112 : (List Int) => [(.d ((eL eI) ns)), .t, (.d ((eL (eT eI)) v_spans)), .u, (.d ((eL (eT eI)) v_every)), .u, (.d ((eT eI) v_signs)), (.d (eI v_gap)), (.d (eI v_most)), (.d (eI v_number)), (.d ((eL eI) s8112)), .u, .u, .u, .u, .u, .u, (.d (eI v_many)), (.d (eI v_step)), .u, .u, .u, .u, .u, .u, .u]) (fun s : Empty => nomatch s) (rD eB) none [(.d ((eL eI) ns)), .t, (.d ((eL (eT eI)) v_spans)), .u, (.d ((eL (eT eI)) v_every)), .u, (.d ((eT eI) v_signs)), (.d (eI v_gap)), (.d (eI v_most)), (.d (eI v_number)), .u, .u, .u, .u, .u, .u, .u, (.d (eI v_many)), (.d (eI v_step)), .u, .u, .u, .u, .u, .u, .u] l_16 (m_16 ns v_spans v_every v_signs v_gap v_most v_number v_many v_step) := by
  unfold l_16
  apply SimS.eq
  case h => exact (q_set (e := (eL eI)) 10 (q_lc (e := eI) (e1 := eI) (vs := [5]) (SimI.j (q_r2 (q_aF (e := eI) (SimD.toE (q_const (e := eI) (a := (1 : Int)) rfl)) (q_aF (e := eI) (SimD.toE (q_op o_addI (SimD.toE (q_var (e := eI) (a := v_number) 9 (by rfl))) (SimD.toE (q_const (e := eI) (a := (1 : Int)) rfl)))) q_aN)) rfl)) (q_bn (e := eI) 5) (fun x8120 => q_yes) (fun x8120 => (q_call ok_t__law_sign (q_aS (e := eI) (q_var (e := eI) (a := x8120) 5 (by rfl)) q_aN) rfl))))
  case e => simp only [m_16, x_16, X.m_fn, X.m_seq, X.m_bind, X.m_ite, X.m_ok, X.m_exc, X.m_lc, X.m_lc2, X.m_for, X.m_wh, X.m_try, X.m_hnd, X.m_sure]
def x_17 (ns : (List Int)) (v_spans : (List (List Int))) (v_every : (List (List Int))) (v_signs : (List Int)) (v_gap : Int) (v_most : Int) (v_number : Int) (v_threes : (List Int)) (v_many : Int) (v_step : Int) : X (Fl ((Int × Int × Unit)) Empty Bool) :=
  (X.bind (X.bind (X.ok (0 : Int)) fun v8130 =>
  (X.bind (X.bind (X.ok v_number) fun v8128 =>
  (X.bind (X.ok ()) fun v8129 =>
  (X.ok (v8128, v8129)))) fun v8131 =>
  (X.ok (v8130, v8131)))) fun v8132 =>
  (X.ok (.next v8132)))
def m_17 (ns : (List Int)) (v_spans : (List (List Int))) (v_every : (List (List Int))) (v_signs : (List Int)) (v_gap : Int) (v_most : Int) (v_number : Int) (v_threes : (List Int)) (v_many : Int) (v_step : Int) : M (Fl ((Int × Int × Unit)) Empty Bool) := (x_17 ns v_spans v_every v_signs v_gap v_most v_number v_threes v_many v_step).m
theorem sl_17 {n0 : Nat} {base : Sto} (ns : (List Int)) (v_spans : (List (List Int))) (v_every : (List (List Int))) (v_signs : (List Int)) (v_gap : Int) (v_most : Int) (v_number : Int) (v_threes : (List Int)) (v_many : Int) (v_step : Int) : SimS ⟨n0, base, some 0, TI, false⟩ (fun s8127 : (Int × Int × Unit) => [(.d ((eL eI) ns)), .t, (.d ((eL (eT eI)) v_spans)), .u, (.d ((eL (eT eI)) v_every)), .u, (.d ((eT eI) v_signs)), (.d (eI v_gap)), (.d (eI v_most)), (.d (eI v_number)), (.d ((eL eI) v_threes)), .u, .u, .u, .u, .u, .u, (.d (eI v_many)), (.d (eI v_step)), (.d (eI s8127.1)), (.d (eI s8127.2.1)), .u, .u, .u, .u, .u]) (fun s : Empty => nomatch s) (rD eB) none [(.d ((eL eI) ns)), .t, (.d ((eL (eT eI)) v_spans)), .u, (.d ((eL (eT eI)) v_every)), .u, (.d ((eT eI) v_signs)), (.d (eI v_gap)), (.d (eI v_most)), (.d (eI v_number)), (.d ((eL eI) v_threes)), .u, .u, .u, .u, .u, .u, (.d (eI v_many)), (.d (eI v_step)), .u, .u, .u, .u, .u, .u, .u] l_17 (m_17 ns v_spans v_every v_signs v_gap v_most v_number v_threes v_many v_step) := by
  unfold l_17
  apply SimS.eq
  case h => exact (q_par (v_d (e := eI) (q_const (e := eI) (a := (0 : Int)) rfl) (v_d (e := eI) (q_var (e := eI) (a := v_number) 9 (by rfl)) v_nil)))
  case e => simp only [m_17, x_17, X.m_fn, X.m_seq, X.m_bind, X.m_ite, X.m_ok, X.m_exc, X.m_lc, X.m_lc2, X.m_for, X.m_wh, X.m_try, X.m_hnd, X.m_sure]
def x_18 (ns : (List Int)) (v_spans : (List (List Int))) (v_every : (List (List Int))) (v_signs : (List Int)) (v_gap : Int) (v_most : Int) (v_number : Int) (v_threes : (List Int)) (v_many : Int) (v_step : Int) (v_figures : Int) (v_rest : Int) : X (Fl (Int × Int) Empty Bool) :=
  (X.wh (fun (s8134 : Int × Int) => (X.bind (X.ok s8134.2) fun v8136 =>
  (X.bind (X.ok (0 : Int)) fun v8137 =>
  (X.of (some (decide (v8137 < v8136))))))) (fun (s8134 : Int × Int) => (X.seq (X.bind (X.bind (X.bind (X.ok s8134.1) fun v8149 =>
  (X.bind (X.bind (X.bind (X.bind (X.bind (X.bind (X.bind (X.ok s8134.2) fun v8139 =>
  (X.bind (X.ok ()) fun v8140 =>
  (X.ok (v8139, v8140)))) fun v8141 =>
  (X.of (some v8141.1))) fun v8142 =>
  (X.bind (X.ok (3 : Int)) fun v8143 =>
  (X.of (modO v8142 v8143)))) fun v8144 =>
  (X.bind (X.ok (1 : Int)) fun v8145 =>
  (X.of (some (decide (v8144 = v8145)))))) fun v8146 =>
  (X.bind (X.ok ()) fun v8147 =>
  (X.ok (v8146, v8147)))) fun v8148 =>
  (X.of (some (if v8148.1 = true then 1 else 0)))) fun v8150 =>
  (X.of (some (v8149 + v8150))))) fun v8155 =>
  (X.bind (X.bind (X.bind (X.ok s8134.2) fun v8151 =>
  (X.bind (X.ok (3 : Int)) fun v8152 =>
  (X.of (divO v8151 v8152)))) fun v8153 =>
  (X.bind (X.ok ()) fun v8154 =>
  (X.ok (v8153, v8154)))) fun v8156 =>
  (X.ok (v8155, v8156)))) fun v8157 =>
  (X.ok (.next v8157))) fun s8138 => (X.ok (.next (s8138.1, s8138.2.1))))) fuel (v_figures, v_rest))
def m_18 (ns : (List Int)) (v_spans : (List (List Int))) (v_every : (List (List Int))) (v_signs : (List Int)) (v_gap : Int) (v_most : Int) (v_number : Int) (v_threes : (List Int)) (v_many : Int) (v_step : Int) (v_figures : Int) (v_rest : Int) : M (Fl (Int × Int) Empty Bool) := (x_18 ns v_spans v_every v_signs v_gap v_most v_number v_threes v_many v_step v_figures v_rest).m
theorem sl_18 {n0 : Nat} {base : Sto} (ns : (List Int)) (v_spans : (List (List Int))) (v_every : (List (List Int))) (v_signs : (List Int)) (v_gap : Int) (v_most : Int) (v_number : Int) (v_threes : (List Int)) (v_many : Int) (v_step : Int) (v_figures : Int) (v_rest : Int) : SimS ⟨n0, base, some 0, TI, false⟩ (fun s8133 : Int × Int => [(.d ((eL eI) ns)), .t, (.d ((eL (eT eI)) v_spans)), .u, (.d ((eL (eT eI)) v_every)), .u, (.d ((eT eI) v_signs)), (.d (eI v_gap)), (.d (eI v_most)), (.d (eI v_number)), (.d ((eL eI) v_threes)), .u, .u, .u, .u, .u, .u, (.d (eI v_many)), (.d (eI v_step)), (.d (eI s8133.1)), (.d (eI s8133.2)), .u, .u, .u, .u, .u]) (fun s : Empty => nomatch s) (rD eB) none [(.d ((eL eI) ns)), .t, (.d ((eL (eT eI)) v_spans)), .u, (.d ((eL (eT eI)) v_every)), .u, (.d ((eT eI) v_signs)), (.d (eI v_gap)), (.d (eI v_most)), (.d (eI v_number)), (.d ((eL eI) v_threes)), .u, .u, .u, .u, .u, .u, (.d (eI v_many)), (.d (eI v_step)), (.d (eI v_figures)), (.d (eI v_rest)), .u, .u, .u, .u, .u] l_18 (m_18 ns v_spans v_every v_signs v_gap v_most v_number v_threes v_many v_step v_figures v_rest) := by
  unfold l_18 l_18_b
  apply SimS.eq
  case h => exact (q_wh (es := fun (s8134 : Int × Int) => [(.d ((eL eI) ns)), .t, (.d ((eL (eT eI)) v_spans)), .u, (.d ((eL (eT eI)) v_every)), .u, (.d ((eT eI) v_signs)), (.d (eI v_gap)), (.d (eI v_most)), (.d (eI v_number)), (.d ((eL eI) v_threes)), .u, .u, .u, .u, .u, .u, (.d (eI v_many)), (.d (eI v_step)), (.d (eI s8134.1)), (.d (eI s8134.2)), .u, .u, .u, .u, .u]) (v_figures, v_rest) (by exact (ls_k (ls_k (ls_k (ls_k (ls_k (ls_k (ls_k (ls_k (ls_k (ls_k (ls_k (ls_k (ls_k (ls_k (ls_k (ls_k (ls_k (ls_k (ls_k (ls_k (ls_k (ls_k (ls_k (ls_k (ls_k (ls_k ls_n))))))))))))))))))))))))))) (fun s8134 => (q_tr (SimD.toE (q_op o_gtI (SimD.toE (q_var (e := eI) (a := s8134.2) 20 (by rfl))) (SimD.toE (q_const (e := eI) (a := (0 : Int)) rfl)))))) (fun s8134 =>
  (q_end (k := fun (s8138 : (Int × Int × Unit)) => (s8138.1, s8138.2.1)) (q_par (v_d (e := eI) (q_op o_addI (SimD.toE (q_var (e := eI) (a := s8134.1) 19 (by rfl))) (SimD.toE (q_b b_intB (q_aF (e := eB) (SimD.toE (q_op o_eqI (SimD.toE (q_op o_modI (SimD.toE (q_b b_intI (q_aF (e := eI) (SimD.toE (q_var (e := eI) (a := s8134.2) 20 (by rfl))) q_aN) rfl)) (SimD.toE (q_const (e := eI) (a := (3 : Int)) rfl)))) (SimD.toE (q_const (e := eI) (a := (1 : Int)) rfl)))) q_aN) rfl))) (v_d (e := eI) (q_op o_divI (SimD.toE (q_var (e := eI) (a := s8134.2) 20 (by rfl))) (SimD.toE (q_const (e := eI) (a := (3 : Int)) rfl))) v_nil))) (fun s8138 => (by exact (ls_k (ls_k (ls_k (ls_k (ls_k (ls_k (ls_k (ls_k (ls_k (ls_k (ls_k (ls_k (ls_k (ls_k (ls_k (ls_k (ls_k (ls_k (ls_k (ls_k (ls_k (ls_k (ls_k (ls_k (ls_k (ls_k ls_n)))))))))))))))))))))))))))))))
  case e => simp only [m_18, x_18, X.m_fn, X.m_seq, X.m_bind, X.m_ite, X.m_ok, X.m_exc, X.m_lc, X.m_lc2, X.m_for, X.m_wh, X.m_try, X.m_hnd, X.m_sure]
def x_19 (ns : (List Int)) (v_spans : (List (List Int))) (v_every : (List (List Int))) (v_signs : (List Int)) (v_gap : Int) (v_most : Int) (v_number : Int) (v_threes : (List Int)) (v_many : Int) (v_step : Int) (v_figures : Int) (v_rest : Int) : X (Fl (Unit) Empty Bool) :=
  (X.bind (X.bind (X.bind (X.bind (X.bind (X.ok v_number) fun v8188 =>
  (X.bind (X.ok ()) fun v8189 =>
  (X.ok (v8188, v8189)))) fun a8190 =>
  (t_threes_sign a8190.1)) fun v8194 =>
  (X.bind (X.bind (X.ok v_threes) fun v8192 =>
  (X.bind (X.bind (X.ok (1 : Int)) fun v8191 =>
  (X.of (some (-v8191)))) fun v8193 =>
  (X.of (L2.atI v8192 v8193)))) fun v8195 =>
  (X.of (some (!decide (v8194 = v8195)))))) fun v8196 =>
  (if v8196 = true then (X.ok true) else (X.bind (X.bind (X.bind (X.bind (X.bind (X.ok v_number) fun v8178 =>
  (X.ok (eI v8178))) fun v8179 =>
  (X.bind (X.ok ()) fun v8180 =>
  (X.ok (v8179, v8180)))) fun a8181 =>
  (t_threes_signs a8181.1)) fun v8185 =>
  (X.bind (X.bind (X.bind (X.ok v_threes) fun v8182 =>
  (X.bind (X.ok ()) fun v8183 =>
  (X.ok (v8182, v8183)))) fun v8184 =>
  (X.of (some v8184.1))) fun v8186 =>
  (X.of (neD ((eT eI) v8185) ((eT eI) v8186))))) fun v8187 =>
  (if v8187 = true then (X.ok true) else (X.bind (X.bind (X.bind (X.bind (X.bind (X.ok v_number) fun v8171 =>
  (X.ok (eI v8171))) fun v8172 =>
  (X.bind (X.ok ()) fun v8173 =>
  (X.ok (v8172, v8173)))) fun a8174 =>
  (t_threes_sum a8174.1)) fun v8175 =>
  (X.bind (X.ok v_figures) fun v8176 =>
  (X.of (some (!decide (v8175 = v8176)))))) fun v8177 =>
  (if v8177 = true then (X.ok true) else (X.bind (X.bind (X.bind (X.bind (X.ok v_threes) fun v8165 =>
  (X.bind (X.ok ()) fun v8166 =>
  (X.ok (v8165, v8166)))) fun v8167 =>
  (X.of (some v8167.1.sum))) fun v8168 =>
  (X.bind (X.ok v_figures) fun v8169 =>
  (X.of (some (!decide (v8168 = v8169)))))) fun v8170 =>
  (if v8170 = true then (X.ok true) else (X.bind (X.bind (X.bind (X.bind (X.ok (0 : Int)) fun v8159 =>
  (X.ok (eI v8159))) fun v8160 =>
  (X.bind (X.ok ()) fun v8161 =>
  (X.ok (v8160, v8161)))) fun a8162 =>
  (t_threes_sum a8162.1)) fun v8163 =>
  (X.bind (X.ok (0 : Int)) fun v8164 =>
  (X.of (some (!decide (v8163 = v8164)))))))))))))) fun v8198 =>
  (if v8198 = true then (X.bind (X.ok false) fun v8197 =>
  (X.ok (.ret v8197))) else (X.ok (.next ()))))
def m_19 (ns : (List Int)) (v_spans : (List (List Int))) (v_every : (List (List Int))) (v_signs : (List Int)) (v_gap : Int) (v_most : Int) (v_number : Int) (v_threes : (List Int)) (v_many : Int) (v_step : Int) (v_figures : Int) (v_rest : Int) : M (Fl (Unit) Empty Bool) := (x_19 ns v_spans v_every v_signs v_gap v_most v_number v_threes v_many v_step v_figures v_rest).m
theorem sl_19 {n0 : Nat} {base : Sto} (ns : (List Int)) (v_spans : (List (List Int))) (v_every : (List (List Int))) (v_signs : (List Int)) (v_gap : Int) (v_most : Int) (v_number : Int) (v_threes : (List Int)) (v_many : Int) (v_step : Int) (v_figures : Int) (v_rest : Int) : SimS ⟨n0, base, some 0, TI, false⟩ (fun s8158 : Unit => [(.d ((eL eI) ns)), .t, (.d ((eL (eT eI)) v_spans)), .u, (.d ((eL (eT eI)) v_every)), .u, (.d ((eT eI) v_signs)), (.d (eI v_gap)), (.d (eI v_most)), (.d (eI v_number)), (.d ((eL eI) v_threes)), .u, .u, .u, .u, .u, .u, (.d (eI v_many)), (.d (eI v_step)), (.d (eI v_figures)), (.d (eI v_rest)), .u, .u, .u, .u, .u]) (fun s : Empty => nomatch s) (rD eB) none [(.d ((eL eI) ns)), .t, (.d ((eL (eT eI)) v_spans)), .u, (.d ((eL (eT eI)) v_every)), .u, (.d ((eT eI) v_signs)), (.d (eI v_gap)), (.d (eI v_most)), (.d (eI v_number)), (.d ((eL eI) v_threes)), .u, .u, .u, .u, .u, .u, (.d (eI v_many)), (.d (eI v_step)), (.d (eI v_figures)), (.d (eI v_rest)), .u, .u, .u, .u, .u] l_19 (m_19 ns v_spans v_every v_signs v_gap v_most v_number v_threes v_many v_step v_figures v_rest) := by
  unfold l_19 l_19_t
  apply SimS.eq
  case h => exact (q_sif (es := fun (s8158 : Unit) => [(.d ((eL eI) ns)), .t, (.d ((eL (eT eI)) v_spans)), .u, (.d ((eL (eT eI)) v_every)), .u, (.d ((eT eI) v_signs)), (.d (eI v_gap)), (.d (eI v_most)), (.d (eI v_number)), (.d ((eL eI) v_threes)), .u, .u, .u, .u, .u, .u, (.d (eI v_many)), (.d (eI v_step)), (.d (eI v_figures)), (.d (eI v_rest)), .u, .u, .u, .u, .u]) (q_tor (q_tr (SimD.toE (q_op o_neI (SimD.toE (q_call ok_t_threes_sign (q_aS (e := eI) (q_var (e := eI) (a := v_number) 9 (by rfl)) q_aN) rfl)) (SimD.toE (q_op (o_ixL (e := eI)) (SimD.toE (q_var (e := (eL eI)) (a := v_threes) 10 (by rfl))) (SimD.toE (q_un u_negI (SimD.toE (q_const (e := eI) (a := (1 : Int)) rfl))))))))) (q_tor (q_tr (SimD.toE (q_op (o_ne (e := (eT eI)) (e1 := (eT eI))) (SimD.toE (q_call ok_t_threes_signs (q_aF (e := eD) (SimD.toE (q_castD (e1 := eD) (g' := eI) (q_var (e := eI) (a := v_number) 9 (by rfl)) (fun _ => rfl))) q_aN) rfl)) (SimD.toE (q_b (b_tupL (e := eI)) (q_aF (e := (eL eI)) (SimD.toE (q_var (e := (eL eI)) (a := v_threes) 10 (by rfl))) q_aN) rfl))))) (q_tor (q_tr (SimD.toE (q_op o_neI (SimD.toE (q_call ok_t_threes_sum (q_aS (e := eD) (q_castD (e1 := eD) (g' := eI) (q_var (e := eI) (a := v_number) 9 (by rfl)) (fun _ => rfl)) q_aN) rfl)) (SimD.toE (q_var (e := eI) (a := v_figures) 19 (by rfl)))))) (q_tor (q_tr (SimD.toE (q_op o_neI (SimD.toE (q_b b_sum (q_aF (e := (eL eI)) (SimD.toE (q_var (e := (eL eI)) (a := v_threes) 10 (by rfl))) q_aN) rfl)) (SimD.toE (q_var (e := eI) (a := v_figures) 19 (by rfl)))))) (q_tr (SimD.toE (q_op o_neI (SimD.toE (q_call ok_t_threes_sum (q_aS (e := eD) (q_castD (e1 := eD) (g' := eI) (q_const (e := eI) (a := (0 : Int)) rfl) (fun _ => rfl)) q_aN) rfl)) (SimD.toE (q_const (e := eI) (a := (0 : Int)) rfl))))))))) (q_ret (e := eB) (q_const (e := eB) (a := false) rfl)) (q_skip (s := ()) (by exact (ls_k (ls_k (ls_k (ls_k (ls_k (ls_k (ls_k (ls_k (ls_k (ls_k (ls_k (ls_k (ls_k (ls_k (ls_k (ls_k (ls_k (ls_k (ls_k (ls_k (ls_k (ls_k (ls_k (ls_k (ls_k (ls_k ls_n)))))))))))))))))))))))))))))
  case e => simp only [m_19, x_19, X.m_fn, X.m_seq, X.m_bind, X.m_ite, X.m_ok, X.m_exc, X.m_lc, X.m_lc2, X.m_for, X.m_wh, X.m_try, X.m_hnd, X.m_sure]
def x_20 (ns : (List Int)) (v_spans : (List (List Int))) (v_every : (List (List Int))) (v_signs : (List Int)) (v_gap : Int) (v_most : Int) (v_number : Int) (v_threes : (List Int)) (v_many : Int) (v_step : Int) (v_figures : Int) (v_rest : Int) : X (Fl (Unit) Empty Bool) :=
  (X.bind (X.bind (X.bind (X.bind (X.bind (X.bind (X.bind (X.ok v_threes) fun v8201 =>
  (X.bind (X.ok none) fun v8202 =>
  (X.bind (X.bind (X.ok (60 : Int)) fun v8200 =>
  (X.ok (some v8200))) fun v8203 =>
  (X.ok (cutT v8201 v8202 v8203))))) fun v8204 =>
  (X.bind (X.ok ()) fun v8205 =>
  (X.ok (v8204, v8205)))) fun v8206 =>
  (X.of (some v8206.1))) fun v8207 =>
  (X.bind (X.ok ()) fun v8208 =>
  (X.ok (v8207, v8208)))) fun a8209 =>
  (t_is_product_signs a8209.1)) fun v8210 =>
  (X.bind (X.ok true) fun v8211 =>
  (X.of (isnD (eB v8210) (eB v8211))))) fun v8213 =>
  (if v8213 = true then (X.bind (X.ok false) fun v8212 =>
  (X.ok (.ret v8212))) else (X.ok (.next ()))))
def m_20 (ns : (List Int)) (v_spans : (List (List Int))) (v_every : (List (List Int))) (v_signs : (List Int)) (v_gap : Int) (v_most : Int) (v_number : Int) (v_threes : (List Int)) (v_many : Int) (v_step : Int) (v_figures : Int) (v_rest : Int) : M (Fl (Unit) Empty Bool) := (x_20 ns v_spans v_every v_signs v_gap v_most v_number v_threes v_many v_step v_figures v_rest).m
theorem sl_20 {n0 : Nat} {base : Sto} (ns : (List Int)) (v_spans : (List (List Int))) (v_every : (List (List Int))) (v_signs : (List Int)) (v_gap : Int) (v_most : Int) (v_number : Int) (v_threes : (List Int)) (v_many : Int) (v_step : Int) (v_figures : Int) (v_rest : Int) : SimS ⟨n0, base, some 0, TI, false⟩ (fun s8199 : Unit => [(.d ((eL eI) ns)), .t, (.d ((eL (eT eI)) v_spans)), .u, (.d ((eL (eT eI)) v_every)), .u, (.d ((eT eI) v_signs)), (.d (eI v_gap)), (.d (eI v_most)), (.d (eI v_number)), (.d ((eL eI) v_threes)), .u, .u, .u, .u, .u, .u, (.d (eI v_many)), (.d (eI v_step)), (.d (eI v_figures)), (.d (eI v_rest)), .u, .u, .u, .u, .u]) (fun s : Empty => nomatch s) (rD eB) none [(.d ((eL eI) ns)), .t, (.d ((eL (eT eI)) v_spans)), .u, (.d ((eL (eT eI)) v_every)), .u, (.d ((eT eI) v_signs)), (.d (eI v_gap)), (.d (eI v_most)), (.d (eI v_number)), (.d ((eL eI) v_threes)), .u, .u, .u, .u, .u, .u, (.d (eI v_many)), (.d (eI v_step)), (.d (eI v_figures)), (.d (eI v_rest)), .u, .u, .u, .u, .u] l_20 (m_20 ns v_spans v_every v_signs v_gap v_most v_number v_threes v_many v_step v_figures v_rest) := by
  unfold l_20 l_20_t
  apply SimS.eq
  case h => exact (q_sif (es := fun (s8199 : Unit) => [(.d ((eL eI) ns)), .t, (.d ((eL (eT eI)) v_spans)), .u, (.d ((eL (eT eI)) v_every)), .u, (.d ((eT eI) v_signs)), (.d (eI v_gap)), (.d (eI v_most)), (.d (eI v_number)), (.d ((eL eI) v_threes)), .u, .u, .u, .u, .u, .u, (.d (eI v_many)), (.d (eI v_step)), (.d (eI v_figures)), (.d (eI v_rest)), .u, .u, .u, .u, .u]) (q_tr (SimD.toE (q_op (o_isn (e := eB) (e1 := eB)) (SimD.toE (q_call ok_t_is_product_signs (q_aF (e := (eT eI)) (SimD.toE (q_b (b_tupL (e := eI)) (q_aF (e := (eL eI)) (SimD.toE (q_slL (e := eI) (SimD.toE (q_var (e := (eL eI)) (a := v_threes) 10 (by rfl))) q_no (q_part (SimD.toE (q_const (e := eI) (a := (60 : Int)) rfl))))) q_aN) rfl)) q_aN) rfl)) (SimD.toE (q_const (e := eB) (a := true) rfl))))) (q_ret (e := eB) (q_const (e := eB) (a := false) rfl)) (q_skip (s := ()) (by exact (ls_k (ls_k (ls_k (ls_k (ls_k (ls_k (ls_k (ls_k (ls_k (ls_k (ls_k (ls_k (ls_k (ls_k (ls_k (ls_k (ls_k (ls_k (ls_k (ls_k (ls_k (ls_k (ls_k (ls_k (ls_k (ls_k ls_n)))))))))))))))))))))))))))))
  case e => simp only [m_20, x_20, X.m_fn, X.m_seq, X.m_bind, X.m_ite, X.m_ok, X.m_exc, X.m_lc, X.m_lc2, X.m_for, X.m_wh, X.m_try, X.m_hnd, X.m_sure]
def x_21 (ns : (List Int)) (v_spans : (List (List Int))) (v_every : (List (List Int))) (v_signs : (List Int)) (v_gap : Int) (v_most : Int) (v_number : Int) (v_threes : (List Int)) (v_many : Int) (v_step : Int) (v_figures : Int) (v_rest : Int) : X (Fl (Bool) Empty Bool) :=
  (X.bind (X.ok true) fun v8215 =>
  (X.ok (.next v8215)))
def m_21 (ns : (List Int)) (v_spans : (List (List Int))) (v_every : (List (List Int))) (v_signs : (List Int)) (v_gap : Int) (v_most : Int) (v_number : Int) (v_threes : (List Int)) (v_many : Int) (v_step : Int) (v_figures : Int) (v_rest : Int) : M (Fl (Bool) Empty Bool) := (x_21 ns v_spans v_every v_signs v_gap v_most v_number v_threes v_many v_step v_figures v_rest).m
theorem sl_21 {n0 : Nat} {base : Sto} (ns : (List Int)) (v_spans : (List (List Int))) (v_every : (List (List Int))) (v_signs : (List Int)) (v_gap : Int) (v_most : Int) (v_number : Int) (v_threes : (List Int)) (v_many : Int) (v_step : Int) (v_figures : Int) (v_rest : Int) : SimS ⟨n0, base, some 0, TI, false⟩ (fun s8214 : Bool => [(.d ((eL eI) ns)), .t, (.d ((eL (eT eI)) v_spans)), .u, (.d ((eL (eT eI)) v_every)), .u, (.d ((eT eI) v_signs)), (.d (eI v_gap)), (.d (eI v_most)), (.d (eI v_number)), (.d ((eL eI) v_threes)), (.d (eB s8214)), .u, .u, .u, .u, .u, (.d (eI v_many)), (.d (eI v_step)), (.d (eI v_figures)), (.d (eI v_rest)), .u, .u, .u, .u, .u]) (fun s : Empty => nomatch s) (rD eB) none [(.d ((eL eI) ns)), .t, (.d ((eL (eT eI)) v_spans)), .u, (.d ((eL (eT eI)) v_every)), .u, (.d ((eT eI) v_signs)), (.d (eI v_gap)), (.d (eI v_most)), (.d (eI v_number)), (.d ((eL eI) v_threes)), .u, .u, .u, .u, .u, .u, (.d (eI v_many)), (.d (eI v_step)), (.d (eI v_figures)), (.d (eI v_rest)), .u, .u, .u, .u, .u] l_21 (m_21 ns v_spans v_every v_signs v_gap v_most v_number v_threes v_many v_step v_figures v_rest) := by
  unfold l_21
  apply SimS.eq
  case h => exact (q_set (e := eB) 11 (q_const (e := eB) (a := true) rfl))
  case e => simp only [m_21, x_21, X.m_fn, X.m_seq, X.m_bind, X.m_ite, X.m_ok, X.m_exc, X.m_lc, X.m_lc2, X.m_for, X.m_wh, X.m_try, X.m_hnd, X.m_sure]
def x_22 (ns : (List Int)) (v_spans : (List (List Int))) (v_every : (List (List Int))) (v_signs : (List Int)) (v_gap : Int) (v_most : Int) (v_number : Int) (v_threes : (List Int)) (v_good : Bool) (v_many : Int) (v_step : Int) (v_figures : Int) (v_rest : Int) : X (Fl (Bool) Empty Bool) :=
  (X.bind (X.bind (X.bind (X.ok (1 : Int)) fun v8223 =>
  (X.bind (X.bind (X.bind (X.ok v_many) fun v8219 =>
  (X.bind (X.ok (1 : Int)) fun v8220 =>
  (X.of (some (v8219 + v8220))))) fun v8221 =>
  (X.bind (X.ok ()) fun v8222 =>
  (X.ok (v8221, v8222)))) fun v8224 =>
  (X.ok (v8223, v8224)))) fun v8225 =>
  (X.of (rg2 v8225.1 v8225.2.1))) fun v8266 =>
  (X.for (fun (s8217 : Bool) x8218 => (X.seq (X.bind (X.bind (X.bind (X.ok (1 : Int)) fun v8233 =>
  (X.bind (X.bind (X.bind (X.ok v_many) fun v8229 =>
  (X.bind (X.ok (1 : Int)) fun v8230 =>
  (X.of (some (v8229 + v8230))))) fun v8231 =>
  (X.bind (X.ok ()) fun v8232 =>
  (X.ok (v8231, v8232)))) fun v8234 =>
  (X.ok (v8233, v8234)))) fun v8235 =>
  (X.of (rg2 v8235.1 v8235.2.1))) fun v8265 =>
  (X.for (fun (s8227 : Bool) x8228 => (X.seq (X.bind (X.bind (X.bind (X.bind (X.ok x8218) fun v8255 =>
  (X.bind (X.ok x8228) fun v8256 =>
  (X.of (mulO v8255 v8256)))) fun v8257 =>
  (X.bind (X.ok v_many) fun v8258 =>
  (X.of (some (decide (v8257 ≤ v8258)))))) fun v8259 =>
  (if v8259 = true then (X.bind (X.bind (X.ok v_signs) fun v8241 =>
  (X.bind (X.bind (X.bind (X.ok x8218) fun v8237 =>
  (X.bind (X.ok x8228) fun v8238 =>
  (X.of (mulO v8237 v8238)))) fun v8239 =>
  (X.bind (X.ok (1 : Int)) fun v8240 =>
  (X.of (some (v8239 - v8240))))) fun v8242 =>
  (X.of (L2.atI v8241 v8242)))) fun v8253 =>
  (X.bind (X.bind (X.bind (X.ok v_signs) fun v8245 =>
  (X.bind (X.bind (X.ok x8218) fun v8243 =>
  (X.bind (X.ok (1 : Int)) fun v8244 =>
  (X.of (some (v8243 - v8244))))) fun v8246 =>
  (X.of (L2.atI v8245 v8246)))) fun v8251 =>
  (X.bind (X.bind (X.ok v_signs) fun v8249 =>
  (X.bind (X.bind (X.ok x8228) fun v8247 =>
  (X.bind (X.ok (1 : Int)) fun v8248 =>
  (X.of (some (v8247 - v8248))))) fun v8250 =>
  (X.of (L2.atI v8249 v8250)))) fun v8252 =>
  (X.of (mulO v8251 v8252)))) fun v8254 =>
  (X.of (some (!decide (v8253 = v8254)))))) else (X.ok false))) fun v8264 =>
  (if v8264 = true then (X.seq (X.bind (X.ok false) fun v8263 =>
  (X.ok (.next v8263))) fun s8262 => (X.ok (.next s8262))) else (X.ok (.next s8227)))) fun s8236 => (X.ok (.next s8236)))) v8265 s8217)) fun s8226 => (X.ok (.next s8226)))) v8266 v_good))
def m_22 (ns : (List Int)) (v_spans : (List (List Int))) (v_every : (List (List Int))) (v_signs : (List Int)) (v_gap : Int) (v_most : Int) (v_number : Int) (v_threes : (List Int)) (v_good : Bool) (v_many : Int) (v_step : Int) (v_figures : Int) (v_rest : Int) : M (Fl (Bool) Empty Bool) := (x_22 ns v_spans v_every v_signs v_gap v_most v_number v_threes v_good v_many v_step v_figures v_rest).m
theorem sl_22 {n0 : Nat} {base : Sto} (ns : (List Int)) (v_spans : (List (List Int))) (v_every : (List (List Int))) (v_signs : (List Int)) (v_gap : Int) (v_most : Int) (v_number : Int) (v_threes : (List Int)) (v_good : Bool) (v_many : Int) (v_step : Int) (v_figures : Int) (v_rest : Int) : SimS ⟨n0, base, some 0, TI, false⟩ (fun s8216 : Bool => [(.d ((eL eI) ns)), .t, (.d ((eL (eT eI)) v_spans)), .u, (.d ((eL (eT eI)) v_every)), .u, (.d ((eT eI) v_signs)), (.d (eI v_gap)), (.d (eI v_most)), (.d (eI v_number)), (.d ((eL eI) v_threes)), (.d (eB s8216)), .u, .u, .u, .u, .u, (.d (eI v_many)), (.d (eI v_step)), (.d (eI v_figures)), (.d (eI v_rest)), .u, .u, .u, .u, .u]) (fun s : Empty => nomatch s) (rD eB) none [(.d ((eL eI) ns)), .t, (.d ((eL (eT eI)) v_spans)), .u, (.d ((eL (eT eI)) v_every)), .u, (.d ((eT eI) v_signs)), (.d (eI v_gap)), (.d (eI v_most)), (.d (eI v_number)), (.d ((eL eI) v_threes)), (.d (eB v_good)), .u, .u, .u, .u, .u, (.d (eI v_many)), (.d (eI v_step)), (.d (eI v_figures)), (.d (eI v_rest)), .u, .u, .u, .u, .u] l_22 (m_22 ns v_spans v_every v_signs v_gap v_most v_number v_threes v_good v_many v_step v_figures v_rest) := by
  unfold l_22 l_22_b
  apply SimS.eq
  case h => exact (q_for (e := eI) (es := fun (s8217 : Bool) => [(.d ((eL eI) ns)), .t, (.d ((eL (eT eI)) v_spans)), .u, (.d ((eL (eT eI)) v_every)), .u, (.d ((eT eI) v_signs)), (.d (eI v_gap)), (.d (eI v_most)), (.d (eI v_number)), (.d ((eL eI) v_threes)), (.d (eB s8217)), .u, .u, .u, .u, .u, (.d (eI v_many)), (.d (eI v_step)), (.d (eI v_figures)), (.d (eI v_rest)), .u, .u, .u, .u, .u]) v_good (q_r2 (q_aF (e := eI) (SimD.toE (q_const (e := eI) (a := (1 : Int)) rfl)) (q_aF (e := eI) (SimD.toE (q_op o_addI (SimD.toE (q_var (e := eI) (a := v_many) 17 (by rfl))) (SimD.toE (q_const (e := eI) (a := (1 : Int)) rfl)))) q_aN)) rfl) (by exact (ls_k (ls_k (ls_k (ls_k (ls_k (ls_k (ls_k (ls_k (ls_k (ls_k (ls_k (ls_k (ls_k (ls_k (ls_k (ls_k (ls_k (ls_k (ls_k (ls_k (ls_k (ls_k (ls_k (ls_k (ls_k (ls_k ls_n))))))))))))))))))))))))))) (q_bn (e := eI) 3) (fun s8217 x8218 =>
  (q_end (k := fun (s8226 : Bool) => s8226) (q_for (e := eI) (es := fun (s8227 : Bool) => [(.d ((eL eI) ns)), .t, (.d ((eL (eT eI)) v_spans)), (.d (eI x8218)), (.d ((eL (eT eI)) v_every)), .u, (.d ((eT eI) v_signs)), (.d (eI v_gap)), (.d (eI v_most)), (.d (eI v_number)), (.d ((eL eI) v_threes)), (.d (eB s8227)), .u, .u, .u, .u, .u, (.d (eI v_many)), (.d (eI v_step)), (.d (eI v_figures)), (.d (eI v_rest)), .u, .u, .u, .u, .u]) s8217 (q_r2 (q_aF (e := eI) (SimD.toE (q_const (e := eI) (a := (1 : Int)) rfl)) (q_aF (e := eI) (SimD.toE (q_op o_addI (SimD.toE (q_var (e := eI) (a := v_many) 17 (by rfl))) (SimD.toE (q_const (e := eI) (a := (1 : Int)) rfl)))) q_aN)) rfl) (by exact (ls_k (ls_k (ls_k (ls_k (ls_k (ls_k (ls_k (ls_k (ls_k (ls_k (ls_k (ls_k (ls_k (ls_k (ls_k (ls_k (ls_k (ls_k (ls_k (ls_k (ls_k (ls_k (ls_k (ls_k (ls_k (ls_k ls_n))))))))))))))))))))))))))) (q_bn (e := eI) 21) (fun s8227 x8228 =>
  (q_end (k := fun (s8236 : Bool) => s8236) (q_sif (es := fun (s8236 : Bool) => [(.d ((eL eI) ns)), .t, (.d ((eL (eT eI)) v_spans)), (.d (eI x8218)), (.d ((eL (eT eI)) v_every)), .u, (.d ((eT eI) v_signs)), (.d (eI v_gap)), (.d (eI v_most)), (.d (eI v_number)), (.d ((eL eI) v_threes)), (.d (eB s8236)), .u, .u, .u, .u, .u, (.d (eI v_many)), (.d (eI v_step)), (.d (eI v_figures)), (.d (eI v_rest)), (.d (eI x8228)), .u, .u, .u, .u]) (q_tand (q_tr (SimD.toE (q_op o_leI (SimD.toE (q_op o_mulI (SimD.toE (q_var (e := eI) (a := x8218) 3 (by rfl))) (SimD.toE (q_var (e := eI) (a := x8228) 21 (by rfl))))) (SimD.toE (q_var (e := eI) (a := v_many) 17 (by rfl)))))) (q_tr (SimD.toE (q_op o_neI (SimD.toE (q_op (o_ixT (e := eI)) (SimD.toE (q_var (e := (eT eI)) (a := v_signs) 6 (by rfl))) (SimD.toE (q_op o_subI (SimD.toE (q_op o_mulI (SimD.toE (q_var (e := eI) (a := x8218) 3 (by rfl))) (SimD.toE (q_var (e := eI) (a := x8228) 21 (by rfl))))) (SimD.toE (q_const (e := eI) (a := (1 : Int)) rfl)))))) (SimD.toE (q_op o_mulI (SimD.toE (q_op (o_ixT (e := eI)) (SimD.toE (q_var (e := (eT eI)) (a := v_signs) 6 (by rfl))) (SimD.toE (q_op o_subI (SimD.toE (q_var (e := eI) (a := x8218) 3 (by rfl))) (SimD.toE (q_const (e := eI) (a := (1 : Int)) rfl)))))) (SimD.toE (q_op (o_ixT (e := eI)) (SimD.toE (q_var (e := (eT eI)) (a := v_signs) 6 (by rfl))) (SimD.toE (q_op o_subI (SimD.toE (q_var (e := eI) (a := x8228) 21 (by rfl))) (SimD.toE (q_const (e := eI) (a := (1 : Int)) rfl)))))))))))) (q_end (k := fun (s8262 : Bool) => s8262) (q_set (e := eB) 11 (q_const (e := eB) (a := false) rfl)) (fun s8262 => (by exact (ls_k (ls_k (ls_k (ls_k (ls_k (ls_k (ls_k (ls_k (ls_k (ls_k (ls_k (ls_k (ls_k (ls_k (ls_k (ls_k (ls_k (ls_k (ls_k (ls_k (ls_k (ls_k (ls_k (ls_k (ls_k (ls_k ls_n))))))))))))))))))))))))))))) (q_skip (s := s8227) (by exact (ls_k (ls_k (ls_k (ls_k (ls_k (ls_k (ls_k (ls_k (ls_k (ls_k (ls_k (ls_k (ls_k (ls_k (ls_k (ls_k (ls_k (ls_k (ls_k (ls_k (ls_k (ls_k (ls_k (ls_k (ls_k (ls_k ls_n))))))))))))))))))))))))))))) (fun s8236 => (by exact (ls_k (ls_k (ls_k (ls_k (ls_k (ls_k (ls_k (ls_k (ls_k (ls_k (ls_k (ls_k (ls_k (ls_k (ls_k (ls_k (ls_k (ls_k (ls_k (ls_k (ls_k (ls_u (ls_k (ls_k (ls_k (ls_k ls_n))))))))))))))))))))))))))))))) (fun s8226 => (by exact (ls_k (ls_k (ls_k (ls_u (ls_k (ls_k (ls_k (ls_k (ls_k (ls_k (ls_k (ls_k (ls_k (ls_k (ls_k (ls_k (ls_k (ls_k (ls_k (ls_k (ls_k (ls_k (ls_k (ls_k (ls_k (ls_k ls_n)))))))))))))))))))))))))))))))
  case e => simp only [m_22, x_22, X.m_fn, X.m_seq, X.m_bind, X.m_ite, X.m_ok, X.m_exc, X.m_lc, X.m_lc2, X.m_for, X.m_wh, X.m_try, X.m_hnd, X.m_sure]
def x_23 (ns : (List Int)) (v_spans : (List (List Int))) (v_every : (List (List Int))) (v_signs : (List Int)) (v_gap : Int) (v_most : Int) (v_number : Int) (v_threes : (List Int)) (v_good : Bool) (v_many : Int) (v_step : Int) (v_figures : Int) (v_rest : Int) : X (Fl (Unit) Empty Bool) :=
  (X.bind (X.bind (X.bind (X.bind (X.ok v_signs) fun v8268 =>
  (X.bind (X.ok ()) fun v8269 =>
  (X.ok (v8268, v8269)))) fun a8270 =>
  (t_is_product_signs a8270.1)) fun v8271 =>
  (X.bind (X.ok v_good) fun v8272 =>
  (X.of (neD (eB v8271) (eB v8272))))) fun v8274 =>
  (if v8274 = true then (X.bind (X.ok false) fun v8273 =>
  (X.ok (.ret v8273))) else (X.ok (.next ()))))
def m_23 (ns : (List Int)) (v_spans : (List (List Int))) (v_every : (List (List Int))) (v_signs : (List Int)) (v_gap : Int) (v_most : Int) (v_number : Int) (v_threes : (List Int)) (v_good : Bool) (v_many : Int) (v_step : Int) (v_figures : Int) (v_rest : Int) : M (Fl (Unit) Empty Bool) := (x_23 ns v_spans v_every v_signs v_gap v_most v_number v_threes v_good v_many v_step v_figures v_rest).m
theorem sl_23 {n0 : Nat} {base : Sto} (ns : (List Int)) (v_spans : (List (List Int))) (v_every : (List (List Int))) (v_signs : (List Int)) (v_gap : Int) (v_most : Int) (v_number : Int) (v_threes : (List Int)) (v_good : Bool) (v_many : Int) (v_step : Int) (v_figures : Int) (v_rest : Int) : SimS ⟨n0, base, some 0, TI, false⟩ (fun s8267 : Unit => [(.d ((eL eI) ns)), .t, (.d ((eL (eT eI)) v_spans)), .u, (.d ((eL (eT eI)) v_every)), .u, (.d ((eT eI) v_signs)), (.d (eI v_gap)), (.d (eI v_most)), (.d (eI v_number)), (.d ((eL eI) v_threes)), (.d (eB v_good)), .u, .u, .u, .u, .u, (.d (eI v_many)), (.d (eI v_step)), (.d (eI v_figures)), (.d (eI v_rest)), .u, .u, .u, .u, .u]) (fun s : Empty => nomatch s) (rD eB) none [(.d ((eL eI) ns)), .t, (.d ((eL (eT eI)) v_spans)), .u, (.d ((eL (eT eI)) v_every)), .u, (.d ((eT eI) v_signs)), (.d (eI v_gap)), (.d (eI v_most)), (.d (eI v_number)), (.d ((eL eI) v_threes)), (.d (eB v_good)), .u, .u, .u, .u, .u, (.d (eI v_many)), (.d (eI v_step)), (.d (eI v_figures)), (.d (eI v_rest)), .u, .u, .u, .u, .u] l_23 (m_23 ns v_spans v_every v_signs v_gap v_most v_number v_threes v_good v_many v_step v_figures v_rest) := by
  unfold l_23 l_23_t
  apply SimS.eq
  case h => exact (q_sif (es := fun (s8267 : Unit) => [(.d ((eL eI) ns)), .t, (.d ((eL (eT eI)) v_spans)), .u, (.d ((eL (eT eI)) v_every)), .u, (.d ((eT eI) v_signs)), (.d (eI v_gap)), (.d (eI v_most)), (.d (eI v_number)), (.d ((eL eI) v_threes)), (.d (eB v_good)), .u, .u, .u, .u, .u, (.d (eI v_many)), (.d (eI v_step)), (.d (eI v_figures)), (.d (eI v_rest)), .u, .u, .u, .u, .u]) (q_tr (SimD.toE (q_op (o_ne (e := eB) (e1 := eB)) (SimD.toE (q_call ok_t_is_product_signs (q_aF (e := (eT eI)) (SimD.toE (q_var (e := (eT eI)) (a := v_signs) 6 (by rfl))) q_aN) rfl)) (SimD.toE (q_var (e := eB) (a := v_good) 11 (by rfl)))))) (q_ret (e := eB) (q_const (e := eB) (a := false) rfl)) (q_skip (s := ()) (by exact (ls_k (ls_k (ls_k (ls_k (ls_k (ls_k (ls_k (ls_k (ls_k (ls_k (ls_k (ls_k (ls_k (ls_k (ls_k (ls_k (ls_k (ls_k (ls_k (ls_k (ls_k (ls_k (ls_k (ls_k (ls_k (ls_k ls_n)))))))))))))))))))))))))))))
  case e => simp only [m_23, x_23, X.m_fn, X.m_seq, X.m_bind, X.m_ite, X.m_ok, X.m_exc, X.m_lc, X.m_lc2, X.m_for, X.m_wh, X.m_try, X.m_hnd, X.m_sure]
def m_24 (ns : (List Int)) (v_spans : (List (List Int))) (v_every : (List (List Int))) (v_signs : (List Int)) (v_gap : Int) (v_most : Int) (v_number : Int) (v_threes : (List Int)) (v_good : Bool) (v_many : Int) (v_step : Int) (v_figures : Int) (v_rest : Int) : M (Fl (Int) Empty Bool) :=
  (M.bind (M.bind (M.bind (M.pure ns) fun v8278 =>
  (M.bind (M.bind (M.pure (7 : Int)) fun v8276 =>
  (M.bind (M.pure ()) fun v8277 =>
  (M.pure (v8276, v8277)))) fun v8279 =>
  (M.pure (v8278, v8279)))) fun a8280 =>
  (w__law_draw a8280.1 a8280.2.1)) fun v8281 =>
  (M.pure (.next v8281)))
theorem sl_24 {n0 : Nat} {base : Sto} (ns : (List Int)) (v_spans : (List (List Int))) (v_every : (List (List Int))) (v_signs : (List Int)) (v_gap : Int) (v_most : Int) (v_number : Int) (v_threes : (List Int)) (v_good : Bool) (v_many : Int) (v_step : Int) (v_figures : Int) (v_rest : Int) : SimS ⟨n0, base, some 0, TI, false⟩ (fun s8275 : Int => [(.d ((eL eI) ns)), .t, (.d ((eL (eT eI)) v_spans)), .u, (.d ((eL (eT eI)) v_every)), .u, (.d ((eT eI) v_signs)), (.d (eI v_gap)), (.d (eI v_most)), (.d (eI v_number)), (.d ((eL eI) v_threes)), (.d (eB v_good)), (.d (eI s8275)), .u, .u, .u, .u, (.d (eI v_many)), (.d (eI v_step)), (.d (eI v_figures)), (.d (eI v_rest)), .u, .u, .u, .u, .u]) (fun s : Empty => nomatch s) (rD eB) none [(.d ((eL eI) ns)), .t, (.d ((eL (eT eI)) v_spans)), .u, (.d ((eL (eT eI)) v_every)), .u, (.d ((eT eI) v_signs)), (.d (eI v_gap)), (.d (eI v_most)), (.d (eI v_number)), (.d ((eL eI) v_threes)), (.d (eB v_good)), .u, .u, .u, .u, .u, (.d (eI v_many)), (.d (eI v_step)), (.d (eI v_figures)), (.d (eI v_rest)), .u, .u, .u, .u, .u] l_24 (m_24 ns v_spans v_every v_signs v_gap v_most v_number v_threes v_good v_many v_step v_figures v_rest) := by
  unfold l_24 m_24
  exact (q_set (e := eI) 12 (q_callM (c := ⟨n0, base, some 0, TI, false⟩) ok_w__law_draw (q_aT 1 (by rfl) (q_aF (e := (eL eI)) (SimD.toE (q_var (e := (eL eI)) (a := ns) 0 (by rfl))) (q_aF (e := eI) (SimD.toE (q_const (e := eI) (a := (7 : Int)) rfl)) q_aN))) rfl))
def x_25 (ns : (List Int)) (v_spans : (List (List Int))) (v_every : (List (List Int))) (v_signs : (List Int)) (v_gap : Int) (v_most : Int) (v_number : Int) (v_threes : (List Int)) (v_good : Bool) (v_size : Int) (v_many : Int) (v_step : Int) (v_figures : Int) (v_rest : Int) : X (Fl ((List (List Int))) Empty Bool) :=
  (X.bind (X.bind (X.ok ()) fun v8283 =>
  (X.ok ([] : List (List Int)))) fun v8284 =>
  (X.ok (.next v8284)))
def m_25 (ns : (List Int)) (v_spans : (List (List Int))) (v_every : (List (List Int))) (v_signs : (List Int)) (v_gap : Int) (v_most : Int) (v_number : Int) (v_threes : (List Int)) (v_good : Bool) (v_size : Int) (v_many : Int) (v_step : Int) (v_figures : Int) (v_rest : Int) : M (Fl ((List (List Int))) Empty Bool) := (x_25 ns v_spans v_every v_signs v_gap v_most v_number v_threes v_good v_size v_many v_step v_figures v_rest).m
theorem sl_25 {n0 : Nat} {base : Sto} (ns : (List Int)) (v_spans : (List (List Int))) (v_every : (List (List Int))) (v_signs : (List Int)) (v_gap : Int) (v_most : Int) (v_number : Int) (v_threes : (List Int)) (v_good : Bool) (v_size : Int) (v_many : Int) (v_step : Int) (v_figures : Int) (v_rest : Int) : SimS ⟨n0, base, some 0, TI, false⟩ (fun s8282 : (List (List Int)) => [(.d ((eL eI) ns)), .t, (.d ((eL (eT eI)) v_spans)), .u, (.d ((eL (eT eI)) v_every)), .u, (.d ((eT eI) v_signs)), (.d (eI v_gap)), (.d (eI v_most)), (.d (eI v_number)), (.d ((eL eI) v_threes)), (.d (eB v_good)), (.d (eI v_size)), (.d ((eL (eT eI)) s8282)), .u, .u, .u, (.d (eI v_many)), (.d (eI v_step)), (.d (eI v_figures)), (.d (eI v_rest)), .u, .u, .u, .u, .u]) (fun s : Empty => nomatch s) (rD eB) none [(.d ((eL eI) ns)), .t, (.d ((eL (eT eI)) v_spans)), .u, (.d ((eL (eT eI)) v_every)), .u, (.d ((eT eI) v_signs)), (.d (eI v_gap)), (.d (eI v_most)), (.d (eI v_number)), (.d ((eL eI) v_threes)), (.d (eB v_good)), (.d (eI v_size)), .u, .u, .u, .u, (.d (eI v_many)), (.d (eI v_step)), (.d (eI v_figures)), (.d (eI v_rest)), .u, .u, .u, .u, .u] l_25 (m_25 ns v_spans v_every v_signs v_gap v_most v_number v_threes v_good v_size v_many v_step v_figures v_rest) := by
  unfold l_25
  apply SimS.eq
  case h => exact (q_set (e := (eL (eT eI))) 13 (q_lst (e := (eL (eT eI))) (g' := fun (_ : Unit) => []) q_aN rfl (fun _ => rfl) (fun _ => rfl)))
  case e => simp only [m_25, x_25, X.m_fn, X.m_seq, X.m_bind, X.m_ite, X.m_ok, X.m_exc, X.m_lc, X.m_lc2, X.m_for, X.m_wh, X.m_try, X.m_hnd, X.m_sure]
def x_26 (ns : (List Int)) (v_spans : (List (List Int))) (v_every : (List (List Int))) (v_signs : (List Int)) (v_gap : Int) (v_most : Int) (v_number : Int) (v_threes : (List Int)) (v_good : Bool) (v_size : Int) (v_parts : (List (List Int))) (v_many : Int) (v_step : Int) (v_figures : Int) (v_rest : Int) : X (Fl ((List (List Int))) Empty Bool) :=
  (X.bind (X.bind (X.bind (X.ok (1 : Int)) fun v8295 =>
  (X.bind (X.bind (X.bind (X.bind (X.ok v_size) fun v8290 =>
  (X.bind (X.bind (X.ok (1 : Int)) fun v8288 =>
  (X.bind (X.ok ()) fun v8289 =>
  (X.ok (v8288, v8289)))) fun v8291 =>
  (X.ok (v8290, v8291)))) fun v8292 =>
  (X.of (some (if v8292.2.1 > v8292.1 then v8292.2.1 else v8292.1)))) fun v8293 =>
  (X.bind (X.ok ()) fun v8294 =>
  (X.ok (v8293, v8294)))) fun v8296 =>
  (X.ok (v8295, v8296)))) fun v8297 =>
  (X.of (rg2 v8297.1 v8297.2.1))) fun v8307 =>
  (X.for (fun (s8286 : (List (List Int))) x8287 => (X.seq (X.bind (X.bind (X.ok s8286) fun v8304 =>
  (X.bind (X.bind (X.bind (X.ok v_size) fun v8301 =>
  (X.bind (X.bind (X.ok x8287) fun v8299 =>
  (X.bind (X.ok ()) fun v8300 =>
  (X.ok (v8299, v8300)))) fun v8302 =>
  (X.ok (v8301, v8302)))) fun a8303 =>
  (t__law_steps a8303.1 a8303.2.1)) fun v8305 =>
  (X.of (catO v8304 v8305)))) fun v8306 =>
  (X.ok (.next v8306))) fun s8298 => (X.ok (.next s8298)))) v8307 v_parts))
def m_26 (ns : (List Int)) (v_spans : (List (List Int))) (v_every : (List (List Int))) (v_signs : (List Int)) (v_gap : Int) (v_most : Int) (v_number : Int) (v_threes : (List Int)) (v_good : Bool) (v_size : Int) (v_parts : (List (List Int))) (v_many : Int) (v_step : Int) (v_figures : Int) (v_rest : Int) : M (Fl ((List (List Int))) Empty Bool) := (x_26 ns v_spans v_every v_signs v_gap v_most v_number v_threes v_good v_size v_parts v_many v_step v_figures v_rest).m
theorem sl_26 {n0 : Nat} {base : Sto} (ns : (List Int)) (v_spans : (List (List Int))) (v_every : (List (List Int))) (v_signs : (List Int)) (v_gap : Int) (v_most : Int) (v_number : Int) (v_threes : (List Int)) (v_good : Bool) (v_size : Int) (v_parts : (List (List Int))) (v_many : Int) (v_step : Int) (v_figures : Int) (v_rest : Int) : SimS ⟨n0, base, some 0, TI, false⟩ (fun s8285 : (List (List Int)) => [(.d ((eL eI) ns)), .t, (.d ((eL (eT eI)) v_spans)), .u, (.d ((eL (eT eI)) v_every)), .u, (.d ((eT eI) v_signs)), (.d (eI v_gap)), (.d (eI v_most)), (.d (eI v_number)), (.d ((eL eI) v_threes)), (.d (eB v_good)), (.d (eI v_size)), (.d ((eL (eT eI)) s8285)), .u, .u, .u, (.d (eI v_many)), (.d (eI v_step)), (.d (eI v_figures)), (.d (eI v_rest)), .u, .u, .u, .u, .u]) (fun s : Empty => nomatch s) (rD eB) none [(.d ((eL eI) ns)), .t, (.d ((eL (eT eI)) v_spans)), .u, (.d ((eL (eT eI)) v_every)), .u, (.d ((eT eI) v_signs)), (.d (eI v_gap)), (.d (eI v_most)), (.d (eI v_number)), (.d ((eL eI) v_threes)), (.d (eB v_good)), (.d (eI v_size)), (.d ((eL (eT eI)) v_parts)), .u, .u, .u, (.d (eI v_many)), (.d (eI v_step)), (.d (eI v_figures)), (.d (eI v_rest)), .u, .u, .u, .u, .u] l_26 (m_26 ns v_spans v_every v_signs v_gap v_most v_number v_threes v_good v_size v_parts v_many v_step v_figures v_rest) := by
  unfold l_26 l_26_b
  apply SimS.eq
  case h => exact (q_for (e := eI) (es := fun (s8286 : (List (List Int))) => [(.d ((eL eI) ns)), .t, (.d ((eL (eT eI)) v_spans)), .u, (.d ((eL (eT eI)) v_every)), .u, (.d ((eT eI) v_signs)), (.d (eI v_gap)), (.d (eI v_most)), (.d (eI v_number)), (.d ((eL eI) v_threes)), (.d (eB v_good)), (.d (eI v_size)), (.d ((eL (eT eI)) s8286)), .u, .u, .u, (.d (eI v_many)), (.d (eI v_step)), (.d (eI v_figures)), (.d (eI v_rest)), .u, .u, .u, .u, .u]) v_parts (q_r2 (q_aF (e := eI) (SimD.toE (q_const (e := eI) (a := (1 : Int)) rfl)) (q_aF (e := eI) (SimD.toE (q_b b_max2 (q_aF (e := eI) (SimD.toE (q_var (e := eI) (a := v_size) 12 (by rfl))) (q_aF (e := eI) (SimD.toE (q_const (e := eI) (a := (1 : Int)) rfl)) q_aN)) rfl)) q_aN)) rfl) (by exact (ls_k (ls_k (ls_k (ls_k (ls_k (ls_k (ls_k (ls_k (ls_k (ls_k (ls_k (ls_k (ls_k (ls_k (ls_k (ls_k (ls_k (ls_k (ls_k (ls_k (ls_k (ls_k (ls_k (ls_k (ls_k (ls_k ls_n))))))))))))))))))))))))))) (q_bn (e := eI) 5) (fun s8286 x8287 =>
  (q_end (k := fun (s8298 : (List (List Int))) => s8298) (q_set (e := (eL (eT eI))) 13 (q_op (o_addL (e := (eT eI))) (SimD.toE (q_var (e := (eL (eT eI))) (a := s8286) 13 (by rfl))) (SimD.toE (q_call ok_t__law_steps (q_aF (e := eI) (SimD.toE (q_var (e := eI) (a := v_size) 12 (by rfl))) (q_aF (e := eI) (SimD.toE (q_var (e := eI) (a := x8287) 5 (by rfl))) q_aN)) rfl)))) (fun s8298 => (by exact (ls_k (ls_k (ls_k (ls_k (ls_k (ls_u (ls_k (ls_k (ls_k (ls_k (ls_k (ls_k (ls_k (ls_k (ls_k (ls_k (ls_k (ls_k (ls_k (ls_k (ls_k (ls_k (ls_k (ls_k (ls_k (ls_k ls_n)))))))))))))))))))))))))))))))
  case e => simp only [m_26, x_26, X.m_fn, X.m_seq, X.m_bind, X.m_ite, X.m_ok, X.m_exc, X.m_lc, X.m_lc2, X.m_for, X.m_wh, X.m_try, X.m_hnd, X.m_sure]
def x_27 (ns : (List Int)) (v_spans : (List (List Int))) (v_every : (List (List Int))) (v_signs : (List Int)) (v_gap : Int) (v_most : Int) (v_number : Int) (v_threes : (List Int)) (v_good : Bool) (v_size : Int) (v_parts : (List (List Int))) (v_many : Int) (v_step : Int) (v_figures : Int) (v_rest : Int) : X (Fl ((List (List Int))) Empty Bool) :=
  (X.bind (X.bind (X.bind (X.ok v_size) fun v8318 =>
  (X.bind (X.bind (X.bind (X.bind (X.ok (1 : Int)) fun v8313 =>
  (X.bind (X.bind (X.bind (X.ok (0 : Int)) fun v8309 =>
  (X.bind (X.ok (1 : Int)) fun v8310 =>
  (X.of (some (v8309 - v8310))))) fun v8311 =>
  (X.bind (X.ok ()) fun v8312 =>
  (X.ok (v8311, v8312)))) fun v8314 =>
  (X.ok (v8313, v8314)))) fun v8315 =>
  (X.ok [v8315.1, v8315.2.1])) fun v8316 =>
  (X.bind (X.ok ()) fun v8317 =>
  (X.ok (v8316, v8317)))) fun v8319 =>
  (X.ok (v8318, v8319)))) fun a8320 =>
  (t__law_rows a8320.1 a8320.2.1)) fun v8321 =>
  (X.ok (.next v8321)))
def m_27 (ns : (List Int)) (v_spans : (List (List Int))) (v_every : (List (List Int))) (v_signs : (List Int)) (v_gap : Int) (v_most : Int) (v_number : Int) (v_threes : (List Int)) (v_good : Bool) (v_size : Int) (v_parts : (List (List Int))) (v_many : Int) (v_step : Int) (v_figures : Int) (v_rest : Int) : M (Fl ((List (List Int))) Empty Bool) := (x_27 ns v_spans v_every v_signs v_gap v_most v_number v_threes v_good v_size v_parts v_many v_step v_figures v_rest).m
theorem sl_27 {n0 : Nat} {base : Sto} (ns : (List Int)) (v_spans : (List (List Int))) (v_every : (List (List Int))) (v_signs : (List Int)) (v_gap : Int) (v_most : Int) (v_number : Int) (v_threes : (List Int)) (v_good : Bool) (v_size : Int) (v_parts : (List (List Int))) (v_many : Int) (v_step : Int) (v_figures : Int) (v_rest : Int) : SimS ⟨n0, base, some 0, TI, false⟩ (fun s8308 : (List (List Int)) => [(.d ((eL eI) ns)), .t, (.d ((eL (eT eI)) v_spans)), .u, (.d ((eL (eT eI)) v_every)), .u, (.d ((eT eI) v_signs)), (.d (eI v_gap)), (.d (eI v_most)), (.d (eI v_number)), (.d ((eL eI) v_threes)), (.d (eB v_good)), (.d (eI v_size)), (.d ((eL (eT eI)) v_parts)), (.d ((eL (eT eI)) s8308)), .u, .u, (.d (eI v_many)), (.d (eI v_step)), (.d (eI v_figures)), (.d (eI v_rest)), .u, .u, .u, .u, .u]) (fun s : Empty => nomatch s) (rD eB) none [(.d ((eL eI) ns)), .t, (.d ((eL (eT eI)) v_spans)), .u, (.d ((eL (eT eI)) v_every)), .u, (.d ((eT eI) v_signs)), (.d (eI v_gap)), (.d (eI v_most)), (.d (eI v_number)), (.d ((eL eI) v_threes)), (.d (eB v_good)), (.d (eI v_size)), (.d ((eL (eT eI)) v_parts)), .u, .u, .u, (.d (eI v_many)), (.d (eI v_step)), (.d (eI v_figures)), (.d (eI v_rest)), .u, .u, .u, .u, .u] l_27 (m_27 ns v_spans v_every v_signs v_gap v_most v_number v_threes v_good v_size v_parts v_many v_step v_figures v_rest) := by
  unfold l_27
  apply SimS.eq
  case h => exact (q_set (e := (eL (eT eI))) 14 (q_call ok_t__law_rows (q_aF (e := eI) (SimD.toE (q_var (e := eI) (a := v_size) 12 (by rfl))) (q_aF (e := (eL eI)) (SimD.toE (q_lst (e := (eL eI)) (g' := fun (b : Int × Int × Unit) => [b.1, b.2.1]) (q_aS (e := eI) (q_const (e := eI) (a := (1 : Int)) rfl) (q_aS (e := eI) (q_op o_subI (SimD.toE (q_const (e := eI) (a := (0 : Int)) rfl)) (SimD.toE (q_const (e := eI) (a := (1 : Int)) rfl))) q_aN)) rfl (fun _ => rfl) (fun _ => rfl))) q_aN)) rfl))
  case e => simp only [m_27, x_27, X.m_fn, X.m_seq, X.m_bind, X.m_ite, X.m_ok, X.m_exc, X.m_lc, X.m_lc2, X.m_for, X.m_wh, X.m_try, X.m_hnd, X.m_sure]
def x_28 (ns : (List Int)) (v_spans : (List (List Int))) (v_every : (List (List Int))) (v_signs : (List Int)) (v_gap : Int) (v_most : Int) (v_number : Int) (v_threes : (List Int)) (v_good : Bool) (v_size : Int) (v_parts : (List (List Int))) (v_rows : (List (List Int))) (v_many : Int) (v_step : Int) (v_figures : Int) (v_rest : Int) : X (Fl ((List Int)) Empty Bool) :=
  (X.bind (X.bind (X.ok v_rows) fun v8324 =>
  (X.bind (X.lc (fun x8323 => (X.ok true)) (fun x8323 => (X.bind (X.bind (X.ok v_parts) fun v8328 =>
  (X.bind (X.bind (X.ok x8323) fun v8326 =>
  (X.bind (X.ok ()) fun v8327 =>
  (X.ok (v8326, v8327)))) fun v8329 =>
  (X.ok (v8328, v8329)))) fun a8330 =>
  (t__law_gap a8330.1 a8330.2.1))) v8324) fun v8325 =>
  (X.of (limO v8325)))) fun v8331 =>
  (X.ok (.next v8331)))
def m_28 (ns : (List Int)) (v_spans : (List (List Int))) (v_every : (List (List Int))) (v_signs : (List Int)) (v_gap : Int) (v_most : Int) (v_number : Int) (v_threes : (List Int)) (v_good : Bool) (v_size : Int) (v_parts : (List (List Int))) (v_rows : (List (List Int))) (v_many : Int) (v_step : Int) (v_figures : Int) (v_rest : Int) : M (Fl ((List Int)) Empty Bool) := (x_28 ns v_spans v_every v_signs v_gap v_most v_number v_threes v_good v_size v_parts v_rows v_many v_step v_figures v_rest).m
theorem sl_28 {n0 : Nat} {base : Sto} (ns : (List Int)) (v_spans : (List (List Int))) (v_every : (List (List Int))) (v_signs : (List Int)) (v_gap : Int) (v_most : Int) (v_number : Int) (v_threes : (List Int)) (v_good : Bool) (v_size : Int) (v_parts : (List (List Int))) (v_rows : (List (List Int))) (v_many : Int) (v_step : Int) (v_figures : Int) (v_rest : Int) : SimS ⟨n0, base, some 0, TI, false⟩ (fun s8322 : (List Int) => [(.d ((eL eI) ns)), .t, (.d ((eL (eT eI)) v_spans)), .u, (.d ((eL (eT eI)) v_every)), .u, (.d ((eT eI) v_signs)), (.d (eI v_gap)), (.d (eI v_most)), (.d (eI v_number)), (.d ((eL eI) v_threes)), (.d (eB v_good)), (.d (eI v_size)), (.d ((eL (eT eI)) v_parts)), (.d ((eL (eT eI)) v_rows)), (.d ((eL eI) s8322)), .u, (.d (eI v_many)), (.d (eI v_step)), (.d (eI v_figures)), (.d (eI v_rest)), .u, .u, .u, .u, .u]) (fun s : Empty => nomatch s) (rD eB) none [(.d ((eL eI) ns)), .t, (.d ((eL (eT eI)) v_spans)), .u, (.d ((eL (eT eI)) v_every)), .u, (.d ((eT eI) v_signs)), (.d (eI v_gap)), (.d (eI v_most)), (.d (eI v_number)), (.d ((eL eI) v_threes)), (.d (eB v_good)), (.d (eI v_size)), (.d ((eL (eT eI)) v_parts)), (.d ((eL (eT eI)) v_rows)), .u, .u, (.d (eI v_many)), (.d (eI v_step)), (.d (eI v_figures)), (.d (eI v_rest)), .u, .u, .u, .u, .u] l_28 (m_28 ns v_spans v_every v_signs v_gap v_most v_number v_threes v_good v_size v_parts v_rows v_many v_step v_figures v_rest) := by
  unfold l_28
  apply SimS.eq
  case h => exact (q_set (e := (eL eI)) 15 (q_lc (e := (eT eI)) (e1 := eI) (vs := [22]) (SimI.j (q_ivL (e := (eT eI)) (q_var (e := (eL (eT eI))) (a := v_rows) 14 (by rfl)))) (q_bn (e := (eT eI)) 22) (fun x8323 => q_yes) (fun x8323 => (q_call ok_t__law_gap (q_aF (e := (eL (eT eI))) (SimD.toE (q_var (e := (eL (eT eI))) (a := v_parts) 13 (by rfl))) (q_aF (e := (eT eI)) (SimD.toE (q_var (e := (eT eI)) (a := x8323) 22 (by rfl))) q_aN)) rfl))))
  case e => simp only [m_28, x_28, X.m_fn, X.m_seq, X.m_bind, X.m_ite, X.m_ok, X.m_exc, X.m_lc, X.m_lc2, X.m_for, X.m_wh, X.m_try, X.m_hnd, X.m_sure]
def x_29 (ns : (List Int)) (v_spans : (List (List Int))) (v_every : (List (List Int))) (v_signs : (List Int)) (v_gap : Int) (v_most : Int) (v_number : Int) (v_threes : (List Int)) (v_good : Bool) (v_size : Int) (v_parts : (List (List Int))) (v_rows : (List (List Int))) (v_gaps : (List Int)) (v_many : Int) (v_step : Int) (v_figures : Int) (v_rest : Int) : X (Fl (Unit) Empty Bool) :=
  (X.bind (X.bind (X.bind (X.bind (X.ok v_size) fun v8335 =>
  (X.bind (X.bind (X.ok (100000 : Int)) fun v8333 =>
  (X.bind (X.ok ()) fun v8334 =>
  (X.ok (v8333, v8334)))) fun v8336 =>
  (X.ok (v8335, v8336)))) fun a8337 =>
  (t_least_step_gap a8337.1 a8337.2.1)) fun v8356 =>
  (X.bind (X.bind (X.bind (X.bind (X.bind (X.ok v_gaps) fun v8338 =>
  (X.bind (X.ok ()) fun v8339 =>
  (X.ok (v8338, v8339)))) fun v8340 =>
  (X.of (minL v8340.1))) fun v8353 =>
  (X.bind (X.bind (X.bind (X.bind (X.ok v_rows) fun v8348 =>
  (X.bind (X.bind (X.ok v_gaps) fun v8346 =>
  (X.bind (X.bind (X.bind (X.bind (X.ok v_gaps) fun v8341 =>
  (X.bind (X.ok ()) fun v8342 =>
  (X.ok (v8341, v8342)))) fun v8343 =>
  (X.of (minL v8343.1))) fun v8344 =>
  (X.bind (X.ok ()) fun v8345 =>
  (X.ok (v8344, v8345)))) fun v8347 =>
  (X.of (unI (mIndex (.list (v8346.map eI)) ((aC eI aN) v8347)))))) fun v8349 =>
  (X.of (L2.atI v8348 v8349)))) fun v8350 =>
  (X.ok ((eT eI) v8350))) fun v8351 =>
  (X.bind (X.ok ()) fun v8352 =>
  (X.ok (v8351, v8352)))) fun v8354 =>
  (X.ok (v8353, v8354)))) fun v8355 =>
  (X.ok (v8355.1, v8355.2.1))) fun v8357 =>
  (X.of (neD ((eP2 eI eD) v8356) ((eP2 eI eD) v8357))))) fun v8359 =>
  (if v8359 = true then (X.bind (X.ok false) fun v8358 =>
  (X.ok (.ret v8358))) else (X.ok (.next ()))))
def m_29 (ns : (List Int)) (v_spans : (List (List Int))) (v_every : (List (List Int))) (v_signs : (List Int)) (v_gap : Int) (v_most : Int) (v_number : Int) (v_threes : (List Int)) (v_good : Bool) (v_size : Int) (v_parts : (List (List Int))) (v_rows : (List (List Int))) (v_gaps : (List Int)) (v_many : Int) (v_step : Int) (v_figures : Int) (v_rest : Int) : M (Fl (Unit) Empty Bool) := (x_29 ns v_spans v_every v_signs v_gap v_most v_number v_threes v_good v_size v_parts v_rows v_gaps v_many v_step v_figures v_rest).m
theorem sl_29 {n0 : Nat} {base : Sto} (ns : (List Int)) (v_spans : (List (List Int))) (v_every : (List (List Int))) (v_signs : (List Int)) (v_gap : Int) (v_most : Int) (v_number : Int) (v_threes : (List Int)) (v_good : Bool) (v_size : Int) (v_parts : (List (List Int))) (v_rows : (List (List Int))) (v_gaps : (List Int)) (v_many : Int) (v_step : Int) (v_figures : Int) (v_rest : Int) : SimS ⟨n0, base, some 0, TI, false⟩ (fun s8332 : Unit => [(.d ((eL eI) ns)), .t, (.d ((eL (eT eI)) v_spans)), .u, (.d ((eL (eT eI)) v_every)), .u, (.d ((eT eI) v_signs)), (.d (eI v_gap)), (.d (eI v_most)), (.d (eI v_number)), (.d ((eL eI) v_threes)), (.d (eB v_good)), (.d (eI v_size)), (.d ((eL (eT eI)) v_parts)), (.d ((eL (eT eI)) v_rows)), (.d ((eL eI) v_gaps)), .u, (.d (eI v_many)), (.d (eI v_step)), (.d (eI v_figures)), (.d (eI v_rest)), .u, .u, .u, .u, .u]) (fun s : Empty => nomatch s) (rD eB) none [(.d ((eL eI) ns)), .t, (.d ((eL (eT eI)) v_spans)), .u, (.d ((eL (eT eI)) v_every)), .u, (.d ((eT eI) v_signs)), (.d (eI v_gap)), (.d (eI v_most)), (.d (eI v_number)), (.d ((eL eI) v_threes)), (.d (eB v_good)), (.d (eI v_size)), (.d ((eL (eT eI)) v_parts)), (.d ((eL (eT eI)) v_rows)), (.d ((eL eI) v_gaps)), .u, (.d (eI v_many)), (.d (eI v_step)), (.d (eI v_figures)), (.d (eI v_rest)), .u, .u, .u, .u, .u] l_29 (m_29 ns v_spans v_every v_signs v_gap v_most v_number v_threes v_good v_size v_parts v_rows v_gaps v_many v_step v_figures v_rest) := by
  unfold l_29 l_29_t
  apply SimS.eq
  case h => exact (q_sif (es := fun (s8332 : Unit) => [(.d ((eL eI) ns)), .t, (.d ((eL (eT eI)) v_spans)), .u, (.d ((eL (eT eI)) v_every)), .u, (.d ((eT eI) v_signs)), (.d (eI v_gap)), (.d (eI v_most)), (.d (eI v_number)), (.d ((eL eI) v_threes)), (.d (eB v_good)), (.d (eI v_size)), (.d ((eL (eT eI)) v_parts)), (.d ((eL (eT eI)) v_rows)), (.d ((eL eI) v_gaps)), .u, (.d (eI v_many)), (.d (eI v_step)), (.d (eI v_figures)), (.d (eI v_rest)), .u, .u, .u, .u, .u]) (q_tr (SimD.toE (q_op (o_ne (e := (eP2 eI eD)) (e1 := (eP2 eI eD))) (SimD.toE (q_call ok_t_least_step_gap (q_aF (e := eI) (SimD.toE (q_var (e := eI) (a := v_size) 12 (by rfl))) (q_aS (e := eI) (q_const (e := eI) (a := (100000 : Int)) rfl) q_aN)) rfl)) (SimD.toE (q_tup (e := (eP2 eI eD)) (g' := fun (b : Int × D × Unit) => (b.1, b.2.1)) (q_aS (e := eI) (q_b b_minL (q_aF (e := (eL eI)) (SimD.toE (q_var (e := (eL eI)) (a := v_gaps) 15 (by rfl))) q_aN) rfl) (q_aS (e := eD) (q_castD (e1 := eD) (g' := (eT eI)) (q_op (o_ixL (e := (eT eI))) (SimD.toE (q_var (e := (eL (eT eI))) (a := v_rows) 14 (by rfl))) (SimD.toE (q_meth (e := eI) (op := mIndex) (SimD.toE (q_var (e := (eL eI)) (a := v_gaps) 15 (by rfl))) (q_aF (e := eI) (SimD.toE (q_b b_minL (q_aF (e := (eL eI)) (SimD.toE (q_var (e := (eL eI)) (a := v_gaps) 15 (by rfl))) q_aN) rfl)) q_aN) rfl))) (fun _ => rfl)) q_aN)) rfl (fun _ => rfl) (fun _ => rfl)))))) (q_ret (e := eB) (q_const (e := eB) (a := false) rfl)) (q_skip (s := ()) (by exact (ls_k (ls_k (ls_k (ls_k (ls_k (ls_k (ls_k (ls_k (ls_k (ls_k (ls_k (ls_k (ls_k (ls_k (ls_k (ls_k (ls_k (ls_k (ls_k (ls_k (ls_k (ls_k (ls_k (ls_k (ls_k (ls_k ls_n)))))))))))))))))))))))))))))
  case e => simp only [m_29, x_29, X.m_fn, X.m_seq, X.m_bind, X.m_ite, X.m_ok, X.m_exc, X.m_lc, X.m_lc2, X.m_for, X.m_wh, X.m_try, X.m_hnd, X.m_sure]
def x_30 (ns : (List Int)) (v_spans : (List (List Int))) (v_every : (List (List Int))) (v_signs : (List Int)) (v_gap : Int) (v_most : Int) (v_number : Int) (v_threes : (List Int)) (v_good : Bool) (v_size : Int) (v_parts : (List (List Int))) (v_rows : (List (List Int))) (v_gaps : (List Int)) (v_many : Int) (v_step : Int) (v_figures : Int) (v_rest : Int) : X (Fl (Unit) Empty Bool) :=
  (X.bind (X.bind (X.bind (X.bind (X.ok ()) fun v8368 =>
  (X.ok (eU v8368))) fun v8378 =>
  (X.bind (X.bind (X.bind (X.bind (X.ok (0 : Int)) fun v8363 =>
  (X.bind (X.ok (1 : Int)) fun v8364 =>
  (X.of (some (v8363 - v8364))))) fun v8369 =>
  (X.ok (eI v8369))) fun v8376 =>
  (X.bind (X.bind (X.bind (X.ok true) fun v8370 =>
  (X.ok (eB v8370))) fun v8374 =>
  (X.bind (X.bind (X.bind (X.bind (X.bind (X.ok (1 : Int)) fun v8365 =>
  (X.bind (X.ok ()) fun v8366 =>
  (X.ok (v8365, v8366)))) fun v8367 =>
  (X.ok [v8367.1])) fun v8371 =>
  (X.ok ((eT eI) v8371))) fun v8372 =>
  (X.bind (X.ok ()) fun v8373 =>
  (X.ok (v8372, v8373)))) fun v8375 =>
  (X.ok (v8374, v8375)))) fun v8377 =>
  (X.ok (v8376, v8377)))) fun v8379 =>
  (X.ok (v8378, v8379)))) fun v8380 =>
  (X.ok [v8380.1, v8380.2.1, v8380.2.2.1, v8380.2.2.2.1])) fun v8403 =>
  (X.for (fun (s8361 : Unit) x8362 => (X.seq (X.bind (X.bind (X.bind (X.bind (X.bind (X.ok (9 : Int)) fun v8382 =>
  (X.bind (X.ok ()) fun v8383 =>
  (X.ok (v8382, v8383)))) fun v8384 =>
  (X.of (rg1 v8384.1))) fun v8386 =>
  (X.bind (X.lc (fun x8385 => (X.ok true)) (fun x8385 => (X.bind (X.bind (X.ok x8385) fun v8390 =>
  (X.bind (X.bind (X.ok x8362) fun v8388 =>
  (X.bind (X.ok ()) fun v8389 =>
  (X.ok (v8388, v8389)))) fun v8391 =>
  (X.ok (v8390, v8391)))) fun a8392 =>
  (t__law_refused a8392.1 a8392.2.1))) v8386) fun v8387 =>
  (X.of (limO v8387)))) fun v8399 =>
  (X.bind (X.bind (X.bind (X.bind (X.bind (X.ok ()) fun v8393 =>
  (X.ok (eU v8393))) fun v8394 =>
  (X.bind (X.ok ()) fun v8395 =>
  (X.ok (v8394, v8395)))) fun v8396 =>
  (X.ok [v8396.1])) fun v8397 =>
  (X.bind (X.ok (9 : Int)) fun v8398 =>
  (X.of (repO v8397 v8398)))) fun v8400 =>
  (X.of (neD ((eL eD) v8399) ((eL eD) v8400))))) fun v8402 =>
  (if v8402 = true then (X.bind (X.ok false) fun v8401 =>
  (X.ok (.ret v8401))) else (X.ok (.next ())))) fun s8381 => (X.ok (.next ())))) v8403 ()))
def m_30 (ns : (List Int)) (v_spans : (List (List Int))) (v_every : (List (List Int))) (v_signs : (List Int)) (v_gap : Int) (v_most : Int) (v_number : Int) (v_threes : (List Int)) (v_good : Bool) (v_size : Int) (v_parts : (List (List Int))) (v_rows : (List (List Int))) (v_gaps : (List Int)) (v_many : Int) (v_step : Int) (v_figures : Int) (v_rest : Int) : M (Fl (Unit) Empty Bool) := (x_30 ns v_spans v_every v_signs v_gap v_most v_number v_threes v_good v_size v_parts v_rows v_gaps v_many v_step v_figures v_rest).m
theorem sl_30 {n0 : Nat} {base : Sto} (ns : (List Int)) (v_spans : (List (List Int))) (v_every : (List (List Int))) (v_signs : (List Int)) (v_gap : Int) (v_most : Int) (v_number : Int) (v_threes : (List Int)) (v_good : Bool) (v_size : Int) (v_parts : (List (List Int))) (v_rows : (List (List Int))) (v_gaps : (List Int)) (v_many : Int) (v_step : Int) (v_figures : Int) (v_rest : Int) : SimS ⟨n0, base, some 0, TI, false⟩ (fun s8360 : Unit => [(.d ((eL eI) ns)), .t, (.d ((eL (eT eI)) v_spans)), .u, (.d ((eL (eT eI)) v_every)), .u, (.d ((eT eI) v_signs)), (.d (eI v_gap)), (.d (eI v_most)), (.d (eI v_number)), (.d ((eL eI) v_threes)), (.d (eB v_good)), (.d (eI v_size)), (.d ((eL (eT eI)) v_parts)), (.d ((eL (eT eI)) v_rows)), (.d ((eL eI) v_gaps)), .u, (.d (eI v_many)), (.d (eI v_step)), (.d (eI v_figures)), (.d (eI v_rest)), .u, .u, .u, .u, .u]) (fun s : Empty => nomatch s) (rD eB) none [(.d ((eL eI) ns)), .t, (.d ((eL (eT eI)) v_spans)), .u, (.d ((eL (eT eI)) v_every)), .u, (.d ((eT eI) v_signs)), (.d (eI v_gap)), (.d (eI v_most)), (.d (eI v_number)), (.d ((eL eI) v_threes)), (.d (eB v_good)), (.d (eI v_size)), (.d ((eL (eT eI)) v_parts)), (.d ((eL (eT eI)) v_rows)), (.d ((eL eI) v_gaps)), .u, (.d (eI v_many)), (.d (eI v_step)), (.d (eI v_figures)), (.d (eI v_rest)), .u, .u, .u, .u, .u] l_30 (m_30 ns v_spans v_every v_signs v_gap v_most v_number v_threes v_good v_size v_parts v_rows v_gaps v_many v_step v_figures v_rest) := by
  unfold l_30 l_30_b
  apply SimS.eq
  case h => exact (q_for (e := eD) (es := fun (s8361 : Unit) => [(.d ((eL eI) ns)), .t, (.d ((eL (eT eI)) v_spans)), .u, (.d ((eL (eT eI)) v_every)), .u, (.d ((eT eI) v_signs)), (.d (eI v_gap)), (.d (eI v_most)), (.d (eI v_number)), (.d ((eL eI) v_threes)), (.d (eB v_good)), (.d (eI v_size)), (.d ((eL (eT eI)) v_parts)), (.d ((eL (eT eI)) v_rows)), (.d ((eL eI) v_gaps)), .u, (.d (eI v_many)), (.d (eI v_step)), (.d (eI v_figures)), (.d (eI v_rest)), .u, .u, .u, .u, .u]) () (q_ivL (e := eD) (q_lst (e := (eL eD)) (g' := fun (b : D × D × D × D × Unit) => [b.1, b.2.1, b.2.2.1, b.2.2.2.1]) (q_aS (e := eD) (q_castD (e1 := eD) (g' := eU) (q_const (e := eU) (a := ()) rfl) (fun _ => rfl)) (q_aS (e := eD) (q_castD (e1 := eD) (g' := eI) (q_op o_subI (SimD.toE (q_const (e := eI) (a := (0 : Int)) rfl)) (SimD.toE (q_const (e := eI) (a := (1 : Int)) rfl))) (fun _ => rfl)) (q_aS (e := eD) (q_castD (e1 := eD) (g' := eB) (q_const (e := eB) (a := true) rfl) (fun _ => rfl)) (q_aS (e := eD) (q_castD (e1 := eD) (g' := (eT eI)) (q_tup (e := (eT eI)) (g' := fun (b : Int × Unit) => [b.1]) (q_aS (e := eI) (q_const (e := eI) (a := (1 : Int)) rfl) q_aN) rfl (fun _ => rfl) (fun _ => rfl)) (fun _ => rfl)) q_aN)))) rfl (fun _ => rfl) (fun _ => rfl))) (by exact (ls_k (ls_k (ls_k (ls_k (ls_k (ls_k (ls_k (ls_k (ls_k (ls_k (ls_k (ls_k (ls_k (ls_k (ls_k (ls_k (ls_k (ls_k (ls_k (ls_k (ls_k (ls_k (ls_k (ls_k (ls_k (ls_k ls_n))))))))))))))))))))))))))) (q_bn (e := eD) 16) (fun s8361 x8362 =>
  (q_end (k := fun (s8381 : Unit) => ()) (q_sif (es := fun (s8381 : Unit) => [(.d ((eL eI) ns)), .t, (.d ((eL (eT eI)) v_spans)), .u, (.d ((eL (eT eI)) v_every)), .u, (.d ((eT eI) v_signs)), (.d (eI v_gap)), (.d (eI v_most)), (.d (eI v_number)), (.d ((eL eI) v_threes)), (.d (eB v_good)), (.d (eI v_size)), (.d ((eL (eT eI)) v_parts)), (.d ((eL (eT eI)) v_rows)), (.d ((eL eI) v_gaps)), (.d (eD x8362)), (.d (eI v_many)), (.d (eI v_step)), (.d (eI v_figures)), (.d (eI v_rest)), .u, .u, .u, .u, .u]) (q_tr (SimD.toE (q_op (o_ne (e := (eL eD)) (e1 := (eL eD))) (SimD.toE (q_lc (e := eI) (e1 := eD) (vs := [24]) (SimI.j (q_r1 (q_aF (e := eI) (SimD.toE (q_const (e := eI) (a := (9 : Int)) rfl)) q_aN) rfl)) (q_bn (e := eI) 24) (fun x8385 => q_yes) (fun x8385 => (q_call ok_t__law_refused (q_aF (e := eI) (SimD.toE (q_var (e := eI) (a := x8385) 24 (by rfl))) (q_aS (e := eD) (q_var (e := eD) (a := x8362) 16 (by rfl)) q_aN)) rfl)))) (SimD.toE (q_op (o_mulL (e := eD)) (SimD.toE (q_lst (e := (eL eD)) (g' := fun (b : D × Unit) => [b.1]) (q_aS (e := eD) (q_castD (e1 := eD) (g' := eU) (q_const (e := eU) (a := ()) rfl) (fun _ => rfl)) q_aN) rfl (fun _ => rfl) (fun _ => rfl))) (SimD.toE (q_const (e := eI) (a := (9 : Int)) rfl))))))) (q_ret (e := eB) (q_const (e := eB) (a := false) rfl)) (q_skip (s := ()) (by exact (ls_k (ls_k (ls_k (ls_k (ls_k (ls_k (ls_k (ls_k (ls_k (ls_k (ls_k (ls_k (ls_k (ls_k (ls_k (ls_k (ls_k (ls_k (ls_k (ls_k (ls_k (ls_k (ls_k (ls_k (ls_k (ls_k ls_n))))))))))))))))))))))))))))) (fun s8381 => (by exact (ls_k (ls_k (ls_k (ls_k (ls_k (ls_k (ls_k (ls_k (ls_k (ls_k (ls_k (ls_k (ls_k (ls_k (ls_k (ls_k (ls_u (ls_k (ls_k (ls_k (ls_k (ls_k (ls_k (ls_k (ls_k (ls_k ls_n)))))))))))))))))))))))))))))))
  case e => simp only [m_30, x_30, X.m_fn, X.m_seq, X.m_bind, X.m_ite, X.m_ok, X.m_exc, X.m_lc, X.m_lc2, X.m_for, X.m_wh, X.m_try, X.m_hnd, X.m_sure]
def m_31 (ns : (List Int)) (v_spans : (List (List Int))) (v_every : (List (List Int))) (v_signs : (List Int)) (v_gap : Int) (v_most : Int) (v_number : Int) (v_threes : (List Int)) (v_good : Bool) (v_size : Int) (v_parts : (List (List Int))) (v_rows : (List (List Int))) (v_gaps : (List Int)) (v_many : Int) (v_step : Int) (v_figures : Int) (v_rest : Int) : M (Fl Unit Empty Bool) :=
  (M.bind (M.bind (M.bind (M.bind (M.pure (8 : Int)) fun v8407 =>
  (M.bind (M.bind (M.bind (M.pure (0 : Int)) fun v8404 =>
  (M.pure (eI v8404))) fun v8405 =>
  (M.bind (M.pure ()) fun v8406 =>
  (M.pure (v8405, v8406)))) fun v8408 =>
  (M.pure (v8407, v8408)))) fun a8409 =>
  (t__law_refused a8409.1 a8409.2.1).m) fun v8410 =>
  (M.bind (M.pure ()) fun v8411 =>
  (X.of (isD (eD v8410) (eU v8411))).m)) fun v8412 =>
  (M.pure (.ret v8412)))
theorem sl_31 {n0 : Nat} {base : Sto} (ns : (List Int)) (v_spans : (List (List Int))) (v_every : (List (List Int))) (v_signs : (List Int)) (v_gap : Int) (v_most : Int) (v_number : Int) (v_threes : (List Int)) (v_good : Bool) (v_size : Int) (v_parts : (List (List Int))) (v_rows : (List (List Int))) (v_gaps : (List Int)) (v_many : Int) (v_step : Int) (v_figures : Int) (v_rest : Int) : SimS ⟨n0, base, some 0, TI, false⟩ (fun _ : Unit => [.u, .u, .u, .u, .u, .u, .u, .u, .u, .u, .u, .u, .u, .u, .u, .u, .u, .u, .u, .u, .u, .u, .u, .u, .u, .u]) (fun s : Empty => nomatch s) (rD eB) none [(.d ((eL eI) ns)), .t, (.d ((eL (eT eI)) v_spans)), .u, (.d ((eL (eT eI)) v_every)), .u, (.d ((eT eI) v_signs)), (.d (eI v_gap)), (.d (eI v_most)), (.d (eI v_number)), (.d ((eL eI) v_threes)), (.d (eB v_good)), (.d (eI v_size)), (.d ((eL (eT eI)) v_parts)), (.d ((eL (eT eI)) v_rows)), (.d ((eL eI) v_gaps)), .u, (.d (eI v_many)), (.d (eI v_step)), (.d (eI v_figures)), (.d (eI v_rest)), .u, .u, .u, .u, .u] l_31 (m_31 ns v_spans v_every v_signs v_gap v_most v_number v_threes v_good v_size v_parts v_rows v_gaps v_many v_step v_figures v_rest) := by
  unfold l_31 m_31
  exact (q_ret (e := eB) (q_op (o_is (e := eD) (e1 := eU)) (SimD.toE (q_call ok_t__law_refused (q_aF (e := eI) (SimD.toE (q_const (e := eI) (a := (8 : Int)) rfl)) (q_aS (e := eD) (q_castD (e1 := eD) (g' := eI) (q_const (e := eI) (a := (0 : Int)) rfl) (fun _ => rfl)) q_aN)) rfl)) (SimD.toE (q_const (e := eU) (a := ()) rfl))))
def m_law (ns : List Int) : M (Fl Unit Empty Bool) :=
  (M.seq (m_2 ns) fun s2 =>
  (M.seq (m_3 ns s2.1 s2.2) fun s3 =>
  (M.seq (m_4 ns s3 s2.1 s2.2) fun s4 =>
  (M.seq (m_5 ns s4 s2.1 s2.2) fun s5 =>
  (M.seq (m_6 ns s4 s5 s2.1 s2.2) fun s6 =>
  (M.seq (m_7 ns s4 s6 s2.1 s2.2) fun s7 =>
  (M.seq (m_8 ns s4 s6 s2.1 s2.2) fun s8 =>
  (M.seq (m_9 ns s4 s6 s8 s2.1 s2.2) fun s9 =>
  (M.seq (m_10 ns s4 s6 s8 s9 s2.1 s2.2) fun s10 =>
  (M.seq (m_11 ns s4 s6 s8 s9 s2.1 s2.2) fun s11 =>
  (M.seq (m_12 ns s4 s6 s8 s9 s2.1 s2.2) fun s12 =>
  (M.seq (m_13 ns s4 s6 s8 s9 s12 s2.1 s2.2) fun s13 =>
  (M.seq (m_14 ns s4 s6 s8 s9 s12 s2.1 s2.2) fun s14 =>
  (M.seq (m_15 ns s4 s6 s8 s9 s12 s2.1 s2.2) fun s15 =>
  (M.seq (m_16 ns s4 s6 s8 s9 s12 s15 s2.1 s2.2) fun s16 =>
  (M.seq (m_17 ns s4 s6 s8 s9 s12 s15 s16 s2.1 s2.2) fun s17 =>
  (M.seq (m_18 ns s4 s6 s8 s9 s12 s15 s16 s2.1 s2.2 s17.1 s17.2.1) fun s18 =>
  (M.seq (m_19 ns s4 s6 s8 s9 s12 s15 s16 s2.1 s2.2 s18.1 s18.2) fun s19 =>
  (M.seq (m_20 ns s4 s6 s8 s9 s12 s15 s16 s2.1 s2.2 s18.1 s18.2) fun s20 =>
  (M.seq (m_21 ns s4 s6 s8 s9 s12 s15 s16 s2.1 s2.2 s18.1 s18.2) fun s21 =>
  (M.seq (m_22 ns s4 s6 s8 s9 s12 s15 s16 s21 s2.1 s2.2 s18.1 s18.2) fun s22 =>
  (M.seq (m_23 ns s4 s6 s8 s9 s12 s15 s16 s22 s2.1 s2.2 s18.1 s18.2) fun s23 =>
  (M.seq (m_24 ns s4 s6 s8 s9 s12 s15 s16 s22 s2.1 s2.2 s18.1 s18.2) fun s24 =>
  (M.seq (m_25 ns s4 s6 s8 s9 s12 s15 s16 s22 s24 s2.1 s2.2 s18.1 s18.2) fun s25 =>
  (M.seq (m_26 ns s4 s6 s8 s9 s12 s15 s16 s22 s24 s25 s2.1 s2.2 s18.1 s18.2) fun s26 =>
  (M.seq (m_27 ns s4 s6 s8 s9 s12 s15 s16 s22 s24 s26 s2.1 s2.2 s18.1 s18.2) fun s27 =>
  (M.seq (m_28 ns s4 s6 s8 s9 s12 s15 s16 s22 s24 s26 s27 s2.1 s2.2 s18.1 s18.2) fun s28 =>
  (M.seq (m_29 ns s4 s6 s8 s9 s12 s15 s16 s22 s24 s26 s27 s28 s2.1 s2.2 s18.1 s18.2) fun s29 =>
  (M.seq (m_30 ns s4 s6 s8 s9 s12 s15 s16 s22 s24 s26 s27 s28 s2.1 s2.2 s18.1 s18.2) fun s30 =>
  m_31 ns s4 s6 s8 s9 s12 s15 s16 s22 s24 s26 s27 s28 s2.1 s2.2 s18.1 s18.2)))))))))))))))))))))))))))))
theorem sim_law (ns : List Int) {n0 : Nat} {base : Sto} : SimS ⟨n0, base, some 0, TI, false⟩ (fun _ : Unit => [.u, .u, .u, .u, .u, .u, .u, .u, .u, .u, .u, .u, .u, .u, .u, .u, .u, .u, .u, .u, .u, .u, .u, .u, .u, .u]) (fun s : Empty => nomatch s) (rD eB) none [(.d ((eL eI) ns)), .t, .u, .u, .u, .u, .u, .u, .u, .u, .u, .u, .u, .u, .u, .u, .u, .u, .u, .u, .u, .u, .u, .u, .u, .u] (sSeq l_2 (sSeq l_3 (sSeq l_4 (sSeq l_5 (sSeq l_6 (sSeq l_7 (sSeq l_8 (sSeq l_9 (sSeq l_10 (sSeq l_11 (sSeq l_12 (sSeq l_13 (sSeq l_14 (sSeq l_15 (sSeq l_16 (sSeq l_17 (sSeq l_18 (sSeq l_19 (sSeq l_20 (sSeq l_21 (sSeq l_22 (sSeq l_23 (sSeq l_24 (sSeq l_25 (sSeq l_26 (sSeq l_27 (sSeq l_28 (sSeq l_29 (sSeq l_30 l_31))))))))))))))))))))))))))))) (m_law ns) := by
  unfold m_law
  exact (q_seq (sl_2 ns) fun s2 =>
  (q_seq (sl_3 ns s2.1 s2.2) fun s3 =>
  (q_seq (sl_4 ns s3 s2.1 s2.2) fun s4 =>
  (q_seq (sl_5 ns s4 s2.1 s2.2) fun s5 =>
  (q_seq (sl_6 ns s4 s5 s2.1 s2.2) fun s6 =>
  (q_seq (sl_7 ns s4 s6 s2.1 s2.2) fun s7 =>
  (q_seq (sl_8 ns s4 s6 s2.1 s2.2) fun s8 =>
  (q_seq (sl_9 ns s4 s6 s8 s2.1 s2.2) fun s9 =>
  (q_seq (sl_10 ns s4 s6 s8 s9 s2.1 s2.2) fun s10 =>
  (q_seq (sl_11 ns s4 s6 s8 s9 s2.1 s2.2) fun s11 =>
  (q_seq (sl_12 ns s4 s6 s8 s9 s2.1 s2.2) fun s12 =>
  (q_seq (sl_13 ns s4 s6 s8 s9 s12 s2.1 s2.2) fun s13 =>
  (q_seq (sl_14 ns s4 s6 s8 s9 s12 s2.1 s2.2) fun s14 =>
  (q_seq (sl_15 ns s4 s6 s8 s9 s12 s2.1 s2.2) fun s15 =>
  (q_seq (sl_16 ns s4 s6 s8 s9 s12 s15 s2.1 s2.2) fun s16 =>
  (q_seq (sl_17 ns s4 s6 s8 s9 s12 s15 s16 s2.1 s2.2) fun s17 =>
  (q_seq (sl_18 ns s4 s6 s8 s9 s12 s15 s16 s2.1 s2.2 s17.1 s17.2.1) fun s18 =>
  (q_seq (sl_19 ns s4 s6 s8 s9 s12 s15 s16 s2.1 s2.2 s18.1 s18.2) fun s19 =>
  (q_seq (sl_20 ns s4 s6 s8 s9 s12 s15 s16 s2.1 s2.2 s18.1 s18.2) fun s20 =>
  (q_seq (sl_21 ns s4 s6 s8 s9 s12 s15 s16 s2.1 s2.2 s18.1 s18.2) fun s21 =>
  (q_seq (sl_22 ns s4 s6 s8 s9 s12 s15 s16 s21 s2.1 s2.2 s18.1 s18.2) fun s22 =>
  (q_seq (sl_23 ns s4 s6 s8 s9 s12 s15 s16 s22 s2.1 s2.2 s18.1 s18.2) fun s23 =>
  (q_seq (sl_24 ns s4 s6 s8 s9 s12 s15 s16 s22 s2.1 s2.2 s18.1 s18.2) fun s24 =>
  (q_seq (sl_25 ns s4 s6 s8 s9 s12 s15 s16 s22 s24 s2.1 s2.2 s18.1 s18.2) fun s25 =>
  (q_seq (sl_26 ns s4 s6 s8 s9 s12 s15 s16 s22 s24 s25 s2.1 s2.2 s18.1 s18.2) fun s26 =>
  (q_seq (sl_27 ns s4 s6 s8 s9 s12 s15 s16 s22 s24 s26 s2.1 s2.2 s18.1 s18.2) fun s27 =>
  (q_seq (sl_28 ns s4 s6 s8 s9 s12 s15 s16 s22 s24 s26 s27 s2.1 s2.2 s18.1 s18.2) fun s28 =>
  (q_seq (sl_29 ns s4 s6 s8 s9 s12 s15 s16 s22 s24 s26 s27 s28 s2.1 s2.2 s18.1 s18.2) fun s29 =>
  (q_seq (sl_30 ns s4 s6 s8 s9 s12 s15 s16 s22 s24 s26 s27 s28 s2.1 s2.2 s18.1 s18.2) fun s30 =>
  sl_31 ns s4 s6 s8 s9 s12 s15 s16 s22 s24 s26 s27 s28 s2.1 s2.2 s18.1 s18.2)))))))))))))))))))))))))))))
end K35


set_option Elab.async false
set_option linter.all false
set_option maxRecDepth 100000
set_option maxHeartbeats 8000000
namespace K35
open PySem PySem.Spec FW
/-- the sum of the signs of a part -/
def pS (signs part : List Int) : Int := (part.map (ix0 signs)).sum
def inP (signs part : List Int) : Prop := part.length ≤ 100000 ∧ ∀ i ∈ part, 0 ≤ i ∧ i < signs.length
theorem lcS {signs part : List Int} (h : inP signs part) : X.lc (fun _ => X.ok true) (fun x => X.of (L2.atI signs x)) part = .ok (part.map (ix0 signs)) :=
  X.lc_map fun x hx => by rw [atI_ix0 (h.2 x hx).1 (h.2 x hx).2]; rfl
theorem set_sum_ok {signs part : List Int} (h : inP signs part) : t_set_sum part signs = .ok (pS signs part) := by
  unfold t_set_sum
  simp only [X.bok]
  rw [lcS h, X.bok, limO_ok (by simpa using h.1)]
  rfl
/-- the parts' sums -/
def gS (signs : List Int) (parts : List (List Int)) : List Int := parts.map fun p => absT (pS signs p)
theorem gS_nn {signs : List Int} {parts : List (List Int)} : ∀ x ∈ gS signs parts, 0 ≤ x := by
  intro x hx
  obtain ⟨p, _, rfl⟩ := List.mem_map.mp hx
  exact absT_nn _
theorem mgap_ok {signs : List Int} {parts : List (List Int)} (hm : t_multiple_sets (eI signs.length) = .ok parts) (hp : ∀ p ∈ parts, inP signs p) (hl : parts.length ≤ 100000) : t_multiple_gap signs = .ok ((maxL (gS signs parts)).getD 0) := by
  unfold t_multiple_gap
  simp only [X.bok, X.osm, hm]
  rw [X.lc_map (g' := fun p => absT (pS signs p)) (fun p h => by simp only [X.bok, set_sum_ok (hp p h)]), X.bok, limO_ok (by simpa using hl)]
  rfl
theorem lgap_ok {signs : List Int} {parts : List (List Int)} (hp : ∀ p ∈ parts, inP signs p) (hl : parts.length ≤ 99999) : t__law_gap parts signs = .ok ((maxL (gS signs parts)).getD 0) := by
  unfold t__law_gap
  simp only [X.bok, X.osm]
  rw [X.lc_map (g' := fun p => absT (pS signs p)) (fun p h => by rw [lcS (hp p h), X.bok, limO_ok (by simpa using (hp p h).1)]; rfl), X.bok, limO_ok (by simp; omega)]
  simp only [X.osm, X.bok]
  rw [catO_ok (by simp; omega)]
  simp only [X.osm, X.bok]
  show X.fn none (X.bind (X.of (maxL (gS signs parts ++ [0]))) _) = _
  rw [maxL_snoc gS_nn]
  rfl
/-- a step's multiples -/
def r3 (many s : Int) : List Int := (rg3 s (many + 1) s).getD []
/-- what is known of the parts, for a given many -/
structure Pk (many : Int) (parts : List (List Int)) : Prop where
  a : t_multiple_sets (eI many) = .ok parts
  b : t__law_multiples many = .ok parts
  l : parts.length ≤ 99999
  i : ∀ p ∈ parts, p.length ≤ 100000 ∧ ∀ i ∈ p, 0 ≤ i ∧ i < many
  s : ∀ s ∈ rngT 1 many.toNat, ∃ l, rg3 s (many + 1) s = some l ∧ l.length ≤ 100000 ∧ ∀ i ∈ l, 1 ≤ i ∧ i ≤ many
  la : ∀ p ∈ parts, ∃ v, L2.atI p (-1) = some v
  e : parts.filter (fun p => decide (L2.atI p (-1) = some (many - 1))) = ((rngT 1 many.toNat).filter fun s => decide (many % s = 0)).map fun s => (r3 many s).map (· - 1)
def chkM (many : Int) : Bool := match t_multiple_sets (eI many), t__law_multiples many with
  | .ok p, .ok q => decide (p = q) && (decide (p.length ≤ 99999) && ((p.all fun r => decide (r.length ≤ 100000) && r.all fun i => decide (0 ≤ i) && decide (i < many)) && (((rngT 1 many.toNat).all fun s => match rg3 s (many + 1) s with
    | some l => decide (l.length ≤ 100000) && l.all fun i => decide (1 ≤ i) && decide (i ≤ many)
    | none => false) && ((p.all fun r => (L2.atI r (-1)).isSome) && decide (p.filter (fun r => decide (L2.atI r (-1) = some (many - 1))) = ((rngT 1 many.toNat).filter fun s => decide (many % s = 0)).map fun s => (r3 many s).map (· - 1))))))
  | _, _ => false
theorem Pk.of {many : Int} (h : chkM many = true) : ∃ parts, Pk many parts := by
  unfold chkM at h
  split at h
  · rename_i p q hp hq
    simp only [Bool.and_eq_true, decide_eq_true_eq, List.all_eq_true] at h
    obtain ⟨h1, h2, h3, h4, h5, h6⟩ := h
    subst h1
    refine ⟨p, hp, hq, h2, h3, fun s hs => ?_, fun r hr => Option.isSome_iff_exists.mp (h5 r hr), h6⟩
    have := h4 s hs
    split at this
    · rename_i l hl
      simp only [Bool.and_eq_true, decide_eq_true_eq, List.all_eq_true] at this
      exact ⟨l, hl, this.1, this.2⟩
    · cases this
  · cases h
theorem allM : ((List.range 11).all fun m => chkM (m : Int)) = true := by kernel_rfl
theorem pk (many : Int) (h0 : 0 ≤ many) (h1 : many < 11) : ∃ parts, Pk many parts := by
  have := List.all_eq_true.mp allM many.toNat (by simp; omega)
  rw [Int.toNat_of_nonneg h0] at this
  exact Pk.of this
end K35


set_option Elab.async false
set_option linter.all false
set_option maxRecDepth 100000
set_option maxHeartbeats 8000000
namespace K35
open PySem PySem.Spec FW
theorem Pk.inP {many : Int} {parts : List (List Int)} {signs : List Int} (h : Pk many parts) (hl : (signs.length : Int) = many) : ∀ p ∈ parts, inP signs p := fun p hp => ⟨(h.i p hp).1, fun i hi => by rw [hl]; exact (h.i p hp).2 i hi⟩
theorem x10_ok {many gap step : Int} {ns signs : List Int} {spans every : List (List Int)} (hm : 0 ≤ many ∧ many < 11) (hl : (signs.length : Int) = many) : x_10 ns spans every signs gap many step = .ok (.next ()) := by
  obtain ⟨parts, h⟩ := pk many hm.1 hm.2
  have := h.l
  have h1 := mgap_ok (signs := signs) (parts := parts) (by rw [hl]; exact h.a) (h.inP hl) (by omega)
  have h2 := lgap_ok (signs := signs) (parts := parts) (h.inP hl) h.l
  unfold x_10
  simp only [X.bok, X.osm, h1, h2, h.b]
  simp
theorem fits_ok {many gap : Int} {signs : List Int} {parts : List (List Int)} (hm : 0 ≤ many ∧ many < 11) (hl : (signs.length : Int) = many) (h : Pk many parts) : t_last_fits signs gap = .ok (!((rngT 1 many.toNat).any fun s => decide (many % s = 0) && decide (gap < absT (pS signs ((r3 many s).map (· - 1)))))) := by
  unfold t_last_fits
  simp only [X.bok, X.osm, X.seq_next, hl]
  rw [rg2_ok (by omega) (by omega) (by omega) (by omega), X.osm, X.bok]
  rw [show (many + 1 - 1).toNat = many.toNat by omega]
  rw [X.for_any (p := fun s => decide (many % s = 0) && decide (gap < absT (pS signs ((r3 many s).map (· - 1))))) (r := false)]
  · split <;> rename_i hq <;> simp_all
  · intro s hs
    have hs' := rngT_mem.mp hs
    obtain ⟨l, e, hl1, hl2⟩ := h.s s hs
    rw [modO_pos (by omega)]
    simp only [X.bok, X.osm]
    by_cases h0 : many % s = 0
    · simp only [h0, decide_true, if_true, Bool.true_and]
      rw [e]
      simp only [X.bok, X.osm]
      rw [X.lc_map (g' := fun i => ix0 signs (i - 1)) (fun i hi => by rw [atI_ix0 (by have := hl2 i hi; omega) (by have := hl2 i hi; omega)]; rfl)]
      simp only [X.bok, X.osm]
      rw [limO_ok (by simpa using hl1)]
      simp only [X.bok, X.osm]
      have : absT (List.map (fun i => ix0 signs (i - 1)) l).sum = absT (pS signs ((r3 many s).map (· - 1))) := by
        unfold pS r3
        rw [e, List.map_map]
        rfl
      rw [this]
      by_cases h2 : gap < absT (pS signs ((r3 many s).map (· - 1))) <;> simp [h2]
    · simp [h0]
theorem x11_ok {many gap step : Int} {ns signs : List Int} {spans every : List (List Int)} (hm : 0 ≤ many ∧ many < 11) (hg : 0 ≤ gap) (hl : (signs.length : Int) = many) : x_11 ns spans every signs gap many step = .ok (.next ()) := by
  obtain ⟨parts, h⟩ := pk many hm.1 hm.2
  unfold x_11
  simp only [X.bok, X.osm]
  by_cases h0 : 0 < many
  · simp only [h0, decide_true, if_true]
    rw [fits_ok hm hl h]
    simp only [X.bok, X.osm, h.b]
    rw [X.lc_ok (p' := fun p => decide (L2.atI p (-1) = some (many - 1))) (g' := fun p => p)]
    · simp only [X.bok, X.osm, List.map_id']
      have hlen : (parts.filter fun p => decide (L2.atI p (-1) = some (many - 1))).length ≤ parts.length := List.length_filter_le _ _
      have := h.l
      rw [limO_ok (by omega)]
      simp only [X.bok, X.osm]
      rw [lgap_ok (fun p hp => h.inP hl p (List.mem_filter.mp hp).1) (by omega)]
      simp only [X.bok, X.osm]
      rw [GE.ne GE.bool (by decide)]
      have key : (!((rngT 1 many.toNat).any fun s => decide (many % s = 0) && decide (gap < absT (pS signs ((r3 many s).map (· - 1)))))) = decide ((maxL (gS signs (parts.filter fun p => decide (L2.atI p (-1) = some (many - 1))))).getD 0 ≤ gap) := by
        rw [h.e, Bool.eq_iff_iff, decide_eq_true_eq, maxL_getD_le hg]
        simp only [Bool.not_eq_true', List.any_eq_false, Bool.and_eq_true, decide_eq_true_eq, gS, List.mem_map, List.mem_filter, not_and, Int.not_lt]
        constructor
        · rintro H x ⟨p, ⟨s, ⟨h1, h2⟩, rfl⟩, rfl⟩
          exact H s h1 h2
        · intro H s h1 h2
          exact H _ ⟨_, ⟨s, ⟨h1, h2⟩, rfl⟩, rfl⟩
      rw [key]
      simp
    · intro p hp
      obtain ⟨v, hv⟩ := h.la p hp
      simp only [X.bok, X.osm, hv]
      simp
    · intro p hp _
      rfl
  · simp [h0]
end K35


set_option Elab.async false
set_option linter.all false
set_option maxRecDepth 100000
set_option maxHeartbeats 8000000
namespace K35
open PySem PySem.Spec FW
def pr (signs : List Int) (a b : Int) : Bool := decide (ix0 signs (a * b - 1) = ix0 signs (a - 1) * ix0 signs (b - 1))
def pm (signs : List Int) : Prop := ∀ i, -1 ≤ ix0 signs i ∧ ix0 signs i ≤ 1
theorem ix0_pm {signs : List Int} (h : ∀ x ∈ signs, x = 1 ∨ x = -1) : pm signs := by
  intro i
  unfold ix0 List.getD
  cases e : signs[i.toNat]? with
  | none => simp
  | some x =>
    have := h x (List.mem_of_getElem? e)
    simp only [Option.getD_some]
    omega
/-- the product holds -/
def allP (signs : List Int) : Bool := (rngT 1 signs.length).all fun a => (rngT 1 ((signs.length : Int) / a).toNat).all fun b => pr signs a b
theorem idx {a b n : Int} (h1 : 1 ≤ a) (h2 : 1 ≤ b) (h : b ≤ n / a) : a * b ≤ n ∧ 1 ≤ a * b ∧ b ≤ n := by
  have h3 : b * a ≤ n := (Int.le_ediv_iff_mul_le (by omega)).mp h
  have h4 : a * b = b * a := Int.mul_comm a b
  have h5 : b ≤ b * a := by have := Int.mul_le_mul_of_nonneg_left h1 (show 0 ≤ b by omega); omega
  exact ⟨by omega, by omega, by omega⟩
theorem prod_ok {signs : List Int} (hp : pm signs) (hl : signs.length ≤ 1000) : t_is_product_signs signs = .ok (allP signs) := by
  unfold t_is_product_signs
  simp only [X.bok, X.osm, X.snx]
  rw [rg2_ok (by omega) (by omega) (by omega) (by omega), X.osm, X.bok]
  rw [show ((signs.length : Int) + 1 - 1).toNat = signs.length by omega]
  rw [X.for_any (p := fun a => (rngT 1 ((signs.length : Int) / a).toNat).any fun b => !pr signs a b) (r := false)]
  · unfold allP
    have : (rngT 1 signs.length).all (fun a => (rngT 1 ((signs.length : Int) / a).toNat).all fun b => pr signs a b) = !((rngT 1 signs.length).any fun a => (rngT 1 ((signs.length : Int) / a).toNat).any fun b => !pr signs a b) := by
      simp [List.all_eq_not_any_not]
    rw [this]
    split <;> rename_i hq <;> simp_all
  · intro a ha
    have ha' := rngT_mem.mp ha
    rw [divO_pos (by omega) (by omega)]
    simp only [X.bok, X.osm]
    have hd : 0 ≤ (signs.length : Int) / a := Int.ediv_nonneg (by omega) (by omega)
    have hd2 : (signs.length : Int) / a ≤ signs.length := Int.ediv_le_self _ (by omega)
    rw [rg2_ok (by omega) (by omega) (by omega) (by omega), X.osm, X.bok]
    rw [show ((signs.length : Int) / a + 1 - 1).toNat = ((signs.length : Int) / a).toNat by omega]
    rw [X.for_any (p := fun b => !pr signs a b) (r := false)]
    · split
      · rw [X.srt]
      · rw [X.snx]
    · intro b hb
      have hb' := rngT_mem.mp hb
      have hi := idx (n := signs.length) ha'.1 hb'.1 (by omega)
      have h1 := hp (a - 1)
      have h2 := hp (b - 1)
      rw [mulO_l (by omega) (by omega)]
      simp only [X.bok, X.osm]
      rw [atI_ix0 (by omega) (by omega), atI_ix0 (by omega) (by omega), atI_ix0 (by omega) (by omega)]
      simp only [X.bok, X.osm]
      rw [mulO_l (by omega) (by omega)]
      simp only [X.bok, X.osm]
      unfold pr
      cases hq : decide (ix0 signs (a * b - 1) = ix0 signs (a - 1) * ix0 signs (b - 1)) with
      | true => simp only [Bool.not_true, Bool.false_eq_true, if_false, X.snx]
      | false => simp only [Bool.not_false, if_true, X.srt]
theorem x22_ok {many gap step : Int} {ns signs : List Int} {spans every : List (List Int)} {most number figures rest : Int} {threes : List Int} (hm : 0 ≤ many ∧ many < 11) (hp : pm signs) (hl : (signs.length : Int) = many) : x_22 ns spans every signs gap most number threes true many step figures rest = .ok (.next (allP signs)) := by
  unfold x_22
  simp only [X.bok, X.osm]
  rw [rg2_ok (by omega) (by omega) (by omega) (by omega), X.osm, X.bok]
  rw [show (many + 1 - 1).toNat = signs.length by omega]
  rw [X.for_next (f := fun s a => if (rngT 1 signs.length).all (fun b => !(decide (a * b ≤ many) && !pr signs a b)) = true then s else false)]
  · rw [foldl_and, Bool.true_and]
    congr 2
    rw [Bool.eq_iff_iff]
    unfold allP
    simp only [List.all_eq_true, Bool.not_eq_true', Bool.and_eq_false_iff, decide_eq_false_iff_not, Bool.not_eq_false']
    constructor
    · intro H a ha b hb
      have ha' := rngT_mem.mp ha
      have hb' := rngT_mem.mp hb
      have hi := idx (n := signs.length) ha'.1 hb'.1 (by omega)
      rcases H a ha b (rngT_mem.mpr ⟨by omega, by omega⟩) with h | h
      · omega
      · exact h
    · intro H a ha b hb
      have ha' := rngT_mem.mp ha
      have hb' := rngT_mem.mp hb
      by_cases h : a * b ≤ many
      · refine .inr (H a ha b (rngT_mem.mpr ⟨by omega, ?_⟩))
        have : b ≤ (signs.length : Int) / a := (Int.le_ediv_iff_mul_le (by omega)).mpr (by rw [Int.mul_comm]; omega)
        omega
      · exact .inl h
  · intro s a ha
    have ha' := rngT_mem.mp ha
    simp only [X.bok, X.osm]
    rw [X.for_next (f := fun s b => if (!(decide (a * b ≤ many) && !pr signs a b)) = true then s else false)]
    · rw [foldl_and]
      rw [X.snx]
      generalize (rngT 1 signs.length).all (fun b => !(decide (a * b ≤ many) && !pr signs a b)) = q
      cases q <;> cases s <;> rfl
    · intro s b hb
      have hb' := rngT_mem.mp hb
      rw [mulO_l (by omega) (by omega)]
      simp only [X.bok, X.osm]
      by_cases h : a * b ≤ many
      · have h5 : 1 ≤ a * b := by have := Int.mul_le_mul_of_nonneg_left hb'.1 (show 0 ≤ a by omega); omega
        have h1 := hp (a - 1)
        have h2 := hp (b - 1)
        simp only [h, decide_true, if_true, Bool.true_and]
        rw [atI_ix0 (by omega) (by omega), atI_ix0 (by omega) (by omega), atI_ix0 (by omega) (by omega)]
        simp only [X.bok, X.osm]
        rw [mulO_l (by omega) (by omega)]
        simp only [X.bok, X.osm]
        unfold pr
        by_cases q : ix0 signs (a * b - 1) = ix0 signs (a - 1) * ix0 signs (b - 1) <;> simp [q]
      · simp [h]
theorem x23_ok {gap step many : Int} {ns signs : List Int} {spans every : List (List Int)} {most number figures rest : Int} {threes : List Int} (hp : pm signs) (hl : signs.length ≤ 1000) : x_23 ns spans every signs gap most number threes (allP signs) many step figures rest = .ok (.next ()) := by
  unfold x_23
  simp only [X.bok, X.osm, prod_ok hp hl]
  rw [GE.ne GE.bool (by decide)]
  simp
end K35


set_option Elab.async false
set_option linter.all false
set_option maxRecDepth 100000
set_option maxHeartbeats 8000000
namespace K35
open PySem PySem.Spec FW
def sg (n : Int) : Int := match t_threes_sign n with
  | .ok a => a
  | _ => 0
def fg (n : Int) : Int := match t_threes_sum (eI n) with
  | .ok a => a
  | _ => 0
def chkT (n : Int) : Bool := match t_threes_sign n, t__law_sign n, t_threes_sum (eI n), x_18 [] [] [] [] 0 0 0 [] 0 0 0 n with
  | .ok a, .ok b, .ok c, .ok (.next (f, _)) => decide (a = b) && (decide (c = f) && (decide (c = fg (n - 1) + a) && (decide (a = 1) || decide (a = -1))))
  | _, _, _, _ => false
structure Tk (n : Int) : Prop where
  a : t_threes_sign n = .ok (sg n)
  b : t__law_sign n = .ok (sg n)
  c : t_threes_sum (eI n) = .ok (fg n)
  f : ∃ r, x_18 [] [] [] [] 0 0 0 [] 0 0 0 n = .ok (.next (fg n, r))
  e : fg n = fg (n - 1) + sg n
  s : sg n = 1 ∨ sg n = -1
theorem Tk.of {n : Int} (h : chkT n = true) : Tk n := by
  unfold chkT at h
  split at h
  · rename_i a b c f r h1 h2 h3 h4
    simp only [Bool.and_eq_true, Bool.or_eq_true, decide_eq_true_eq] at h
    obtain ⟨rfl, rfl, h5, h6⟩ := h
    have e1 : sg n = a := by unfold sg; rw [h1]
    have e2 : fg n = c := by unfold fg; rw [h3]
    exact ⟨by rw [e1]; exact h1, by rw [e1]; exact h2, by rw [e2]; exact h3, ⟨r, by rw [e2]; exact h4⟩, by rw [e1, e2]; exact h5, by rw [e1]; exact h6⟩
  · cases h
theorem allT : ((List.range 400).all fun m => chkT ((m : Int) + 1)) = true := by kernel_rfl
theorem tk {n : Int} (h0 : 1 ≤ n) (h1 : n ≤ 400) : Tk n := by
  have := List.all_eq_true.mp allT (n - 1).toNat (by simp; omega)
  rw [Int.toNat_of_nonneg (by omega), Int.sub_add_cancel] at this
  exact Tk.of this
theorem allQ : ((rngT 1 60).all fun a => (rngT 1 (60 / a).toNat).all fun b => decide (sg (a * b) = sg a * sg b)) = true := by kernel_rfl
theorem fg0 : t_threes_sum (eI 0) = .ok 0 := by kernel_rfl
def th (n : Int) : List Int := (rngT 1 n.toNat).map sg
theorem rngT_succ {lo : Int} {n : Nat} : rngT lo (n + 1) = rngT lo n ++ [lo + n] := by
  unfold rngT
  rw [List.range_succ, List.map_append]
  rfl
theorem th_sum : ∀ n : Nat, n ≤ 400 → ((rngT 1 n).map sg).sum = fg n
  | 0, _ => by
    show (0 : Int) = fg 0
    unfold fg
    rw [fg0]
  | n + 1, h => by
    have ih := th_sum n (by omega)
    have := (tk (n := (n : Int) + 1) (by omega) (by omega)).e
    rw [rngT_succ, List.map_append, List.sum_append, ih]
    show fg n + (sg (1 + n) + 0) = fg ((n + 1 : Nat) : Int)
    rw [Int.natCast_add, show ((1 : Nat) : Int) = 1 from rfl, this, Int.add_sub_cancel, Int.add_zero, Int.add_comm 1]
theorem th_len {n : Int} : (th n).length = n.toNat := by simp [th, rngT]
theorem th_ix {n k : Int} (h1 : 1 ≤ k) (h2 : k ≤ n) : (th n)[(k - 1).toNat]? = some (sg k) := by
  unfold th rngT
  rw [List.map_map, List.getElem?_map, List.getElem?_range (by omega)]
  simp only [Option.map_some, Function.comp]
  congr 2
  omega
theorem x16_ok {many gap step most number : Int} {ns signs : List Int} {spans every : List (List Int)} (h1 : 1 ≤ number) (h2 : number ≤ 400) : x_16 ns spans every signs gap most number many step = .ok (.next (th number)) := by
  unfold x_16
  simp only [X.bok, X.osm]
  rw [rg2_ok (by omega) (by omega) (by omega) (by omega), X.osm, X.bok]
  rw [show (number + 1 - 1).toNat = number.toNat by omega]
  rw [X.lc_map (g' := sg) (fun n hn => by have := rngT_mem.mp hn; exact (tk (n := n) (by omega) (by omega)).b), X.bok, limO_ok (by simp [rngT]; omega)]
  rfl
theorem len_ok {n : Int} (h : 0 ≤ n) : t_check_length (eI n) = .ok () := by
  have h1 : t_is_count (eI n) = .ok true := by
    unfold t_is_count
    have a : isiD "int" (eI n) = some true := rfl
    have b : isiD "bool" (eI n) = some false := rfl
    simp only [X.bok, X.osm, a, b, asI, eI]
    simp [h]
  unfold t_check_length
  simp only [X.bok, X.osm, h1]
  simp
theorem ts_ok {n : Int} (h1 : 1 ≤ n) (h2 : n ≤ 400) : t_threes_signs (eI n) = .ok (th n) := by
  unfold t_threes_signs
  simp only [X.bok, X.osm, len_ok (show 0 ≤ n by omega), X.snx]
  simp only [asI, eI, X.bok, X.osm]
  rw [rg2_ok (by omega) (by omega) (by omega) (by omega), X.osm, X.bok]
  rw [show (n + 1 - 1).toNat = n.toNat by omega]
  rw [X.lc_map (g' := sg) (fun n hn => by have := rngT_mem.mp hn; exact (tk (n := n) (by omega) (by omega)).a), X.bok, limO_ok (by simp [rngT]; omega)]
  rfl
theorem x18_ok {many gap step most number : Int} {ns signs threes : List Int} {spans every : List (List Int)} (h1 : 1 ≤ number) (h2 : number ≤ 400) : ∃ r, x_18 ns spans every signs gap most number threes many step 0 number = .ok (.next (fg number, r)) := (tk h1 h2).f
theorem x19_ok {many gap step most number rest : Int} {ns signs : List Int} {spans every : List (List Int)} (h1 : 1 ≤ number) (h2 : number ≤ 400) : x_19 ns spans every signs gap most number (th number) many step (fg number) rest = .ok (.next ()) := by
  have T := tk h1 h2
  have hl : L2.atI (th number) (-1) = some (sg number) := by
    have h3 := th_len (n := number)
    rw [atI_neg1 (by intro h; rw [h] at h3; simp at h3; omega), List.getLast?_eq_getElem?, h3, show number.toNat - 1 = (number - 1).toNat by omega]
    exact th_ix h1 (Int.le_refl _)
  unfold x_19
  simp only [X.bok, X.osm, T.a, T.c, hl, ts_ok h1 h2, fg0]
  rw [GE.ne GE.int.tup (by decide)]
  have hs : (th number).sum = fg number := by
    have := th_sum number.toNat (by omega)
    rw [Int.toNat_of_nonneg (by omega)] at this
    exact this
  simp only [X.bok, X.osm, hs, decide_true, Bool.not_true, Bool.false_eq_true, if_false]
theorem x20_ok {many gap step most number figures rest : Int} {ns signs : List Int} {spans every : List (List Int)} (h1 : 1 ≤ number) (h2 : number ≤ 400) : x_20 ns spans every signs gap most number (th number) many step figures rest = .ok (.next ()) := by
  unfold x_20
  simp only [X.bok, X.osm]
  rw [show cutT (th number) none (some 60) = (th number).take 60 from cutT_take (k := 60)]
  have hs : ∀ x ∈ (th number).take 60, x = 1 ∨ x = -1 := by
    intro x hx
    obtain ⟨n, hn, rfl⟩ := List.mem_map.mp (List.mem_of_mem_take hx)
    have := rngT_mem.mp hn
    exact (tk (n := n) (by omega) (by omega)).s
  have hlen : ((th number).take 60).length = min 60 number.toNat := by rw [List.length_take, th_len]
  have hix : ∀ k : Int, 1 ≤ k → k ≤ (((th number).take 60).length : Int) → ix0 ((th number).take 60) (k - 1) = sg k := by
    intro k h3 h4
    rw [hlen] at h4
    unfold ix0 List.getD
    rw [List.getElem?_take, if_pos (by omega), th_ix h3 (by omega)]
    rfl
  have hall : allP ((th number).take 60) = true := by
    unfold allP
    rw [List.all_eq_true]
    intro a ha
    rw [List.all_eq_true]
    intro b hb
    have ha' := rngT_mem.mp ha
    have hb' := rngT_mem.mp hb
    have hi := idx (n := ((th number).take 60).length) ha'.1 hb'.1 (by omega)
    unfold pr
    rw [hix _ hi.2.1 hi.1, hix a ha'.1 (by omega), hix b hb'.1 hi.2.2]
    have h60 : (((th number).take 60).length : Int) ≤ 60 := by rw [hlen]; omega
    have hb60 : b ≤ 60 / a := (Int.le_ediv_iff_mul_le (by omega)).mpr (by rw [Int.mul_comm]; omega)
    exact List.all_eq_true.mp (List.all_eq_true.mp allQ a (rngT_mem.mpr ⟨by omega, by omega⟩)) b (rngT_mem.mpr ⟨by omega, by omega⟩)
  rw [prod_ok (ix0_pm hs) (by omega), hall]
  rfl
end K35


set_option Elab.async false
set_option linter.all false
set_option maxRecDepth 100000
set_option maxHeartbeats 8000000
namespace K35
open PySem PySem.Spec FW
def chkA (ns : List Int) (many step : Int) : Bool := nx (x_3 ns many step) fun s3 => nx (x_4 ns s3 many step) fun s4 => nx (x_5 ns s4 many step) fun s5 => nx (x_6 ns s4 s5 many step) fun s6 => nx (x_7 ns s4 s6 many step) fun _ => true
def chkL (ns : List Int) (spans every : List (List Int)) (signs : List Int) (gap most many step : Int) : Bool := nx (x_13 ns spans every signs gap most many step) fun _ => nx (x_14 ns spans every signs gap most many step) fun _ => true
def chkG (ns : List Int) (spans every : List (List Int)) (signs : List Int) (gap most number : Int) (threes : List Int) (good : Bool) (many step figures rest size : Int) : Bool := nx (x_25 ns spans every signs gap most number threes good size many step figures rest) fun s25 => nx (x_26 ns spans every signs gap most number threes good size s25 many step figures rest) fun s26 => nx (x_27 ns spans every signs gap most number threes good size s26 many step figures rest) fun s27 => nx (x_28 ns spans every signs gap most number threes good size s26 s27 many step figures rest) fun s28 => nx (x_29 ns spans every signs gap most number threes good size s26 s27 s28 many step figures rest) fun _ => nx (x_30 ns spans every signs gap most number threes good size s26 s27 s28 many step figures rest) fun _ => true

theorem a_0 (ns : List Int) : ((List.range 6).all fun s => chkA ns 0 ((s : Int) + 1)) = true := by kernel_rfl
theorem a_1 (ns : List Int) : ((List.range 6).all fun s => chkA ns 1 ((s : Int) + 1)) = true := by kernel_rfl
theorem a_2 (ns : List Int) : ((List.range 6).all fun s => chkA ns 2 ((s : Int) + 1)) = true := by kernel_rfl
theorem a_3 (ns : List Int) : ((List.range 6).all fun s => chkA ns 3 ((s : Int) + 1)) = true := by kernel_rfl
theorem a_4 (ns : List Int) : ((List.range 6).all fun s => chkA ns 4 ((s : Int) + 1)) = true := by kernel_rfl
theorem a_5 (ns : List Int) : ((List.range 6).all fun s => chkA ns 5 ((s : Int) + 1)) = true := by kernel_rfl
theorem a_6 (ns : List Int) : ((List.range 6).all fun s => chkA ns 6 ((s : Int) + 1)) = true := by kernel_rfl
theorem a_7 (ns : List Int) : ((List.range 6).all fun s => chkA ns 7 ((s : Int) + 1)) = true := by kernel_rfl
theorem a_8 (ns : List Int) : ((List.range 6).all fun s => chkA ns 8 ((s : Int) + 1)) = true := by kernel_rfl
theorem a_9 (ns : List Int) : ((List.range 6).all fun s => chkA ns 9 ((s : Int) + 1)) = true := by kernel_rfl
theorem a_10 (ns : List Int) : ((List.range 6).all fun s => chkA ns 10 ((s : Int) + 1)) = true := by kernel_rfl
theorem b_0 (ns : List Int) (spans every : List (List Int)) (signs : List Int) (many step : Int) : ((List.range 14).all fun s => chkL ns spans every signs 0 (s : Int) many step) = true := by kernel_rfl
theorem b_1 (ns : List Int) (spans every : List (List Int)) (signs : List Int) (many step : Int) : ((List.range 14).all fun s => chkL ns spans every signs 1 (s : Int) many step) = true := by kernel_rfl
theorem b_2 (ns : List Int) (spans every : List (List Int)) (signs : List Int) (many step : Int) : ((List.range 14).all fun s => chkL ns spans every signs 2 (s : Int) many step) = true := by kernel_rfl
theorem g_0 (ns : List Int) (spans every : List (List Int)) (signs : List Int) (gap most number : Int) (threes : List Int) (good : Bool) (many step figures rest : Int) : chkG ns spans every signs gap most number threes good many step figures rest 0 = true := by kernel_rfl
theorem g_1 (ns : List Int) (spans every : List (List Int)) (signs : List Int) (gap most number : Int) (threes : List Int) (good : Bool) (many step figures rest : Int) : chkG ns spans every signs gap most number threes good many step figures rest 1 = true := by kernel_rfl
theorem g_2 (ns : List Int) (spans every : List (List Int)) (signs : List Int) (gap most number : Int) (threes : List Int) (good : Bool) (many step figures rest : Int) : chkG ns spans every signs gap most number threes good many step figures rest 2 = true := by kernel_rfl
theorem g_3 (ns : List Int) (spans every : List (List Int)) (signs : List Int) (gap most number : Int) (threes : List Int) (good : Bool) (many step figures rest : Int) : chkG ns spans every signs gap most number threes good many step figures rest 3 = true := by kernel_rfl
theorem g_4 (ns : List Int) (spans every : List (List Int)) (signs : List Int) (gap most number : Int) (threes : List Int) (good : Bool) (many step figures rest : Int) : chkG ns spans every signs gap most number threes good many step figures rest 4 = true := by kernel_rfl
theorem g_5 (ns : List Int) (spans every : List (List Int)) (signs : List Int) (gap most number : Int) (threes : List Int) (good : Bool) (many step figures rest : Int) : chkG ns spans every signs gap most number threes good many step figures rest 5 = true := by kernel_rfl
theorem g_6 (ns : List Int) (spans every : List (List Int)) (signs : List Int) (gap most number : Int) (threes : List Int) (good : Bool) (many step figures rest : Int) : chkG ns spans every signs gap most number threes good many step figures rest 6 = true := by kernel_rfl
theorem ref8 : t__law_refused 8 (eI 0) = .ok PyData.none := by kernel_rfl
end K35


set_option Elab.async false
set_option linter.all false
set_option maxRecDepth 100000
set_option maxHeartbeats 8000000
namespace K35
open PySem PySem.Spec FW
section
variable {σ : Type} {ns : List Int} {Q : Fl σ Empty Bool → Prop} {E : Str → D → Prop}
theorem d2 (h : ns.length ≤ 63) {k : Int × Int → M (Fl σ Empty Bool)} (hk : ∀ many step, 0 ≤ many → many < 11 → 0 ≤ step → step < 6 → k (many, 1 + step) Q E) : M.seq (m_2 ns) k Q E := by
  show (0 : Int) < 11 ∧ (11 : Int) < 2 ^ 64 ∧ ns.length ≤ 63 ∧ ∀ r : Int, 0 ≤ r → r < 11 → _
  refine ⟨by decide, by decide, h, fun r h0 h1 => ?_⟩
  show (0 : Int) < 6 ∧ (6 : Int) < 2 ^ 64 ∧ ns.length ≤ 63 ∧ ∀ r : Int, 0 ≤ r → r < 6 → _
  exact ⟨by decide, by decide, h, fun q h2 h3 => hk r q h0 h1 h2 h3⟩
theorem d9 (h : ns.length ≤ 63) {sp ev : List (List Int)} {si : List Int} {many step : Int} {k : Int → M (Fl σ Empty Bool)} (hk : ∀ g, 0 ≤ g → g < 3 → k g Q E) : M.seq (m_9 ns sp ev si many step) k Q E := by
  show (0 : Int) < 3 ∧ (3 : Int) < 2 ^ 64 ∧ ns.length ≤ 63 ∧ ∀ r : Int, 0 ≤ r → r < 3 → _
  exact ⟨by decide, by decide, h, fun q h2 h3 => hk q h2 h3⟩
theorem d12 (h : ns.length ≤ 63) {sp ev : List (List Int)} {si : List Int} {gap many step : Int} {k : Int → M (Fl σ Empty Bool)} (hk : ∀ g, 0 ≤ g → g < 14 → k g Q E) : M.seq (m_12 ns sp ev si gap many step) k Q E := by
  show (0 : Int) < 14 ∧ (14 : Int) < 2 ^ 64 ∧ ns.length ≤ 63 ∧ ∀ r : Int, 0 ≤ r → r < 14 → _
  exact ⟨by decide, by decide, h, fun q h2 h3 => hk q h2 h3⟩
theorem d15 (h : ns.length ≤ 63) {sp ev : List (List Int)} {si : List Int} {gap most many step : Int} {k : Int → M (Fl σ Empty Bool)} (hk : ∀ g, 1 ≤ g → g ≤ 400 → k g Q E) : M.seq (m_15 ns sp ev si gap most many step) k Q E := by
  show (0 : Int) < 400 ∧ (400 : Int) < 2 ^ 64 ∧ ns.length ≤ 63 ∧ ∀ r : Int, 0 ≤ r → r < 400 → _
  exact ⟨by decide, by decide, h, fun q h2 h3 => hk (1 + q) (by omega) (by omega)⟩
theorem d24 (h : ns.length ≤ 63) {sp ev : List (List Int)} {si th : List Int} {good : Bool} {gap most number many step figures rest : Int} {k : Int → M (Fl σ Empty Bool)} (hk : ∀ g, 0 ≤ g → g < 7 → k g Q E) : M.seq (m_24 ns sp ev si gap most number th good many step figures rest) k Q E := by
  show (0 : Int) < 7 ∧ (7 : Int) < 2 ^ 64 ∧ ns.length ≤ 63 ∧ ∀ r : Int, 0 ≤ r → r < 7 → _
  exact ⟨by decide, by decide, h, fun q h2 h3 => hk q h2 h3⟩
theorem m1 : (X.of (mulO 2 1)).m = M.pure 2 := rfl
theorem d8 (h : ns.length ≤ 63) {sp ev : List (List Int)} {many step : Int} (hm : 0 ≤ many ∧ many < 11) {k : List Int → M (Fl σ Empty Bool)} (hk : ∀ si : List Int, (si.length : Int) = many → (∀ x ∈ si, x = 1 ∨ x = -1) → k si Q E) : M.seq (m_8 ns sp ev many step) k Q E := by
  unfold m_8
  simp only [M.pure_bind]
  rw [rg1_ok hm.1 (by omega)]
  show M.lc _ _ (rngT 0 many.toNat) (fun ys => _) E
  refine M.lc_draws (P := fun x => x = 1 ∨ x = -1) (fun _ _ _ h => h) ?_ ?_
  · intro x Q' E' hy
    show (0 : Int) < 2 ∧ (2 : Int) < 2 ^ 64 ∧ ns.length ≤ 63 ∧ ∀ r : Int, 0 ≤ r → r < 2 → _
    refine ⟨by decide, by decide, h, fun r h0 h1 => ?_⟩
    have : r = 0 ∨ r = 1 := by omega
    rcases this with rfl | rfl
    · exact hy 1 (.inl rfl)
    · exact hy (-1) (.inr rfl)
  · intro ys hl hys
    rw [rngT_len] at hl
    show (X.of (limO ys)).m _ E
    rw [limO_ok (by omega)]
    exact hk ys (by omega) hys
theorem d31 {sp ev : List (List Int)} {si th : List Int} {good : Bool} {gap most number many step figures rest size : Int} {pa ro : List (List Int)} {ga : List Int} : m_31 ns sp ev si gap most number th good size pa ro ga many step figures rest (fun r => r = .ret true) E := by
  unfold m_31
  simp only [M.pure_bind]
  rw [ref8]
  rfl
end
theorem M.seq_ok {σ1 τ β σ : Type} {s : σ1} {k : σ1 → M (Fl σ τ β)} : M.seq (X.ok (.next s)).m k = k s := Eq.trans rfl rfl
theorem A_ok (ns : List Int) {many step : Int} (h0 : 0 ≤ many) (h1 : many < 11) (h2 : 0 ≤ step) (h3 : step < 6) : chkA ns many (1 + step) = true := by
  obtain ⟨n, rfl⟩ : ∃ n : Nat, step = n := ⟨step.toNat, by omega⟩
  have hn : n ∈ List.range 6 := List.mem_range.mpr (by omega)
  rw [Int.add_comm]
  have : many = 0 ∨ many = 1 ∨ many = 2 ∨ many = 3 ∨ many = 4 ∨ many = 5 ∨ many = 6 ∨ many = 7 ∨ many = 8 ∨ many = 9 ∨ many = 10 := by omega
  rcases this with rfl | rfl | rfl | rfl | rfl | rfl | rfl | rfl | rfl | rfl | rfl
  · exact List.all_eq_true.mp (a_0 ns) n hn
  · exact List.all_eq_true.mp (a_1 ns) n hn
  · exact List.all_eq_true.mp (a_2 ns) n hn
  · exact List.all_eq_true.mp (a_3 ns) n hn
  · exact List.all_eq_true.mp (a_4 ns) n hn
  · exact List.all_eq_true.mp (a_5 ns) n hn
  · exact List.all_eq_true.mp (a_6 ns) n hn
  · exact List.all_eq_true.mp (a_7 ns) n hn
  · exact List.all_eq_true.mp (a_8 ns) n hn
  · exact List.all_eq_true.mp (a_9 ns) n hn
  · exact List.all_eq_true.mp (a_10 ns) n hn
theorem L_ok (ns : List Int) (spans every : List (List Int)) (signs : List Int) (many step : Int) {gap most : Int} (h0 : 0 ≤ gap) (h1 : gap < 3) (h2 : 0 ≤ most) (h3 : most < 14) : chkL ns spans every signs gap most many step = true := by
  obtain ⟨n, rfl⟩ : ∃ n : Nat, most = n := ⟨most.toNat, by omega⟩
  have hn : n ∈ List.range 14 := List.mem_range.mpr (by omega)
  have : gap = 0 ∨ gap = 1 ∨ gap = 2 := by omega
  rcases this with rfl | rfl | rfl
  · exact List.all_eq_true.mp (b_0 ns spans every signs many step) n hn
  · exact List.all_eq_true.mp (b_1 ns spans every signs many step) n hn
  · exact List.all_eq_true.mp (b_2 ns spans every signs many step) n hn
theorem G_ok (ns : List Int) (spans every : List (List Int)) (signs : List Int) (gap most number : Int) (threes : List Int) (good : Bool) (many step figures rest : Int) {size : Int} (h0 : 0 ≤ size) (h1 : size < 7) : chkG ns spans every signs gap most number threes good many step figures rest size = true := by
  have : size = 0 ∨ size = 1 ∨ size = 2 ∨ size = 3 ∨ size = 4 ∨ size = 5 ∨ size = 6 := by omega
  rcases this with rfl | rfl | rfl | rfl | rfl | rfl | rfl
  · exact g_0 ns spans every signs gap most number threes good many step figures rest
  · exact g_1 ns spans every signs gap most number threes good many step figures rest
  · exact g_2 ns spans every signs gap most number threes good many step figures rest
  · exact g_3 ns spans every signs gap most number threes good many step figures rest
  · exact g_4 ns spans every signs gap most number threes good many step figures rest
  · exact g_5 ns spans every signs gap most number threes good many step figures rest
  · exact g_6 ns spans every signs gap most number threes good many step figures rest
theorem plain (ns : List Int) (h : ns.length ≤ 63) : m_law ns (fun r => r = .ret true) (fun _ _ => False) := by
  unfold m_law
  refine d2 h fun many step hm0 hm1 hs0 hs1 => ?_
  dsimp only
  obtain ⟨s3, e3, c⟩ := nx_ok (A_ok ns hm0 hm1 hs0 hs1)
  unfold m_3
  rw [e3]
  rw [M.seq_ok]
  obtain ⟨s4, e4, c⟩ := nx_ok c
  unfold m_4
  rw [e4]
  rw [M.seq_ok]
  obtain ⟨s5, e5, c⟩ := nx_ok c
  unfold m_5
  rw [e5]
  rw [M.seq_ok]
  obtain ⟨s6, e6, c⟩ := nx_ok c
  unfold m_6
  rw [e6]
  rw [M.seq_ok]
  obtain ⟨s7, e7, _⟩ := nx_ok c
  unfold m_7
  rw [e7]
  rw [M.seq_ok]
  refine d8 h ⟨hm0, hm1⟩ fun signs hl hs => ?_
  refine d9 h fun gap hg0 hg1 => ?_
  unfold m_10
  rw [(x10_ok (many := many) (gap := gap) (step := 1 + step) (ns := ns) (signs := signs) (spans := s4) (every := s6) ⟨hm0, hm1⟩ hl)]
  rw [M.seq_ok]
  unfold m_11
  rw [(x11_ok (many := many) (gap := gap) (step := 1 + step) (ns := ns) (signs := signs) (spans := s4) (every := s6) ⟨hm0, hm1⟩ hg0 hl)]
  rw [M.seq_ok]
  refine d12 h fun most ht0 ht1 => ?_
  obtain ⟨s13, e13, c⟩ := nx_ok (L_ok ns s4 s6 signs many (1 + step) hg0 hg1 ht0 ht1)
  unfold m_13
  rw [e13]
  rw [M.seq_ok]
  obtain ⟨s14, e14, _⟩ := nx_ok c
  unfold m_14
  rw [e14]
  rw [M.seq_ok]
  refine d15 h fun number hn0 hn1 => ?_
  unfold m_16
  rw [(x16_ok (many := many) (gap := gap) (step := 1 + step) (ns := ns) (signs := signs) (spans := s4) (every := s6) (most := most) (number := number) hn0 hn1)]
  rw [M.seq_ok]
  unfold m_17
  have e17 : x_17 ns s4 s6 signs gap most number (th number) many (1 + step) = .ok (.next (0, number, ())) := by unfold x_17; rfl
  rw [e17]
  rw [M.seq_ok]
  dsimp only
  obtain ⟨r, e18⟩ := x18_ok (many := many) (gap := gap) (step := 1 + step) (most := most) (ns := ns) (signs := signs) (threes := th number) (spans := s4) (every := s6) hn0 hn1
  unfold m_18
  rw [e18]
  rw [M.seq_ok]
  dsimp only
  unfold m_19
  rw [(x19_ok (many := many) (gap := gap) (step := 1 + step) (ns := ns) (signs := signs) (spans := s4) (every := s6) (most := most) (number := number) (rest := r) hn0 hn1)]
  rw [M.seq_ok]
  unfold m_20
  rw [(x20_ok (many := many) (gap := gap) (step := 1 + step) (ns := ns) (signs := signs) (spans := s4) (every := s6) (most := most) (number := number) (figures := fg number) (rest := r) hn0 hn1)]
  rw [M.seq_ok]
  unfold m_21
  have e21 : x_21 ns s4 s6 signs gap most number (th number) many (1 + step) (fg number) r = .ok (.next true) := by unfold x_21; rfl
  rw [e21]
  rw [M.seq_ok]
  unfold m_22
  rw [(x22_ok (many := many) (gap := gap) (step := 1 + step) (ns := ns) (signs := signs) (spans := s4) (every := s6) (most := most) (number := number) (figures := fg number) (rest := r) (threes := th number) ⟨hm0, hm1⟩ (ix0_pm hs) hl)]
  rw [M.seq_ok]
  unfold m_23
  rw [(x23_ok (many := many) (gap := gap) (step := 1 + step) (ns := ns) (signs := signs) (spans := s4) (every := s6) (most := most) (number := number) (figures := fg number) (rest := r) (threes := th number) (ix0_pm hs) (by omega))]
  rw [M.seq_ok]
  refine d24 h fun size hz0 hz1 => ?_
  obtain ⟨s25, e25, c⟩ := nx_ok (G_ok ns s4 s6 signs gap most number (th number) (allP signs) many (1 + step) (fg number) r hz0 hz1)
  unfold m_25
  rw [e25]
  rw [M.seq_ok]
  obtain ⟨s26, e26, c⟩ := nx_ok c
  unfold m_26
  rw [e26]
  rw [M.seq_ok]
  obtain ⟨s27, e27, c⟩ := nx_ok c
  unfold m_27
  rw [e27]
  rw [M.seq_ok]
  obtain ⟨s28, e28, c⟩ := nx_ok c
  unfold m_28
  rw [e28]
  rw [M.seq_ok]
  obtain ⟨s29, e29, c⟩ := nx_ok c
  unfold m_29
  rw [e29]
  rw [M.seq_ok]
  obtain ⟨s30, e30, c⟩ := nx_ok c
  unfold m_30
  rw [e30]
  rw [M.seq_ok]
  exact d31

theorem law_true (ns : List Int) (h : ns.length ≤ 63) : F_law [.d (.list (ns.map PySem.PyData.int))] [] = .ok (.d (.bool true)) [] := by
  unfold F_law
  rw [split_law]
  unfold d_law
  exact law_end (slots := 26) (init := [.int 0, .int 0]) (ti := TI) (by kernel_rfl) ⟨0, 0, by decide, by decide, rfl⟩ (sim_law ns) (plain ns h)
end K35


set_option Elab.async false
set_option linter.all false
set_option maxRecDepth 100000
set_option maxHeartbeats 8000000

namespace K35
open PySem PySem.Spec PyProof.Rows L2 FW
def top (i : Nat) : Stmt := PySem.Challenge.pw_evensplits_k35_whole_things_in_a_row.main.body.getD i (.Pass ⟨0, 0, 0, 0⟩)
theorem bt_abs : bootBuiltins "abs" = some (.builtin "abs") := by decide +kernel
theorem bt_all : bootBuiltins "all" = some (.builtin "all") := by decide +kernel
theorem bt_bool : bootBuiltins "bool" = some (.type "bool") := by decide +kernel
theorem bt_int : bootBuiltins "int" = some (.type "int") := by decide +kernel
theorem bt_isinstance : bootBuiltins "isinstance" = some (.builtin "isinstance") := by decide +kernel
theorem bt_len : bootBuiltins "len" = some (.builtin "len") := by decide +kernel
theorem bt_list : bootBuiltins "list" = some (.type "list") := by decide +kernel
theorem bt_max : bootBuiltins "max" = some (.builtin "max") := by decide +kernel
theorem bt_min : bootBuiltins "min" = some (.builtin "min") := by decide +kernel
theorem bt_range : bootBuiltins "range" = some (.type "range") := by decide +kernel
theorem bt_sum : bootBuiltins "sum" = some (.builtin "sum") := by decide +kernel
theorem bt_tuple : bootBuiltins "tuple" = some (.type "tuple") := by decide +kernel
abbrev s__law_draw : Stmt := top 29
abbrev s__law_rows : Stmt := top 32
abbrev s_set_sum : Stmt := top 9
abbrev s_is_count : Stmt := top 6
abbrev s_check_length : Stmt := top 15
abbrev s_multiple_sets : Stmt := top 19
abbrev s_multiple_gap : Stmt := top 20
abbrev s__law_gap : Stmt := top 35
abbrev s__law_sign : Stmt := top 37
abbrev s_is_product_signs : Stmt := top 27
abbrev s_is_part : Stmt := top 7
abbrev s_check_family : Stmt := top 8
abbrev s_over_set : Stmt := top 10
abbrev s_within_from : Stmt := top 12
abbrev s_within_gap : Stmt := top 11
abbrev s_least_gap : Stmt := top 13
abbrev s_step_sets : Stmt := top 17
abbrev s_all_step_sets : Stmt := top 18
abbrev s_least_step_gap : Stmt := top 23
abbrev s_span_sets : Stmt := top 16
abbrev s_last_fits : Stmt := top 22
abbrev s_longest_multiples : Stmt := top 21
abbrev s_threes_sign : Stmt := top 24
abbrev s_threes_signs : Stmt := top 25
abbrev s_threes_sum : Stmt := top 26
abbrev s__law_refused : Stmt := top 38
abbrev s__law_steps : Stmt := top 33
abbrev s__law_multiples : Stmt := top 34
abbrev s__law_longest : Stmt := top 36
abbrev s_law : Stmt := top 39
structure All (C : FW.Ctx) (P : Program) (K : PySem.W.Frag) (mg : Str → Option Value) : Prop where
  t : Txt C P K mg
  b_abs : mg "abs" = none
  b_all : mg "all" = none
  b_bool : mg "bool" = none
  b_int : mg "int" = none
  b_isinstance : mg "isinstance" = none
  b_len : mg "len" = none
  b_list : mg "list" = none
  b_max : mg "max" = none
  b_min : mg "min" = none
  b_range : mg "range" = none
  b_sum : mg "sum" = none
  b_tuple : mg "tuple" = none
  e_InvalidFamily : ErrF C P K mg "InvalidFamily"
  e_InvalidRow : ErrF C P K mg "InvalidRow"
  e_TooLarge : ErrF C P K mg "TooLarge"
  c_InvalidRow : CatF C K mg "InvalidRow"
  f__law_draw : FnW K mg "_law_draw" s__law_draw
  f__law_rows : FnW K mg "_law_rows" s__law_rows
  f_set_sum : FnW K mg "set_sum" s_set_sum
  f_is_count : FnW K mg "is_count" s_is_count
  f_check_length : FnW K mg "check_length" s_check_length
  f_multiple_sets : FnW K mg "multiple_sets" s_multiple_sets
  f_multiple_gap : FnW K mg "multiple_gap" s_multiple_gap
  f__law_gap : FnW K mg "_law_gap" s__law_gap
  f__law_sign : FnW K mg "_law_sign" s__law_sign
  f_is_product_signs : FnW K mg "is_product_signs" s_is_product_signs
  f_is_part : FnW K mg "is_part" s_is_part
  f_check_family : FnW K mg "check_family" s_check_family
  f_over_set : FnW K mg "over_set" s_over_set
  f_within_from : FnW K mg "within_from" s_within_from
  f_within_gap : FnW K mg "within_gap" s_within_gap
  f_least_gap : FnW K mg "least_gap" s_least_gap
  f_step_sets : FnW K mg "step_sets" s_step_sets
  f_all_step_sets : FnW K mg "all_step_sets" s_all_step_sets
  f_least_step_gap : FnW K mg "least_step_gap" s_least_step_gap
  f_span_sets : FnW K mg "span_sets" s_span_sets
  f_last_fits : FnW K mg "last_fits" s_last_fits
  f_longest_multiples : FnW K mg "longest_multiples" s_longest_multiples
  f_threes_sign : FnW K mg "threes_sign" s_threes_sign
  f_threes_signs : FnW K mg "threes_signs" s_threes_signs
  f_threes_sum : FnW K mg "threes_sum" s_threes_sum
  f__law_refused : FnW K mg "_law_refused" s__law_refused
  f__law_steps : FnW K mg "_law_steps" s__law_steps
  f__law_multiples : FnW K mg "_law_multiples" s__law_multiples
  f__law_longest : FnW K mg "_law_longest" s__law_longest
  f_law : FnW K mg "law" s_law
variable {C : FW.Ctx} {P : Program} {w : World} {K : PySem.W.Frag} {mg : Str → Option Value} {base : Heap}
theorem sc__law_draw : FnScope ["state", "script", "size", "digit", "cell", "mixed"] ["state", "script", "size"] (defScope s__law_draw) := ⟨rfl, rfl, rfl, by decide +kernel, rfl, by decide +kernel, by decide +kernel⟩
theorem bw__law_draw : BindW "_law_draw" s__law_draw ["state", "script", "size"] := fun _ _ _ _ _ _ us hl => match us, hl with | [_, _, _], _ => rfl
theorem bd__law_draw (T : All C P K mg) (f : Addr) (cdv : Value) (A : Around) (outer : List PySem.Env) (s : Shared) (H : Hp) (E : XK) (hr : Room 0 (A.deeper (envOfC "_law_draw" (defScope s__law_draw) s.heap.objs.size f cdv))) : SSs C (cxOf (L2.CX P w) P w K mg base ["state", "script", "size", "digit", "cell", "mixed"] "_law_draw" (defScope s__law_draw) f cdv A outer s H E) (fun cls d _ H => E cls d H) c__law_draw (defBody s__law_draw) :=
  (sss_cons (ss_if (st_cmp (op_eq2 (u64 hr)) ser_eq (se_ix (se_var 0) se_int) se_int (nomark _)) (sss_cons (ss_set (i := 4) sc__law_draw.nd rfl (by first | exact Or.inl rfl | exact Or.inr rfl) se_int)
  (sss_cons (ss_if (st_cmp op_gt ser_gt (se_b call_len_seq ser_len (by rfl) T.b_len bt_len (sa_cons (se_var 1) sa_nil)) se_int (nomark _)) (sss_one (ss_set (i := 4) sc__law_draw.nd rfl (by first | exact Or.inl rfl | exact Or.inr rfl) (se_ix (se_var 1) (se_op op_mod ser_mod (se_ix (se_var 0) se_int) (se_b call_len_seq ser_len (by rfl) T.b_len bt_len (sa_cons (se_var 1) sa_nil)))))) sss_nil)
  (sss_cons (ss_if (st_cmp op_lt ser_lt (se_var 4) se_int (nomark _)) (sss_one (ss_set (i := 4) sc__law_draw.nd rfl (by first | exact Or.inl rfl | exact Or.inr rfl) (se_op op_sub ser_sub se_int (se_op op_mulB ser_mulB se_int (se_var 4))))) sss_nil)
  (sss_cons (ss_set (i := 5) sc__law_draw.nd rfl (by first | exact Or.inl rfl | exact Or.inr rfl) (se_op op_mod ser_mod (se_ty call_int1 ser_int (by rfl) T.b_int bt_int (sa_cons (se_op op_mulB ser_mulB (se_op op_addA ser_add (se_op op_addA ser_add (se_var 4) (se_op op_mulB ser_mulB (se_ix (se_var 0) se_int) se_int)) se_int) se_int) sa_nil)) se_int))
  (sss_cons (ss_put (se_op op_mod ser_mod (se_ty call_int1 ser_int (by rfl) T.b_int bt_int (sa_cons (se_op op_addA ser_add (se_op op_mulB ser_mulB (se_var 5) se_int) (se_op op_mulB ser_mulB (se_ix (se_var 0) se_int) se_int)) sa_nil)) se_int) (se_var 0) se_int)
  (sss_cons (ss_if (st_w (sw_and (st_cmp (op_geA (u0 hr)) ser_geA (se_var 4) (se_op op_pow ser_pow se_int se_int) (nomark _)) (sw_and1 (st_cmp op_lt ser_lt (se_ix (se_var 0) se_int) (se_b call_len_seq ser_len (by rfl) T.b_len bt_len (sa_cons (se_var 1) sa_nil)) (nomark _))))) (sss_one (ss_put (se_var 4) (se_var 0) se_int)) sss_nil)
  (sss_one (ss_put (se_op op_addA ser_add (se_ix (se_var 0) se_int) se_int) (se_var 0) se_int)))))))) sss_nil)
  (sss_cons (ss_set (i := 3) sc__law_draw.nd rfl (by first | exact Or.inl rfl | exact Or.inr rfl) (se_op op_mod ser_mod (se_ty call_int1 ser_int (by rfl) T.b_int bt_int (sa_cons (se_ix (se_var 0) se_int) sa_nil)) (se_var 2)))
  (sss_cons (ss_put (se_op op_divN ser_divN (se_ix (se_var 0) se_int) (se_var 2)) (se_var 0) se_int)
  (sss_one (ss_ret (se_var 3))))))
theorem ok__law_draw (T : All C P K mg) : Cal C P w K mg base 1 "_law_draw" 3 F__law_draw := cal_mk T.t T.f__law_draw sc__law_draw bw__law_draw fin_ok rfl rfl (bd__law_draw T)
theorem sc__law_rows : FnScope ["many", "options", "found", "k", "longer", "row", "one"] ["many", "options"] (defScope s__law_rows) := ⟨rfl, rfl, rfl, by decide +kernel, rfl, by decide +kernel, by decide +kernel⟩
theorem bw__law_rows : BindW "_law_rows" s__law_rows ["many", "options"] := fun _ _ _ _ _ _ us hl => match us, hl with | [_, _], _ => rfl
theorem bd__law_rows (T : All C P K mg) (f : Addr) (cdv : Value) (A : Around) (outer : List PySem.Env) (s : Shared) (H : Hp) (E : XK) (hr : Room 0 (A.deeper (envOfC "_law_rows" (defScope s__law_rows) s.heap.objs.size f cdv))) : SSs C (cxOf (L2.CX P w) P w K mg base ["many", "options", "found", "k", "longer", "row", "one"] "_law_rows" (defScope s__law_rows) f cdv A outer s H E) (fun cls d _ H => E cls d H) c__law_rows (defBody s__law_rows) :=
  (sss_cons (ss_set (i := 2) sc__law_rows.nd rfl (by first | exact Or.inl rfl | exact Or.inr rfl) (se_lst (sa_cons (se_tup sa_nil) sa_nil)))
  (sss_cons (ss_for (vs := [3]) owns0 rfl (si_r1 (by rfl) T.b_range (sa_cons (se_var 0) sa_nil)) (pg_name (i := 3) sc__law_rows.nd rfl (by first | exact Or.inl rfl | exact Or.inr rfl)) (bd_n (by decide)) (sss_cons (ss_set (i := 4) sc__law_rows.nd rfl (by first | exact Or.inl rfl | exact Or.inr rfl) (se_lst sa_nil))
  (sss_cons (ss_for (vs := [5]) owns0 rfl (si_v (se_var 2)) (pg_name (i := 5) sc__law_rows.nd rfl (by first | exact Or.inl rfl | exact Or.inr rfl)) (bd_n (by decide)) (sss_one (ss_set (i := 4) sc__law_rows.nd rfl (by first | exact Or.inl rfl | exact Or.inr rfl) (se_op op_addA ser_add (se_var 4) (se_lc (own := [("one", 6)]) rfl sc__law_rows.nd (si_v (se_var 1)) (blk_of (by kernel_rfl)) (fun _ _ _ _ _ => (pg_name (i := 6) sc__law_rows.nd rfl (by first | exact Or.inl rfl | exact Or.inr rfl))) (bd_n (by decide)) (fun _ _ _ _ _ => sts_nil) (fun _ _ _ _ _ => (se_op op_addA ser_add (se_var 5) (se_tup (sa_cons (se_var 6) sa_nil)))))))))
  (sss_one (ss_set (i := 2) sc__law_rows.nd rfl (by first | exact Or.inl rfl | exact Or.inr rfl) (se_var 4))))))
  (sss_one (ss_ret (se_var 2)))))
theorem ok__law_rows (T : All C P K mg) : Cal C P w K mg base 1 "_law_rows" 2 F__law_rows := cal_mk T.t T.f__law_rows sc__law_rows bw__law_rows fin_ok rfl rfl (bd__law_rows T)
theorem sc_set_sum : FnScope ["part", "signs", "one"] ["part", "signs"] (defScope s_set_sum) := ⟨rfl, rfl, rfl, by decide +kernel, rfl, by decide +kernel, by decide +kernel⟩
theorem bw_set_sum : BindW "set_sum" s_set_sum ["part", "signs"] := fun _ _ _ _ _ _ us hl => match us, hl with | [_, _], _ => rfl
theorem bd_set_sum (T : All C P K mg) (f : Addr) (cdv : Value) (A : Around) (outer : List PySem.Env) (s : Shared) (H : Hp) (E : XK) (hr : Room 0 (A.deeper (envOfC "set_sum" (defScope s_set_sum) s.heap.objs.size f cdv))) : SSs C (cxOf (L2.CX P w) P w K mg base ["part", "signs", "one"] "set_sum" (defScope s_set_sum) f cdv A outer s H E) (fun cls d _ H => E cls d H) c_set_sum (defBody s_set_sum) :=
  (sss_one (ss_ret (se_b (cr_sum rfl) ser_sum (by rfl) T.b_sum bt_sum (sa_cons (se_lc (own := [("one", 2)]) rfl sc_set_sum.nd (si_v (se_var 0)) (blk_of (by kernel_rfl)) (fun _ _ _ _ _ => (pg_name (i := 2) sc_set_sum.nd rfl (by first | exact Or.inl rfl | exact Or.inr rfl))) (bd_n (by decide)) (fun _ _ _ _ _ => sts_nil) (fun _ _ _ _ _ => (se_ix (se_var 1) (se_var 2)))) sa_nil))))
theorem ok_set_sum (T : All C P K mg) : Cal C P w K mg base 1 "set_sum" 2 F_set_sum := cal_mk T.t T.f_set_sum sc_set_sum bw_set_sum fin_ok rfl rfl (bd_set_sum T)
theorem sc_is_count : FnScope ["value"] ["value"] (defScope s_is_count) := ⟨rfl, rfl, rfl, by decide +kernel, rfl, by decide +kernel, by decide +kernel⟩
theorem bw_is_count : BindW "is_count" s_is_count ["value"] := fun _ _ _ _ _ _ us hl => match us, hl with | [_], _ => rfl
theorem bd_is_count (T : All C P K mg) (f : Addr) (cdv : Value) (A : Around) (outer : List PySem.Env) (s : Shared) (H : Hp) (E : XK) (hr : Room 0 (A.deeper (envOfC "is_count" (defScope s_is_count) s.heap.objs.size f cdv))) : SSs C (cxOf (L2.CX P w) P w K mg base ["value"] "is_count" (defScope s_is_count) f cdv A outer s H E) (fun cls d _ H => E cls d H) c_is_count (defBody s_is_count) :=
  (sss_one (ss_ret (se_and (se_isi (se_var 0) .int (by rfl) T.b_isinstance rfl (by rfl) T.b_int bt_int) (se_and (se_not (se_isi (se_var 0) .bool (by rfl) T.b_isinstance rfl (by rfl) T.b_bool bt_bool)) (se_one (se_cmp (op_geA (u0 hr)) ser_geA (se_var 0) se_int (nomark _)))))))
theorem ok_is_count (T : All C P K mg) : Cal C P w K mg base 1 "is_count" 1 F_is_count := cal_mk T.t T.f_is_count sc_is_count bw_is_count fin_ok rfl rfl (bd_is_count T)
theorem sc_check_length : FnScope ["value"] ["value"] (defScope s_check_length) := ⟨rfl, rfl, rfl, by decide +kernel, rfl, by decide +kernel, by decide +kernel⟩
theorem bw_check_length : BindW "check_length" s_check_length ["value"] := fun _ _ _ _ _ _ us hl => match us, hl with | [_], _ => rfl
theorem bd_check_length (T : All C P K mg) (f : Addr) (cdv : Value) (A : Around) (outer : List PySem.Env) (s : Shared) (H : Hp) (E : XK) (hr : Room 1 (A.deeper (envOfC "check_length" (defScope s_check_length) s.heap.objs.size f cdv))) : SSs C (cxOf (L2.CX P w) P w K mg base ["value"] "check_length" (defScope s_check_length) f cdv A outer s H E) (fun cls d _ H => E cls d H) c_check_length (defBody s_check_length) :=
  (sss_one (ss_if (st_not (st_tru (se_cal (ok_is_count T) hr (sa_cons (se_var 0) sa_nil) takes1))) (sss_one (ss_rs T.e_InvalidRow hr rfl takes1 se_non)) sss_nil))
theorem ok_check_length (T : All C P K mg) : Cal C P w K mg base 2 "check_length" 1 F_check_length := cal_mk T.t T.f_check_length sc_check_length bw_check_length fin_ok rfl rfl (bd_check_length T)
theorem sc_multiple_sets : FnScope ["many", "found", "step", "row", "number"] ["many"] (defScope s_multiple_sets) := ⟨rfl, rfl, rfl, by decide +kernel, rfl, by decide +kernel, by decide +kernel⟩
theorem bw_multiple_sets : BindW "multiple_sets" s_multiple_sets ["many"] := fun _ _ _ _ _ _ us hl => match us, hl with | [_], _ => rfl
theorem bd_multiple_sets (T : All C P K mg) (f : Addr) (cdv : Value) (A : Around) (outer : List PySem.Env) (s : Shared) (H : Hp) (E : XK) (hr : Room 2 (A.deeper (envOfC "multiple_sets" (defScope s_multiple_sets) s.heap.objs.size f cdv))) : SSs C (cxOf (L2.CX P w) P w K mg base ["many", "found", "step", "row", "number"] "multiple_sets" (defScope s_multiple_sets) f cdv A outer s H E) (fun cls d _ H => E cls d H) c_multiple_sets (defBody s_multiple_sets) :=
  (sss_cons (ss_expr (se_cal (ok_check_length T) hr (sa_cons (se_var 0) sa_nil) takes1))
  (sss_cons (ss_set (i := 1) sc_multiple_sets.nd rfl (by first | exact Or.inl rfl | exact Or.inr rfl) (se_lstC sa_nil))
  (sss_cons (ss_for (vs := [2]) owns0 rfl (si_r2 (by rfl) T.b_range (sa_cons se_int (sa_cons (se_op op_addA ser_add (se_var 0) se_int) sa_nil))) (pg_name (i := 2) sc_multiple_sets.nd rfl (by first | exact Or.inl rfl | exact Or.inr rfl)) (bd_n (by decide)) (sss_cons (ss_set (i := 3) sc_multiple_sets.nd rfl (by first | exact Or.inl rfl | exact Or.inr rfl) (se_tup sa_nil))
  (sss_one (ss_for (vs := [4]) owns0 rfl (si_r3 (by rfl) T.b_range (sa_cons (se_var 2) (sa_cons (se_op op_addA ser_add (se_var 0) se_int) (sa_cons (se_var 2) sa_nil)))) (pg_name (i := 4) sc_multiple_sets.nd rfl (by first | exact Or.inl rfl | exact Or.inr rfl)) (bd_n (by decide)) (sss_cons (ss_set (i := 3) sc_multiple_sets.nd rfl (by first | exact Or.inl rfl | exact Or.inr rfl) (se_op op_addA ser_add (se_var 3) (se_tup (sa_cons (se_op op_sub ser_sub (se_var 4) se_int) sa_nil))))
  (sss_one (ss_app (se_var 1) (se_var 3))))))))
  (sss_one (ss_ret (se_ty call_tuple_of ser_tup (by rfl) T.b_tuple bt_tuple (sa_cons (se_var 1) sa_nil)))))))
theorem ok_multiple_sets (T : All C P K mg) : Cal C P w K mg base 3 "multiple_sets" 1 F_multiple_sets := cal_mk T.t T.f_multiple_sets sc_multiple_sets bw_multiple_sets fin_ok rfl rfl (bd_multiple_sets T)
theorem sc_multiple_gap : FnScope ["signs", "part"] ["signs"] (defScope s_multiple_gap) := ⟨rfl, rfl, rfl, by decide +kernel, rfl, by decide +kernel, by decide +kernel⟩
theorem bw_multiple_gap : BindW "multiple_gap" s_multiple_gap ["signs"] := fun _ _ _ _ _ _ us hl => match us, hl with | [_], _ => rfl
theorem bd_multiple_gap (T : All C P K mg) (f : Addr) (cdv : Value) (A : Around) (outer : List PySem.Env) (s : Shared) (H : Hp) (E : XK) (hr : Room 3 (A.deeper (envOfC "multiple_gap" (defScope s_multiple_gap) s.heap.objs.size f cdv))) : SSs C (cxOf (L2.CX P w) P w K mg base ["signs", "part"] "multiple_gap" (defScope s_multiple_gap) f cdv A outer s H E) (fun cls d _ H => E cls d H) c_multiple_gap (defBody s_multiple_gap) :=
  (sss_one (ss_ret (se_maxD rfl (by rfl) T.b_max bt_max (se_lc (own := [("part", 1)]) rfl sc_multiple_gap.nd (si_v (se_cal (ok_multiple_sets T) hr (sa_cons (se_b call_len_seq ser_len (by rfl) T.b_len bt_len (sa_cons (se_var 0) sa_nil)) sa_nil) takes1)) (blk_of (by kernel_rfl)) (fun _ _ _ _ _ => (pg_name (i := 1) sc_multiple_gap.nd rfl (by first | exact Or.inl rfl | exact Or.inr rfl))) (bd_n (by decide)) (fun _ _ _ _ _ => sts_nil) (fun _ _ _ _ _ => (se_b call_abs ser_abs (by rfl) T.b_abs bt_abs (sa_cons (se_cal (ok_set_sum T) hr (sa_cons (se_var 1) (sa_cons (se_var 0) sa_nil)) takesF) sa_nil)))) se_int)))
theorem ok_multiple_gap (T : All C P K mg) : Cal C P w K mg base 4 "multiple_gap" 1 F_multiple_gap := cal_mk T.t T.f_multiple_gap sc_multiple_gap bw_multiple_gap fin_ok rfl rfl (bd_multiple_gap T)
theorem sc__law_gap : FnScope ["parts", "signs", "part", "thing"] ["parts", "signs"] (defScope s__law_gap) := ⟨rfl, rfl, rfl, by decide +kernel, rfl, by decide +kernel, by decide +kernel⟩
theorem bw__law_gap : BindW "_law_gap" s__law_gap ["parts", "signs"] := fun _ _ _ _ _ _ us hl => match us, hl with | [_, _], _ => rfl
theorem bd__law_gap (T : All C P K mg) (f : Addr) (cdv : Value) (A : Around) (outer : List PySem.Env) (s : Shared) (H : Hp) (E : XK) (hr : Room 0 (A.deeper (envOfC "_law_gap" (defScope s__law_gap) s.heap.objs.size f cdv))) : SSs C (cxOf (L2.CX P w) P w K mg base ["parts", "signs", "part", "thing"] "_law_gap" (defScope s__law_gap) f cdv A outer s H E) (fun cls d _ H => E cls d H) c__law_gap (defBody s__law_gap) :=
  (sss_one (ss_ret (se_b (cr_max rfl) ser_maxL (by rfl) T.b_max bt_max (sa_cons (se_op op_addA ser_add (se_lc (own := [("part", 2)]) rfl sc__law_gap.nd (si_v (se_var 0)) (blk_of (by kernel_rfl)) (fun _ _ _ _ _ => (pg_name (i := 2) sc__law_gap.nd rfl (by first | exact Or.inl rfl | exact Or.inr rfl))) (bd_n (by decide)) (fun _ _ _ _ _ => sts_nil) (fun _ _ _ _ _ => (se_b call_abs ser_abs (by rfl) T.b_abs bt_abs (sa_cons (se_b (cr_sum rfl) ser_sum (by rfl) T.b_sum bt_sum (sa_cons (se_lc (own := [("thing", 3)]) rfl sc__law_gap.nd (si_v (se_var 2)) (blk_of (by kernel_rfl)) (fun _ _ _ _ _ => (pg_name (i := 3) sc__law_gap.nd rfl (by first | exact Or.inl rfl | exact Or.inr rfl))) (bd_n (by decide)) (fun _ _ _ _ _ => sts_nil) (fun _ _ _ _ _ => (se_ix (se_var 1) (se_var 3)))) sa_nil)) sa_nil)))) (se_lst (sa_cons se_int sa_nil))) sa_nil))))
theorem ok__law_gap (T : All C P K mg) : Cal C P w K mg base 1 "_law_gap" 2 F__law_gap := cal_mk T.t T.f__law_gap sc__law_gap bw__law_gap fin_ok rfl rfl (bd__law_gap T)
theorem sc__law_sign : FnScope ["number"] ["number"] (defScope s__law_sign) := ⟨rfl, rfl, rfl, by decide +kernel, rfl, by decide +kernel, by decide +kernel⟩
theorem bw__law_sign : BindW "_law_sign" s__law_sign ["number"] := fun _ _ _ _ _ _ us hl => match us, hl with | [_], _ => rfl
theorem bd__law_sign (T : All C P K mg) (f : Addr) (cdv : Value) (A : Around) (outer : List PySem.Env) (s : Shared) (H : Hp) (E : XK) (hr : Room 0 (A.deeper (envOfC "_law_sign" (defScope s__law_sign) s.heap.objs.size f cdv))) : SSs C (cxOf (L2.CX P w) P w K mg base ["number"] "_law_sign" (defScope s__law_sign) f cdv A outer s H E) (fun cls d _ H => E cls d H) c__law_sign (defBody s__law_sign) :=
  (sss_cons (ss_wh owns0 (st_cmp (op_eq2 (u64 hr)) ser_eq (se_op op_mod ser_mod (se_ty call_int1 ser_int (by rfl) T.b_int bt_int (sa_cons (se_var 0) sa_nil)) se_int) se_int (nomark _)) (sss_one (ss_set (i := 0) sc__law_sign.nd rfl (by first | exact Or.inl rfl | exact Or.inr rfl) (se_op op_divN ser_divN (se_var 0) se_int))))
  (sss_one (ss_ret (se_ix (se_lst (sa_cons (se_op op_sub ser_sub se_int se_int) (sa_cons se_int sa_nil))) (se_ty call_int1 ser_int (by rfl) T.b_int bt_int (sa_cons (se_cmp (op_eq2 (u64 hr)) ser_eq (se_op op_mod ser_mod (se_ty call_int1 ser_int (by rfl) T.b_int bt_int (sa_cons (se_var 0) sa_nil)) se_int) se_int (nomark _)) sa_nil))))))
theorem ok__law_sign (T : All C P K mg) : Cal C P w K mg base 1 "_law_sign" 1 F__law_sign := cal_mk T.t T.f__law_sign sc__law_sign bw__law_sign fin_ok rfl rfl (bd__law_sign T)
theorem sc_is_product_signs : FnScope ["signs", "many", "a", "b"] ["signs"] (defScope s_is_product_signs) := ⟨rfl, rfl, rfl, by decide +kernel, rfl, by decide +kernel, by decide +kernel⟩
theorem bw_is_product_signs : BindW "is_product_signs" s_is_product_signs ["signs"] := fun _ _ _ _ _ _ us hl => match us, hl with | [_], _ => rfl
theorem bd_is_product_signs (T : All C P K mg) (f : Addr) (cdv : Value) (A : Around) (outer : List PySem.Env) (s : Shared) (H : Hp) (E : XK) (hr : Room 0 (A.deeper (envOfC "is_product_signs" (defScope s_is_product_signs) s.heap.objs.size f cdv))) : SSs C (cxOf (L2.CX P w) P w K mg base ["signs", "many", "a", "b"] "is_product_signs" (defScope s_is_product_signs) f cdv A outer s H E) (fun cls d _ H => E cls d H) c_is_product_signs (defBody s_is_product_signs) :=
  (sss_cons (ss_set (i := 1) sc_is_product_signs.nd rfl (by first | exact Or.inl rfl | exact Or.inr rfl) (se_b call_len_seq ser_len (by rfl) T.b_len bt_len (sa_cons (se_var 0) sa_nil)))
  (sss_cons (ss_for (vs := [2]) owns0 rfl (si_r2 (by rfl) T.b_range (sa_cons se_int (sa_cons (se_op op_addA ser_add (se_var 1) se_int) sa_nil))) (pg_name (i := 2) sc_is_product_signs.nd rfl (by first | exact Or.inl rfl | exact Or.inr rfl)) (bd_n (by decide)) (sss_one (ss_for (vs := [3]) owns0 rfl (si_r2 (by rfl) T.b_range (sa_cons se_int (sa_cons (se_op op_addA ser_add (se_op op_divN ser_divN (se_var 1) (se_var 2)) se_int) sa_nil))) (pg_name (i := 3) sc_is_product_signs.nd rfl (by first | exact Or.inl rfl | exact Or.inr rfl)) (bd_n (by decide)) (sss_one (ss_if (st_cmp (op_ne2 (u64 hr)) ser_ne (se_ix (se_var 0) (se_op op_sub ser_sub (se_op op_mulB ser_mulB (se_var 2) (se_var 3)) se_int)) (se_op op_mulB ser_mulB (se_ix (se_var 0) (se_op op_sub ser_sub (se_var 2) se_int)) (se_ix (se_var 0) (se_op op_sub ser_sub (se_var 3) se_int))) (nomark _)) (sss_one (ss_ret se_bl)) sss_nil)))))
  (sss_one (ss_ret se_bl))))
theorem ok_is_product_signs (T : All C P K mg) : Cal C P w K mg base 1 "is_product_signs" 1 F_is_product_signs := cal_mk T.t T.f_is_product_signs sc_is_product_signs bw_is_product_signs fin_ok rfl rfl (bd_is_product_signs T)
theorem sc_is_part : FnScope ["value", "many", "k", "one"] ["value", "many"] (defScope s_is_part) := ⟨rfl, rfl, rfl, by decide +kernel, rfl, by decide +kernel, by decide +kernel⟩
theorem bw_is_part : BindW "is_part" s_is_part ["value", "many"] := fun _ _ _ _ _ _ us hl => match us, hl with | [_, _], _ => rfl
theorem bd_is_part (T : All C P K mg) (f : Addr) (cdv : Value) (A : Around) (outer : List PySem.Env) (s : Shared) (H : Hp) (E : XK) (hr : Room 1 (A.deeper (envOfC "is_part" (defScope s_is_part) s.heap.objs.size f cdv))) : SSs C (cxOf (L2.CX P w) P w K mg base ["value", "many", "k", "one"] "is_part" (defScope s_is_part) f cdv A outer s H E) (fun cls d _ H => E cls d H) c_is_part (defBody s_is_part) :=
  (sss_cons (ss_if (st_w (sw_or (st_not (st_tru (se_isi (se_var 0) .tuple (by rfl) T.b_isinstance rfl (by rfl) T.b_tuple bt_tuple))) (sw_or (st_cmp (op_eq2 (u64 hr)) ser_eq (se_var 0) (se_tup sa_nil) (nomark _)) (sw_or1 (st_not (st_tru (se_b (cr_all rfl) ser_all (by rfl) T.b_all bt_all (sa_cons (se_lc (own := [("one", 3)]) rfl sc_is_part.nd (si_v (se_var 0)) (blk_of (by kernel_rfl)) (fun _ _ _ _ _ => (pg_name (i := 3) sc_is_part.nd rfl (by first | exact Or.inl rfl | exact Or.inr rfl))) (bd_n (by decide)) (fun _ _ _ _ _ => sts_nil) (fun _ _ _ _ _ => (se_and (se_cal (ok_is_count T) hr (sa_cons (se_var 3) sa_nil) takesF) (se_one (se_cmp op_lt ser_lt (se_var 3) (se_var 1) (nomark _)))))) sa_nil)))))))) (sss_one (ss_ret se_bl)) sss_nil)
  (sss_one (ss_ret (se_b (cr_all rfl) ser_all (by rfl) T.b_all bt_all (sa_cons (se_lc (own := [("k", 2)]) rfl sc_is_part.nd (si_r1 (by rfl) T.b_range (sa_cons (se_op op_sub ser_sub (se_b call_len_seq ser_len (by rfl) T.b_len bt_len (sa_cons (se_var 0) sa_nil)) se_int) sa_nil)) (blk_of (by kernel_rfl)) (fun _ _ _ _ _ => (pg_name (i := 2) sc_is_part.nd rfl (by first | exact Or.inl rfl | exact Or.inr rfl))) (bd_n (by decide)) (fun _ _ _ _ _ => sts_nil) (fun _ _ _ _ _ => (se_cmp op_lt ser_lt (se_ix (se_var 0) (se_var 2)) (se_ix (se_var 0) (se_op op_addA ser_add (se_var 2) se_int)) (nomark _)))) sa_nil)))))
theorem ok_is_part (T : All C P K mg) : Cal C P w K mg base 2 "is_part" 2 F_is_part := cal_mk T.t T.f_is_part sc_is_part bw_is_part fin_ok rfl rfl (bd_is_part T)
theorem sc_check_family : FnScope ["many", "family", "k"] ["many", "family"] (defScope s_check_family) := ⟨rfl, rfl, rfl, by decide +kernel, rfl, by decide +kernel, by decide +kernel⟩
theorem bw_check_family : BindW "check_family" s_check_family ["many", "family"] := fun _ _ _ _ _ _ us hl => match us, hl with | [_, _], _ => rfl
theorem bd_check_family (T : All C P K mg) (f : Addr) (cdv : Value) (A : Around) (outer : List PySem.Env) (s : Shared) (H : Hp) (E : XK) (hr : Room 2 (A.deeper (envOfC "check_family" (defScope s_check_family) s.heap.objs.size f cdv))) : SSs C (cxOf (L2.CX P w) P w K mg base ["many", "family", "k"] "check_family" (defScope s_check_family) f cdv A outer s H E) (fun cls d _ H => E cls d H) c_check_family (defBody s_check_family) :=
  (sss_cons (ss_if (st_w (sw_or (st_not (st_tru (se_cal (ok_is_count T) hr (sa_cons (se_var 0) sa_nil) takes1))) (sw_or1 (st_not (st_tru (se_isi (se_var 1) .tuple (by rfl) T.b_isinstance rfl (by rfl) T.b_tuple bt_tuple)))))) (sss_one (ss_rs T.e_InvalidFamily hr rfl takes1 se_non)) sss_nil)
  (sss_one (ss_for (vs := [2]) owns0 rfl (si_r1 (by rfl) T.b_range (sa_cons (se_b call_len_seq ser_len (by rfl) T.b_len bt_len (sa_cons (se_var 1) sa_nil)) sa_nil)) (pg_name (i := 2) sc_check_family.nd rfl (by first | exact Or.inl rfl | exact Or.inr rfl)) (bd_n (by decide)) (sss_one (ss_if (st_not (st_tru (se_cal (ok_is_part T) hr (sa_cons (se_ix (se_var 1) (se_var 2)) (sa_cons (se_var 0) sa_nil)) takes1))) (sss_one (ss_rs T.e_InvalidFamily hr rfl takes1 (se_var 2))) sss_nil)))))
theorem ok_check_family (T : All C P K mg) : Cal C P w K mg base 3 "check_family" 2 F_check_family := cal_mk T.t T.f_check_family sc_check_family bw_check_family fin_ok rfl rfl (bd_check_family T)
theorem sc_over_set : FnScope ["family", "gap", "row", "k", "done", "one"] ["family", "gap", "row"] (defScope s_over_set) := ⟨rfl, rfl, rfl, by decide +kernel, rfl, by decide +kernel, by decide +kernel⟩
theorem bw_over_set : BindW "over_set" s_over_set ["family", "gap", "row"] := fun _ _ _ _ _ _ us hl => match us, hl with | [_, _, _], _ => rfl
theorem bd_over_set (T : All C P K mg) (f : Addr) (cdv : Value) (A : Around) (outer : List PySem.Env) (s : Shared) (H : Hp) (E : XK) (hr : Room 0 (A.deeper (envOfC "over_set" (defScope s_over_set) s.heap.objs.size f cdv))) : SSs C (cxOf (L2.CX P w) P w K mg base ["family", "gap", "row", "k", "done", "one"] "over_set" (defScope s_over_set) f cdv A outer s H E) (fun cls d _ H => E cls d H) c_over_set (defBody s_over_set) :=
  (sss_cons (ss_for (vs := [3]) owns0 rfl (si_r1 (by rfl) T.b_range (sa_cons (se_b call_len_seq ser_len (by rfl) T.b_len bt_len (sa_cons (se_var 0) sa_nil)) sa_nil)) (pg_name (i := 3) sc_over_set.nd rfl (by first | exact Or.inl rfl | exact Or.inr rfl)) (bd_n (by decide)) (sss_cons (ss_setLc (i := 4) (own := [("one", 5)]) rfl sc_over_set.nd rfl rfl (by rfl) (si_v (se_ix (se_var 0) (se_var 3))) (blk_of (by kernel_rfl)) (fun _ _ _ _ _ => (pg_name (i := 5) sc_over_set.nd rfl (by first | exact Or.inl rfl | exact Or.inr rfl))) (bd_n (by decide)) (fun _ _ _ _ _ => (sts_one (st_cmp op_lt ser_lt (se_var 5) (se_b call_len_seq ser_len (by rfl) T.b_len bt_len (sa_cons (se_var 2) sa_nil)) (nomark _)))) (fun _ _ _ _ _ => (se_ix (se_var 2) (se_var 5))))
  (sss_one (ss_if (st_cmp op_gt ser_gt (se_op op_sub ser_sub (se_b call_abs ser_abs (by rfl) T.b_abs bt_abs (sa_cons (se_b (cr_sum rfl) ser_sum (by rfl) T.b_sum bt_sum (sa_cons (se_var 4) sa_nil)) sa_nil)) (se_op op_sub ser_sub (se_b call_len_seq ser_len (by rfl) T.b_len bt_len (sa_cons (se_ix (se_var 0) (se_var 3)) sa_nil)) (se_b call_len_seq ser_len (by rfl) T.b_len bt_len (sa_cons (se_var 4) sa_nil)))) (se_var 1) (nomark _)) (sss_one (ss_ret (se_var 3))) sss_nil))))
  (sss_one (ss_ret se_non)))
theorem ok_over_set (T : All C P K mg) : Cal C P w K mg base 1 "over_set" 3 F_over_set := cal_mk T.t T.f_over_set sc_over_set bw_over_set fin_ok rfl rfl (bd_over_set T)
theorem sc_within_from : FnScope ["many", "family", "gap", "row", "counts", "most", "over", "found", "sign", "told"] ["many", "family", "gap", "row", "counts", "most"] (defScope s_within_from) := ⟨rfl, rfl, rfl, by decide +kernel, rfl, by decide +kernel, by decide +kernel⟩
theorem bw_within_from : BindW "within_from" s_within_from ["many", "family", "gap", "row", "counts", "most"] := fun _ _ _ _ _ _ us hl => match us, hl with | [_, _, _, _, _, _], _ => rfl
theorem bd_within_from (T : All C P K mg) {Φ : Fn} {k : Nat} (hk0 : 1 ≤ k) (ih : Cal C P w K mg base k "within_from" 6 Φ) (f : Addr) (cdv : Value) (A : Around) (outer : List PySem.Env) (s : Shared) (H : Hp) (E : XK) (hr : Room k (A.deeper (envOfC "within_from" (defScope s_within_from) s.heap.objs.size f cdv))) : SSs C (cxOf (L2.CX P w) P w K mg base ["many", "family", "gap", "row", "counts", "most", "over", "found", "sign", "told"] "within_from" (defScope s_within_from) f cdv A outer s H E) (fun cls d _ H => E cls d H) (c_within_from Φ) (defBody s_within_from) :=
  (sss_cons (ss_augP ip_add ips_add (se_var 4) se_int se_int)
  (sss_cons (ss_if (st_cmp op_gt ser_gt (se_ix (se_var 4) se_int) (se_var 5) (nomark _)) (sss_one (ss_rs T.e_TooLarge hr rfl takes1 (se_var 5))) sss_nil)
  (sss_cons (ss_set (i := 6) sc_within_from.nd rfl (by first | exact Or.inl rfl | exact Or.inr rfl) (se_cal (ok_over_set T) hr (sa_cons (se_var 1) (sa_cons (se_var 2) (sa_cons (se_var 3) sa_nil))) takes1 (hk := by omega)))
  (sss_cons (ss_if (st_cmp op_isnot2 ser_isnot (se_var 6) se_non (nomark _)) (sss_one (ss_ret (se_tup (sa_cons se_str (sa_cons (se_tup (sa_cons se_str (sa_cons (se_var 6) sa_nil))) sa_nil))))) sss_nil)
  (sss_cons (ss_if (st_cmp (op_eq2 (u64 hr)) ser_eq (se_b call_len_seq ser_len (by rfl) T.b_len bt_len (sa_cons (se_var 3) sa_nil)) (se_var 0) (nomark _)) (sss_one (ss_ret (se_tup (sa_cons se_str (sa_cons (se_var 3) sa_nil))))) sss_nil)
  (sss_cons (ss_set (i := 7) sc_within_from.nd rfl (by first | exact Or.inl rfl | exact Or.inr rfl) (se_lstC sa_nil))
  (sss_cons (ss_for (vs := [8]) owns0 rfl (si_v (se_tup (sa_cons se_int (sa_cons (se_neg se_int) sa_nil)))) (pg_name (i := 8) sc_within_from.nd rfl (by first | exact Or.inl rfl | exact Or.inr rfl)) (bd_n (by decide)) (sss_cons (ss_set (i := 9) sc_within_from.nd rfl (by first | exact Or.inl rfl | exact Or.inr rfl) (se_cal ih hr (sa_cons (se_var 0) (sa_cons (se_var 1) (sa_cons (se_var 2) (sa_cons (se_op op_addA ser_add (se_var 3) (se_tup (sa_cons (se_var 8) sa_nil))) (sa_cons (se_var 4) (sa_cons (se_var 5) sa_nil)))))) takes1 (hk := Nat.le_refl _)))
  (sss_cons (ss_if (st_cmp (op_eq2 (u64 hr)) ser_eq (se_ix (se_var 9) se_int) se_str (nomark _)) (sss_one (ss_ret (se_var 9))) sss_nil)
  (sss_one (ss_app (se_var 7) (se_ix (se_var 9) se_int))))))
  (sss_one (ss_ret (se_tup (sa_cons se_str (sa_cons (se_tup (sa_cons se_str (sa_cons (se_b call_len_seq ser_len (by rfl) T.b_len bt_len (sa_cons (se_var 3) sa_nil)) (sa_cons (se_ix (se_var 7) se_int) (sa_cons (se_ix (se_var 7) se_int) sa_nil))))) sa_nil))))))))))))
theorem ok_within_from (T : All C P K mg) : ∀ d : Nat, Cal C P w K mg base (1 + d) "within_from" 6 (F_within_from d)
  | 0 => cal_none T.f_within_from bw_within_from rfl
  | d + 1 => cal_mk T.t T.f_within_from sc_within_from bw_within_from fin_ok rfl rfl (bd_within_from T (Nat.le_add_right _ _) (ok_within_from T d))
theorem sc_within_gap : FnScope ["many", "family", "gap", "most"] ["many", "family", "gap", "most"] (defScope s_within_gap) := ⟨rfl, rfl, rfl, by decide +kernel, rfl, by decide +kernel, by decide +kernel⟩
theorem bw_within_gap : BindW "within_gap" s_within_gap ["many", "family", "gap", "most"] := fun _ _ _ _ _ _ us hl => match us, hl with | [_, _, _, _], _ => rfl
theorem bd_within_gap (T : All C P K mg) (f : Addr) (cdv : Value) (A : Around) (outer : List PySem.Env) (s : Shared) (H : Hp) (E : XK) (hr : Room 31 (A.deeper (envOfC "within_gap" (defScope s_within_gap) s.heap.objs.size f cdv))) : SSs C (cxOf (L2.CX P w) P w K mg base ["many", "family", "gap", "most"] "within_gap" (defScope s_within_gap) f cdv A outer s H E) (fun cls d _ H => E cls d H) c_within_gap (defBody s_within_gap) :=
  (sss_cons (ss_expr (se_cal (ok_check_family T) hr (sa_cons (se_var 0) (sa_cons (se_var 1) sa_nil)) takes1))
  (sss_one (ss_ret (se_cal (ok_within_from T 30) hr (sa_cons (se_var 0) (sa_cons (se_var 1) (sa_cons (se_var 2) (sa_cons (se_tup sa_nil) (sa_cons (se_lstC (sa_cons se_int sa_nil)) (sa_cons (se_var 3) sa_nil)))))) takes1))))
theorem ok_within_gap (T : All C P K mg) : Cal C P w K mg base 32 "within_gap" 4 F_within_gap := cal_mk T.t T.f_within_gap sc_within_gap bw_within_gap fin_ok rfl rfl (bd_within_gap T)
theorem sc_least_gap : FnScope ["many", "family", "most", "gap", "told"] ["many", "family", "most"] (defScope s_least_gap) := ⟨rfl, rfl, rfl, by decide +kernel, rfl, by decide +kernel, by decide +kernel⟩
theorem bw_least_gap : BindW "least_gap" s_least_gap ["many", "family", "most"] := fun _ _ _ _ _ _ us hl => match us, hl with | [_, _, _], _ => rfl
theorem bd_least_gap (T : All C P K mg) (f : Addr) (cdv : Value) (A : Around) (outer : List PySem.Env) (s : Shared) (H : Hp) (E : XK) (hr : Room 32 (A.deeper (envOfC "least_gap" (defScope s_least_gap) s.heap.objs.size f cdv))) : SSs C (cxOf (L2.CX P w) P w K mg base ["many", "family", "most", "gap", "told"] "least_gap" (defScope s_least_gap) f cdv A outer s H E) (fun cls d _ H => E cls d H) c_least_gap (defBody s_least_gap) :=
  (sss_cons (ss_set (i := 3) sc_least_gap.nd rfl (by first | exact Or.inl rfl | exact Or.inr rfl) se_int)
  (sss_cons (ss_set (i := 4) sc_least_gap.nd rfl (by first | exact Or.inl rfl | exact Or.inr rfl) (se_cal (ok_within_gap T) hr (sa_cons (se_var 0) (sa_cons (se_var 1) (sa_cons (se_var 3) (sa_cons (se_var 2) sa_nil)))) takes1))
  (sss_cons (ss_wh owns0 (st_cmp (op_eq2 (u64 hr)) ser_eq (se_ix (se_var 4) se_int) se_str (nomark _)) (sss_cons (ss_aug (i := 3) ip_add ips_add sc_least_gap.nd rfl (by first | exact Or.inl rfl | exact Or.inr rfl) se_int)
  (sss_one (ss_set (i := 4) sc_least_gap.nd rfl (by first | exact Or.inl rfl | exact Or.inr rfl) (se_cal (ok_within_gap T) hr (sa_cons (se_var 0) (sa_cons (se_var 1) (sa_cons (se_var 3) (sa_cons (se_var 2) sa_nil)))) takes1)))))
  (sss_one (ss_ret (se_tup (sa_cons (se_var 3) (sa_cons (se_ix (se_var 4) se_int) sa_nil))))))))
theorem ok_least_gap (T : All C P K mg) : Cal C P w K mg base 33 "least_gap" 3 F_least_gap := cal_mk T.t T.f_least_gap sc_least_gap bw_least_gap fin_ok rfl rfl (bd_least_gap T)
theorem sc_step_sets : FnScope ["many", "step", "found", "start", "row"] ["many", "step"] (defScope s_step_sets) := ⟨rfl, rfl, rfl, by decide +kernel, rfl, by decide +kernel, by decide +kernel⟩
theorem bw_step_sets : BindW "step_sets" s_step_sets ["many", "step"] := fun _ _ _ _ _ _ us hl => match us, hl with | [_, _], _ => rfl
theorem bd_step_sets (T : All C P K mg) (f : Addr) (cdv : Value) (A : Around) (outer : List PySem.Env) (s : Shared) (H : Hp) (E : XK) (hr : Room 2 (A.deeper (envOfC "step_sets" (defScope s_step_sets) s.heap.objs.size f cdv))) : SSs C (cxOf (L2.CX P w) P w K mg base ["many", "step", "found", "start", "row"] "step_sets" (defScope s_step_sets) f cdv A outer s H E) (fun cls d _ H => E cls d H) c_step_sets (defBody s_step_sets) :=
  (sss_cons (ss_expr (se_cal (ok_check_length T) hr (sa_cons (se_var 0) sa_nil) takes1))
  (sss_cons (ss_if (st_w (sw_or (st_not (st_tru (se_cal (ok_is_count T) hr (sa_cons (se_var 1) sa_nil) takes1))) (sw_or1 (st_cmp op_lt ser_lt (se_var 1) se_int (nomark _))))) (sss_one (ss_rs T.e_InvalidRow hr rfl takes1 se_non)) sss_nil)
  (sss_cons (ss_set (i := 2) sc_step_sets.nd rfl (by first | exact Or.inl rfl | exact Or.inr rfl) (se_lstC sa_nil))
  (sss_cons (ss_for (vs := [3]) owns0 rfl (si_r1 (by rfl) T.b_range (sa_cons (se_var 0) sa_nil)) (pg_name (i := 3) sc_step_sets.nd rfl (by first | exact Or.inl rfl | exact Or.inr rfl)) (bd_n (by decide)) (sss_cons (ss_set (i := 4) sc_step_sets.nd rfl (by first | exact Or.inl rfl | exact Or.inr rfl) (se_tup (sa_cons (se_var 3) sa_nil)))
  (sss_one (ss_wh owns0 (st_cmp op_lt ser_lt (se_op op_addA ser_add (se_ix (se_var 4) (se_neg se_int)) (se_var 1)) (se_var 0) (nomark _)) (sss_cons (ss_set (i := 4) sc_step_sets.nd rfl (by first | exact Or.inl rfl | exact Or.inr rfl) (se_op op_addA ser_add (se_var 4) (se_tup (sa_cons (se_op op_addA ser_add (se_ix (se_var 4) (se_neg se_int)) (se_var 1)) sa_nil))))
  (sss_one (ss_app (se_var 2) (se_var 4))))))))
  (sss_one (ss_ret (se_ty call_tuple_of ser_tup (by rfl) T.b_tuple bt_tuple (sa_cons (se_var 2) sa_nil))))))))
theorem ok_step_sets (T : All C P K mg) : Cal C P w K mg base 3 "step_sets" 2 F_step_sets := cal_mk T.t T.f_step_sets sc_step_sets bw_step_sets fin_ok rfl rfl (bd_step_sets T)
theorem sc_all_step_sets : FnScope ["many", "found", "step"] ["many"] (defScope s_all_step_sets) := ⟨rfl, rfl, rfl, by decide +kernel, rfl, by decide +kernel, by decide +kernel⟩
theorem bw_all_step_sets : BindW "all_step_sets" s_all_step_sets ["many"] := fun _ _ _ _ _ _ us hl => match us, hl with | [_], _ => rfl
theorem bd_all_step_sets (T : All C P K mg) (f : Addr) (cdv : Value) (A : Around) (outer : List PySem.Env) (s : Shared) (H : Hp) (E : XK) (hr : Room 3 (A.deeper (envOfC "all_step_sets" (defScope s_all_step_sets) s.heap.objs.size f cdv))) : SSs C (cxOf (L2.CX P w) P w K mg base ["many", "found", "step"] "all_step_sets" (defScope s_all_step_sets) f cdv A outer s H E) (fun cls d _ H => E cls d H) c_all_step_sets (defBody s_all_step_sets) :=
  (sss_cons (ss_expr (se_cal (ok_check_length T) hr (sa_cons (se_var 0) sa_nil) takes1))
  (sss_cons (ss_set (i := 1) sc_all_step_sets.nd rfl (by first | exact Or.inl rfl | exact Or.inr rfl) (se_tup sa_nil))
  (sss_cons (ss_for (vs := [2]) owns0 rfl (si_r2 (by rfl) T.b_range (sa_cons se_int (sa_cons (se_b (call_max2 rfl) ser_max2 (by rfl) T.b_max bt_max (sa_cons (se_var 0) (sa_cons se_int sa_nil))) sa_nil))) (pg_name (i := 2) sc_all_step_sets.nd rfl (by first | exact Or.inl rfl | exact Or.inr rfl)) (bd_n (by decide)) (sss_one (ss_set (i := 1) sc_all_step_sets.nd rfl (by first | exact Or.inl rfl | exact Or.inr rfl) (se_op op_addA ser_add (se_var 1) (se_cal (ok_step_sets T) hr (sa_cons (se_var 0) (sa_cons (se_var 2) sa_nil)) takes1)))))
  (sss_one (ss_ret (se_var 1))))))
theorem ok_all_step_sets (T : All C P K mg) : Cal C P w K mg base 4 "all_step_sets" 1 F_all_step_sets := cal_mk T.t T.f_all_step_sets sc_all_step_sets bw_all_step_sets fin_ok rfl rfl (bd_all_step_sets T)
theorem sc_least_step_gap : FnScope ["many", "most"] ["many", "most"] (defScope s_least_step_gap) := ⟨rfl, rfl, rfl, by decide +kernel, rfl, by decide +kernel, by decide +kernel⟩
theorem bw_least_step_gap : BindW "least_step_gap" s_least_step_gap ["many", "most"] := fun _ _ _ _ _ _ us hl => match us, hl with | [_, _], _ => rfl
theorem bd_least_step_gap (T : All C P K mg) (f : Addr) (cdv : Value) (A : Around) (outer : List PySem.Env) (s : Shared) (H : Hp) (E : XK) (hr : Room 33 (A.deeper (envOfC "least_step_gap" (defScope s_least_step_gap) s.heap.objs.size f cdv))) : SSs C (cxOf (L2.CX P w) P w K mg base ["many", "most"] "least_step_gap" (defScope s_least_step_gap) f cdv A outer s H E) (fun cls d _ H => E cls d H) c_least_step_gap (defBody s_least_step_gap) :=
  (sss_one (ss_ret (se_cal (ok_least_gap T) hr (sa_cons (se_var 0) (sa_cons (se_cal (ok_all_step_sets T) hr (sa_cons (se_var 0) sa_nil) takes1) (sa_cons (se_var 1) sa_nil))) takes1)))
theorem ok_least_step_gap (T : All C P K mg) : Cal C P w K mg base 34 "least_step_gap" 2 F_least_step_gap := cal_mk T.t T.f_least_step_gap sc_least_step_gap bw_least_step_gap fin_ok rfl rfl (bd_least_step_gap T)
theorem sc_span_sets : FnScope ["many", "a", "b"] ["many"] (defScope s_span_sets) := ⟨rfl, rfl, rfl, by decide +kernel, rfl, by decide +kernel, by decide +kernel⟩
theorem bw_span_sets : BindW "span_sets" s_span_sets ["many"] := fun _ _ _ _ _ _ us hl => match us, hl with | [_], _ => rfl
theorem bd_span_sets (T : All C P K mg) (f : Addr) (cdv : Value) (A : Around) (outer : List PySem.Env) (s : Shared) (H : Hp) (E : XK) (hr : Room 2 (A.deeper (envOfC "span_sets" (defScope s_span_sets) s.heap.objs.size f cdv))) : SSs C (cxOf (L2.CX P w) P w K mg base ["many", "a", "b"] "span_sets" (defScope s_span_sets) f cdv A outer s H E) (fun cls d _ H => E cls d H) c_span_sets (defBody s_span_sets) :=
  (sss_cons (ss_expr (se_cal (ok_check_length T) hr (sa_cons (se_var 0) sa_nil) takes1))
  (sss_one (ss_ret (se_ty call_tuple_of ser_tup (by rfl) T.b_tuple bt_tuple (sa_cons (se_lc2 (own := [("a", 1), ("b", 2)]) (vs1 := [2]) rfl sc_span_sets.nd (si_r1 (by rfl) T.b_range (sa_cons (se_var 0) sa_nil)) (blk_of (by kernel_rfl)) (by decide) (fun _ _ _ _ _ => (pg_name (i := 1) sc_span_sets.nd rfl (by first | exact Or.inl rfl | exact Or.inr rfl))) (bd_n (by decide)) (fun _ _ _ _ _ => sts_nil) (fun _ _ _ _ _ => (si_r2 (by rfl) T.b_range (sa_cons (se_op op_addA ser_add (se_var 1) se_int) (sa_cons (se_op op_addA ser_add (se_var 0) se_int) sa_nil)))) (fun _ _ _ _ _ => (pg_name (i := 2) sc_span_sets.nd rfl (by first | exact Or.inl rfl | exact Or.inr rfl))) (bd_n (by decide)) (fun _ _ _ _ _ => sts_nil) (fun _ _ _ _ _ => (se_tupRg2 rfl (by rfl) T.b_tuple (by rfl) T.b_range (se_var 1) (se_var 2)))) sa_nil)))))
theorem ok_span_sets (T : All C P K mg) : Cal C P w K mg base 3 "span_sets" 1 F_span_sets := cal_mk T.t T.f_span_sets sc_span_sets bw_span_sets fin_ok rfl rfl (bd_span_sets T)
theorem sc_last_fits : FnScope ["signs", "gap", "many", "step", "number"] ["signs", "gap"] (defScope s_last_fits) := ⟨rfl, rfl, rfl, by decide +kernel, rfl, by decide +kernel, by decide +kernel⟩
theorem bw_last_fits : BindW "last_fits" s_last_fits ["signs", "gap"] := fun _ _ _ _ _ _ us hl => match us, hl with | [_, _], _ => rfl
theorem bd_last_fits (T : All C P K mg) (f : Addr) (cdv : Value) (A : Around) (outer : List PySem.Env) (s : Shared) (H : Hp) (E : XK) (hr : Room 0 (A.deeper (envOfC "last_fits" (defScope s_last_fits) s.heap.objs.size f cdv))) : SSs C (cxOf (L2.CX P w) P w K mg base ["signs", "gap", "many", "step", "number"] "last_fits" (defScope s_last_fits) f cdv A outer s H E) (fun cls d _ H => E cls d H) c_last_fits (defBody s_last_fits) :=
  (sss_cons (ss_set (i := 2) sc_last_fits.nd rfl (by first | exact Or.inl rfl | exact Or.inr rfl) (se_b call_len_seq ser_len (by rfl) T.b_len bt_len (sa_cons (se_var 0) sa_nil)))
  (sss_cons (ss_for (vs := [3]) owns0 rfl (si_r2 (by rfl) T.b_range (sa_cons se_int (sa_cons (se_op op_addA ser_add (se_var 2) se_int) sa_nil))) (pg_name (i := 3) sc_last_fits.nd rfl (by first | exact Or.inl rfl | exact Or.inr rfl)) (bd_n (by decide)) (sss_one (ss_if (st_cmp (op_eq2 (u64 hr)) ser_eq (se_op op_mod ser_mod (se_ty call_int1 ser_int (by rfl) T.b_int bt_int (sa_cons (se_var 2) sa_nil)) (se_var 3)) se_int (nomark _)) (sss_one (ss_if (st_cmp op_gt ser_gt (se_b call_abs ser_abs (by rfl) T.b_abs bt_abs (sa_cons (se_b (cr_sum rfl) ser_sum (by rfl) T.b_sum bt_sum (sa_cons (se_lc (own := [("number", 4)]) rfl sc_last_fits.nd (si_r3 (by rfl) T.b_range (sa_cons (se_var 3) (sa_cons (se_op op_addA ser_add (se_var 2) se_int) (sa_cons (se_var 3) sa_nil)))) (blk_of (by kernel_rfl)) (fun _ _ _ _ _ => (pg_name (i := 4) sc_last_fits.nd rfl (by first | exact Or.inl rfl | exact Or.inr rfl))) (bd_n (by decide)) (fun _ _ _ _ _ => sts_nil) (fun _ _ _ _ _ => (se_ix (se_var 0) (se_op op_sub ser_sub (se_var 4) se_int)))) sa_nil)) sa_nil)) (se_var 1) (nomark _)) (sss_one (ss_ret se_bl)) sss_nil)) sss_nil)))
  (sss_one (ss_ret se_bl))))
theorem ok_last_fits (T : All C P K mg) : Cal C P w K mg base 1 "last_fits" 2 F_last_fits := cal_mk T.t T.f_last_fits sc_last_fits bw_last_fits fin_ok rfl rfl (bd_last_fits T)
theorem sc_longest_multiples : FnScope ["gap", "most", "best", "rows", "row", "sign"] ["gap", "most"] (defScope s_longest_multiples) := ⟨rfl, rfl, rfl, by decide +kernel, rfl, by decide +kernel, by decide +kernel⟩
theorem bw_longest_multiples : BindW "longest_multiples" s_longest_multiples ["gap", "most"] := fun _ _ _ _ _ _ us hl => match us, hl with | [_, _], _ => rfl
theorem bd_longest_multiples (T : All C P K mg) (f : Addr) (cdv : Value) (A : Around) (outer : List PySem.Env) (s : Shared) (H : Hp) (E : XK) (hr : Room 2 (A.deeper (envOfC "longest_multiples" (defScope s_longest_multiples) s.heap.objs.size f cdv))) : SSs C (cxOf (L2.CX P w) P w K mg base ["gap", "most", "best", "rows", "row", "sign"] "longest_multiples" (defScope s_longest_multiples) f cdv A outer s H E) (fun cls d _ H => E cls d H) c_longest_multiples (defBody s_longest_multiples) :=
  (sss_cons (ss_expr (se_cal (ok_check_length T) hr (sa_cons (se_var 0) sa_nil) takes1))
  (sss_cons (ss_expr (se_cal (ok_check_length T) hr (sa_cons (se_var 1) sa_nil) takes1))
  (sss_cons (ss_par (i := 2) (j := 3) rfl sc_longest_multiples.nd rfl rfl (by decide) rfl rfl (se_tup sa_nil) (se_lstC (sa_cons (se_tup sa_nil) sa_nil)) (by rfl))
  (sss_cons (ss_wh owns0 (st_w (sw_and (st_cmp op_gt ser_gt (se_b call_len_seq ser_len (by rfl) T.b_len bt_len (sa_cons (se_var 3) sa_nil)) se_int (nomark _)) (sw_and1 (st_cmp op_lt ser_lt (se_b call_len_seq ser_len (by rfl) T.b_len bt_len (sa_cons (se_var 2) sa_nil)) (se_var 1) (nomark _))))) (sss_cons (ss_set (i := 4) sc_longest_multiples.nd rfl (by first | exact Or.inl rfl | exact Or.inr rfl) (se_pop (se_var 3)))
  (sss_cons (ss_set (i := 2) sc_longest_multiples.nd rfl (by first | exact Or.inl rfl | exact Or.inr rfl) (se_if (st_cmp op_gt ser_gt (se_b call_len_seq ser_len (by rfl) T.b_len bt_len (sa_cons (se_var 4) sa_nil)) (se_b call_len_seq ser_len (by rfl) T.b_len bt_len (sa_cons (se_var 2) sa_nil)) (nomark _)) (se_var 4) (se_var 2)))
  (sss_one (ss_if (st_cmp op_lt ser_lt (se_b call_len_seq ser_len (by rfl) T.b_len bt_len (sa_cons (se_var 4) sa_nil)) (se_var 1) (nomark _)) (sss_one (ss_ext (se_var 3) (se_lc (own := [("sign", 5)]) rfl sc_longest_multiples.nd (si_v (se_tup (sa_cons (se_neg se_int) (sa_cons se_int sa_nil)))) (blk_of (by kernel_rfl)) (fun _ _ _ _ _ => (pg_name (i := 5) sc_longest_multiples.nd rfl (by first | exact Or.inl rfl | exact Or.inr rfl))) (bd_n (by decide)) (fun _ _ _ _ _ => (sts_one (st_tru (se_cal (ok_last_fits T) hr (sa_cons (se_op op_addA ser_add (se_var 4) (se_tup (sa_cons (se_var 5) sa_nil))) (sa_cons (se_var 0) sa_nil)) takesF)))) (fun _ _ _ _ _ => (se_op op_addA ser_add (se_var 4) (se_tup (sa_cons (se_var 5) sa_nil))))))) sss_nil)))))
  (sss_one (ss_ret (se_tup (sa_cons (se_b call_len_seq ser_len (by rfl) T.b_len bt_len (sa_cons (se_var 2) sa_nil)) (sa_cons (se_var 2) sa_nil)))))))))
theorem ok_longest_multiples (T : All C P K mg) : Cal C P w K mg base 3 "longest_multiples" 2 F_longest_multiples := cal_mk T.t T.f_longest_multiples sc_longest_multiples bw_longest_multiples fin_ok rfl rfl (bd_longest_multiples T)
theorem sc_threes_sign : FnScope ["number"] ["number"] (defScope s_threes_sign) := ⟨rfl, rfl, rfl, by decide +kernel, rfl, by decide +kernel, by decide +kernel⟩
theorem bw_threes_sign : BindW "threes_sign" s_threes_sign ["number"] := fun _ _ _ _ _ _ us hl => match us, hl with | [_], _ => rfl
theorem bd_threes_sign (T : All C P K mg) (f : Addr) (cdv : Value) (A : Around) (outer : List PySem.Env) (s : Shared) (H : Hp) (E : XK) (hr : Room 0 (A.deeper (envOfC "threes_sign" (defScope s_threes_sign) s.heap.objs.size f cdv))) : SSs C (cxOf (L2.CX P w) P w K mg base ["number"] "threes_sign" (defScope s_threes_sign) f cdv A outer s H E) (fun cls d _ H => E cls d H) c_threes_sign (defBody s_threes_sign) :=
  (sss_cons (ss_wh owns0 (st_cmp (op_eq2 (u64 hr)) ser_eq (se_op op_mod ser_mod (se_ty call_int1 ser_int (by rfl) T.b_int bt_int (sa_cons (se_var 0) sa_nil)) se_int) se_int (nomark _)) (sss_one (ss_set (i := 0) sc_threes_sign.nd rfl (by first | exact Or.inl rfl | exact Or.inr rfl) (se_op op_divN ser_divN (se_var 0) se_int))))
  (sss_one (ss_ret (se_if (st_cmp (op_eq2 (u64 hr)) ser_eq (se_op op_mod ser_mod (se_ty call_int1 ser_int (by rfl) T.b_int bt_int (sa_cons (se_var 0) sa_nil)) se_int) se_int (nomark _)) se_int (se_neg se_int)))))
theorem ok_threes_sign (T : All C P K mg) : Cal C P w K mg base 1 "threes_sign" 1 F_threes_sign := cal_mk T.t T.f_threes_sign sc_threes_sign bw_threes_sign fin_ok rfl rfl (bd_threes_sign T)
theorem sc_threes_signs : FnScope ["many", "number"] ["many"] (defScope s_threes_signs) := ⟨rfl, rfl, rfl, by decide +kernel, rfl, by decide +kernel, by decide +kernel⟩
theorem bw_threes_signs : BindW "threes_signs" s_threes_signs ["many"] := fun _ _ _ _ _ _ us hl => match us, hl with | [_], _ => rfl
theorem bd_threes_signs (T : All C P K mg) (f : Addr) (cdv : Value) (A : Around) (outer : List PySem.Env) (s : Shared) (H : Hp) (E : XK) (hr : Room 2 (A.deeper (envOfC "threes_signs" (defScope s_threes_signs) s.heap.objs.size f cdv))) : SSs C (cxOf (L2.CX P w) P w K mg base ["many", "number"] "threes_signs" (defScope s_threes_signs) f cdv A outer s H E) (fun cls d _ H => E cls d H) c_threes_signs (defBody s_threes_signs) :=
  (sss_cons (ss_expr (se_cal (ok_check_length T) hr (sa_cons (se_var 0) sa_nil) takes1))
  (sss_one (ss_ret (se_ty call_tuple_of ser_tup (by rfl) T.b_tuple bt_tuple (sa_cons (se_lc (own := [("number", 1)]) rfl sc_threes_signs.nd (si_r2 (by rfl) T.b_range (sa_cons se_int (sa_cons (se_op op_addA ser_add (se_var 0) se_int) sa_nil))) (blk_of (by kernel_rfl)) (fun _ _ _ _ _ => (pg_name (i := 1) sc_threes_signs.nd rfl (by first | exact Or.inl rfl | exact Or.inr rfl))) (bd_n (by decide)) (fun _ _ _ _ _ => sts_nil) (fun _ _ _ _ _ => (se_cal (ok_threes_sign T) hr (sa_cons (se_var 1) sa_nil) takesF))) sa_nil)))))
theorem ok_threes_signs (T : All C P K mg) : Cal C P w K mg base 3 "threes_signs" 1 F_threes_signs := cal_mk T.t T.f_threes_signs sc_threes_signs bw_threes_signs fin_ok rfl rfl (bd_threes_signs T)
theorem sc_threes_sum : FnScope ["many", "found"] ["many"] (defScope s_threes_sum) := ⟨rfl, rfl, rfl, by decide +kernel, rfl, by decide +kernel, by decide +kernel⟩
theorem bw_threes_sum : BindW "threes_sum" s_threes_sum ["many"] := fun _ _ _ _ _ _ us hl => match us, hl with | [_], _ => rfl
theorem bd_threes_sum (T : All C P K mg) (f : Addr) (cdv : Value) (A : Around) (outer : List PySem.Env) (s : Shared) (H : Hp) (E : XK) (hr : Room 2 (A.deeper (envOfC "threes_sum" (defScope s_threes_sum) s.heap.objs.size f cdv))) : SSs C (cxOf (L2.CX P w) P w K mg base ["many", "found"] "threes_sum" (defScope s_threes_sum) f cdv A outer s H E) (fun cls d _ H => E cls d H) c_threes_sum (defBody s_threes_sum) :=
  (sss_cons (ss_expr (se_cal (ok_check_length T) hr (sa_cons (se_var 0) sa_nil) takes1))
  (sss_cons (ss_set (i := 1) sc_threes_sum.nd rfl (by first | exact Or.inl rfl | exact Or.inr rfl) se_int)
  (sss_cons (ss_wh owns0 (st_cmp op_gt ser_gt (se_var 0) se_int (nomark _)) (sss_cons (ss_aug (i := 1) ip_add ips_add sc_threes_sum.nd rfl (by first | exact Or.inl rfl | exact Or.inr rfl) (se_ty call_int1 ser_int (by rfl) T.b_int bt_int (sa_cons (se_cmp (op_eq2 (u64 hr)) ser_eq (se_op op_mod ser_mod (se_ty call_int1 ser_int (by rfl) T.b_int bt_int (sa_cons (se_var 0) sa_nil)) se_int) se_int (nomark _)) sa_nil)))
  (sss_one (ss_set (i := 0) sc_threes_sum.nd rfl (by first | exact Or.inl rfl | exact Or.inr rfl) (se_op op_divN ser_divN (se_var 0) se_int)))))
  (sss_one (ss_ret (se_var 1))))))
theorem ok_threes_sum (T : All C P K mg) : Cal C P w K mg base 3 "threes_sum" 1 F_threes_sum := cal_mk T.t T.f_threes_sum sc_threes_sum bw_threes_sum fin_ok rfl rfl (bd_threes_sum T)
theorem sc__law_refused : FnScope ["kind", "value", "error"] ["kind", "value"] (defScope s__law_refused) := ⟨rfl, rfl, rfl, by decide +kernel, rfl, by decide +kernel, by decide +kernel⟩
theorem bw__law_refused : BindW "_law_refused" s__law_refused ["kind", "value"] := fun _ _ _ _ _ _ us hl => match us, hl with | [_, _], _ => rfl
theorem bd__law_refused (T : All C P K mg) (f : Addr) (cdv : Value) (A : Around) (outer : List PySem.Env) (s : Shared) (H : Hp) (E : XK) (hr : Room 4 (A.deeper (envOfC "_law_refused" (defScope s__law_refused) s.heap.objs.size f cdv))) : SSs C (cxOf (L2.CX P w) P w K mg base ["kind", "value", "error"] "_law_refused" (defScope s__law_refused) f cdv A outer s H E) (fun cls d _ H => E cls d H) c__law_refused (defBody s__law_refused) :=
  (sss_one (ss_try rfl rfl sc__law_refused.nd takes1 (fun W' pn xe tk' ho => (sss_cons (ss_if (st_cmp (op_eq2 (u64 hr)) ser_eq (se_var 0) se_int (nomark _)) (sss_one (ss_expr (se_cal (ok_span_sets T) hr (sa_cons (se_var 1) sa_nil) tk'))) (sss_one (ss_if (st_cmp (op_eq2 (u64 hr)) ser_eq (se_var 0) se_int (nomark _)) (sss_one (ss_expr (se_cal (ok_step_sets T) hr (sa_cons (se_var 1) (sa_cons se_int sa_nil)) tk'))) (sss_one (ss_if (st_cmp (op_eq2 (u64 hr)) ser_eq (se_var 0) se_int (nomark _)) (sss_one (ss_expr (se_cal (ok_all_step_sets T) hr (sa_cons (se_var 1) sa_nil) tk'))) (sss_one (ss_if (st_cmp (op_eq2 (u64 hr)) ser_eq (se_var 0) se_int (nomark _)) (sss_one (ss_expr (se_cal (ok_multiple_sets T) hr (sa_cons (se_var 1) sa_nil) tk'))) (sss_one (ss_if (st_cmp (op_eq2 (u64 hr)) ser_eq (se_var 0) se_int (nomark _)) (sss_one (ss_expr (se_cal (ok_longest_multiples T) hr (sa_cons (se_var 1) (sa_cons se_int sa_nil)) tk'))) (sss_one (ss_if (st_cmp (op_eq2 (u64 hr)) ser_eq (se_var 0) se_int (nomark _)) (sss_one (ss_expr (se_cal (ok_longest_multiples T) hr (sa_cons se_int (sa_cons (se_var 1) sa_nil)) tk'))) (sss_one (ss_if (st_cmp (op_eq2 (u64 hr)) ser_eq (se_var 0) se_int (nomark _)) (sss_one (ss_expr (se_cal (ok_threes_signs T) hr (sa_cons (se_var 1) sa_nil) tk'))) (sss_one (ss_if (st_cmp (op_eq2 (u64 hr)) ser_eq (se_var 0) se_int (nomark _)) (sss_one (ss_expr (se_cal (ok_threes_sum T) hr (sa_cons (se_var 1) sa_nil) tk'))) (sss_one (ss_expr (se_cal (ok_step_sets T) hr (sa_cons se_int (sa_cons (se_var 1) sa_nil)) tk'))))))))))))))))))
  (sss_one (ss_ret se_str)))) (sh_as T.c_InvalidRow (fun a oe A dd cn pl pn hca z hf => (sss_one (ss_ret (se_place (T.t.xf _ _ hca) z hf)))) .nil)))
theorem ok__law_refused (T : All C P K mg) : Cal C P w K mg base 5 "_law_refused" 2 F__law_refused := cal_mk T.t T.f__law_refused sc__law_refused bw__law_refused fin_ok rfl rfl (bd__law_refused T)
theorem sc__law_steps : FnScope ["many", "step", "found", "start", "size", "k"] ["many", "step"] (defScope s__law_steps) := ⟨rfl, rfl, rfl, by decide +kernel, rfl, by decide +kernel, by decide +kernel⟩
theorem bw__law_steps : BindW "_law_steps" s__law_steps ["many", "step"] := fun _ _ _ _ _ _ us hl => match us, hl with | [_, _], _ => rfl
theorem bd__law_steps (T : All C P K mg) (f : Addr) (cdv : Value) (A : Around) (outer : List PySem.Env) (s : Shared) (H : Hp) (E : XK) (hr : Room 0 (A.deeper (envOfC "_law_steps" (defScope s__law_steps) s.heap.objs.size f cdv))) : SSs C (cxOf (L2.CX P w) P w K mg base ["many", "step", "found", "start", "size", "k"] "_law_steps" (defScope s__law_steps) f cdv A outer s H E) (fun cls d _ H => E cls d H) c__law_steps (defBody s__law_steps) :=
  (sss_cons (ss_set (i := 2) sc__law_steps.nd rfl (by first | exact Or.inl rfl | exact Or.inr rfl) (se_lstC sa_nil))
  (sss_cons (ss_for (vs := [3]) owns0 rfl (si_r1 (by rfl) T.b_range (sa_cons (se_var 0) sa_nil)) (pg_name (i := 3) sc__law_steps.nd rfl (by first | exact Or.inl rfl | exact Or.inr rfl)) (bd_n (by decide)) (sss_cons (ss_set (i := 4) sc__law_steps.nd rfl (by first | exact Or.inl rfl | exact Or.inr rfl) se_int)
  (sss_one (ss_wh owns0 (st_cmp op_lt ser_lt (se_op op_addA ser_add (se_var 3) (se_op op_mulB ser_mulB (se_var 1) (se_op op_sub ser_sub (se_var 4) se_int))) (se_var 0) (nomark _)) (sss_cons (ss_app (se_var 2) (se_ty call_tuple_of ser_tup (by rfl) T.b_tuple bt_tuple (sa_cons (se_lc (own := [("k", 5)]) rfl sc__law_steps.nd (si_r1 (by rfl) T.b_range (sa_cons (se_var 4) sa_nil)) (blk_of (by kernel_rfl)) (fun _ _ _ _ _ => (pg_name (i := 5) sc__law_steps.nd rfl (by first | exact Or.inl rfl | exact Or.inr rfl))) (bd_n (by decide)) (fun _ _ _ _ _ => sts_nil) (fun _ _ _ _ _ => (se_op op_addA ser_add (se_var 3) (se_op op_mulB ser_mulB (se_var 1) (se_var 5))))) sa_nil)))
  (sss_one (ss_set (i := 4) sc__law_steps.nd rfl (by first | exact Or.inl rfl | exact Or.inr rfl) (se_op op_addA ser_add (se_var 4) se_int))))))))
  (sss_one (ss_ret (se_var 2)))))
theorem ok__law_steps (T : All C P K mg) : Cal C P w K mg base 1 "_law_steps" 2 F__law_steps := cal_mk T.t T.f__law_steps sc__law_steps bw__law_steps fin_ok rfl rfl (bd__law_steps T)
theorem sc__law_multiples : FnScope ["many", "found", "step", "size", "k"] ["many"] (defScope s__law_multiples) := ⟨rfl, rfl, rfl, by decide +kernel, rfl, by decide +kernel, by decide +kernel⟩
theorem bw__law_multiples : BindW "_law_multiples" s__law_multiples ["many"] := fun _ _ _ _ _ _ us hl => match us, hl with | [_], _ => rfl
theorem bd__law_multiples (T : All C P K mg) (f : Addr) (cdv : Value) (A : Around) (outer : List PySem.Env) (s : Shared) (H : Hp) (E : XK) (hr : Room 0 (A.deeper (envOfC "_law_multiples" (defScope s__law_multiples) s.heap.objs.size f cdv))) : SSs C (cxOf (L2.CX P w) P w K mg base ["many", "found", "step", "size", "k"] "_law_multiples" (defScope s__law_multiples) f cdv A outer s H E) (fun cls d _ H => E cls d H) c__law_multiples (defBody s__law_multiples) :=
  (sss_cons (ss_set (i := 1) sc__law_multiples.nd rfl (by first | exact Or.inl rfl | exact Or.inr rfl) (se_lst sa_nil))
  (sss_cons (ss_for (vs := [2]) owns0 rfl (si_r2 (by rfl) T.b_range (sa_cons se_int (sa_cons (se_op op_addA ser_add (se_var 0) se_int) sa_nil))) (pg_name (i := 2) sc__law_multiples.nd rfl (by first | exact Or.inl rfl | exact Or.inr rfl)) (bd_n (by decide)) (sss_one (ss_set (i := 1) sc__law_multiples.nd rfl (by first | exact Or.inl rfl | exact Or.inr rfl) (se_op op_addA ser_add (se_var 1) (se_lc (own := [("size", 3)]) rfl sc__law_multiples.nd (si_r2 (by rfl) T.b_range (sa_cons se_int (sa_cons (se_op op_addA ser_add (se_op op_divN ser_divN (se_var 0) (se_var 2)) se_int) sa_nil))) (blk_of (by kernel_rfl)) (fun _ _ _ _ _ => (pg_name (i := 3) sc__law_multiples.nd rfl (by first | exact Or.inl rfl | exact Or.inr rfl))) (bd_n (by decide)) (fun _ _ _ _ _ => sts_nil) (fun _ _ _ _ _ => (se_ty call_tuple_of ser_tup (by rfl) T.b_tuple bt_tuple (sa_cons (se_lc (own := [("k", 4)]) rfl sc__law_multiples.nd (si_r2 (by rfl) T.b_range (sa_cons se_int (sa_cons (se_op op_addA ser_add (se_var 3) se_int) sa_nil))) (blk_of (by kernel_rfl)) (fun _ _ _ _ _ => (pg_name (i := 4) sc__law_multiples.nd rfl (by first | exact Or.inl rfl | exact Or.inr rfl))) (bd_n (by decide)) (fun _ _ _ _ _ => sts_nil) (fun _ _ _ _ _ => (se_op op_sub ser_sub (se_op op_mulB ser_mulB (se_var 2) (se_var 4)) se_int))) sa_nil))))))))
  (sss_one (ss_ret (se_var 1)))))
theorem ok__law_multiples (T : All C P K mg) : Cal C P w K mg base 1 "_law_multiples" 1 F__law_multiples := cal_mk T.t T.f__law_multiples sc__law_multiples bw__law_multiples fin_ok rfl rfl (bd__law_multiples T)
theorem sc__law_longest : FnScope ["gap", "most", "rows", "many", "parts", "longer", "row", "part", "sign"] ["gap", "most"] (defScope s__law_longest) := ⟨rfl, rfl, rfl, by decide +kernel, rfl, by decide +kernel, by decide +kernel⟩
theorem bw__law_longest : BindW "_law_longest" s__law_longest ["gap", "most"] := fun _ _ _ _ _ _ us hl => match us, hl with | [_, _], _ => rfl
theorem bd__law_longest (T : All C P K mg) (f : Addr) (cdv : Value) (A : Around) (outer : List PySem.Env) (s : Shared) (H : Hp) (E : XK) (hr : Room 1 (A.deeper (envOfC "_law_longest" (defScope s__law_longest) s.heap.objs.size f cdv))) : SSs C (cxOf (L2.CX P w) P w K mg base ["gap", "most", "rows", "many", "parts", "longer", "row", "part", "sign"] "_law_longest" (defScope s__law_longest) f cdv A outer s H E) (fun cls d _ H => E cls d H) c__law_longest (defBody s__law_longest) :=
  (sss_cons (ss_set (i := 2) sc__law_longest.nd rfl (by first | exact Or.inl rfl | exact Or.inr rfl) (se_lst (sa_cons (se_tup sa_nil) sa_nil)))
  (sss_cons (ss_for (vs := [3]) owns0 rfl (si_r2 (by rfl) T.b_range (sa_cons se_int (sa_cons (se_op op_addA ser_add (se_var 1) se_int) sa_nil))) (pg_name (i := 3) sc__law_longest.nd rfl (by first | exact Or.inl rfl | exact Or.inr rfl)) (bd_n (by decide)) (sss_cons (ss_set (i := 4) sc__law_longest.nd rfl (by first | exact Or.inl rfl | exact Or.inr rfl) (se_lc (own := [("part", 7)]) rfl sc__law_longest.nd (si_v (se_cal (ok__law_multiples T) hr (sa_cons (se_var 3) sa_nil) takes1)) (blk_of (by kernel_rfl)) (fun _ _ _ _ _ => (pg_name (i := 7) sc__law_longest.nd rfl (by first | exact Or.inl rfl | exact Or.inr rfl))) (bd_n (by decide)) (fun _ _ _ _ _ => (sts_one (st_cmp (op_eq2 (u64 hr)) ser_eq (se_ix (se_var 7) (se_neg se_int)) (se_op op_sub ser_sub (se_var 3) se_int) (nomark _)))) (fun _ _ _ _ _ => (se_var 7))))
  (sss_cons (ss_set (i := 5) sc__law_longest.nd rfl (by first | exact Or.inl rfl | exact Or.inr rfl) (se_lst sa_nil))
  (sss_cons (ss_for (vs := [6]) owns0 rfl (si_v (se_var 2)) (pg_name (i := 6) sc__law_longest.nd rfl (by first | exact Or.inl rfl | exact Or.inr rfl)) (bd_n (by decide)) (sss_one (ss_set (i := 5) sc__law_longest.nd rfl (by first | exact Or.inl rfl | exact Or.inr rfl) (se_op op_addA ser_add (se_var 5) (se_lc (own := [("sign", 8)]) rfl sc__law_longest.nd (si_v (se_tup (sa_cons se_int (sa_cons (se_op op_sub ser_sub se_int se_int) sa_nil)))) (blk_of (by kernel_rfl)) (fun _ _ _ _ _ => (pg_name (i := 8) sc__law_longest.nd rfl (by first | exact Or.inl rfl | exact Or.inr rfl))) (bd_n (by decide)) (fun _ _ _ _ _ => (sts_one (st_cmp op_le ser_le (se_cal (ok__law_gap T) hr (sa_cons (se_var 4) (sa_cons (se_op op_addA ser_add (se_var 6) (se_tup (sa_cons (se_var 8) sa_nil))) sa_nil)) takesF) (se_var 0) (nomark _)))) (fun _ _ _ _ _ => (se_op op_addA ser_add (se_var 6) (se_tup (sa_cons (se_var 8) sa_nil)))))))))
  (sss_cons (ss_if (st_cmp (op_eq2 (u64 hr)) ser_eq (se_var 5) (se_lst sa_nil) (nomark _)) (sss_one (ss_ret (se_tup (sa_cons (se_op op_sub ser_sub (se_var 3) se_int) (sa_cons (se_ix (se_var 2) se_int) sa_nil))))) sss_nil)
  (sss_one (ss_set (i := 2) sc__law_longest.nd rfl (by first | exact Or.inl rfl | exact Or.inr rfl) (se_var 5))))))))
  (sss_one (ss_ret (se_tup (sa_cons (se_var 1) (sa_cons (se_ix (se_var 2) se_int) sa_nil)))))))
theorem ok__law_longest (T : All C P K mg) : Cal C P w K mg base 2 "_law_longest" 2 F__law_longest := cal_mk T.t T.f__law_longest sc__law_longest bw__law_longest fin_ok rfl rfl (bd__law_longest T)
theorem sc_law : FnScope ["script", "state", "spans", "a", "every", "one", "signs", "gap", "most", "number", "threes", "good", "size", "parts", "rows", "gaps", "value", "many", "step", "figures", "rest", "b", "row", "k", "kind", "part"] ["script"] (defScope s_law) := ⟨rfl, rfl, rfl, by decide +kernel, rfl, by decide +kernel, by decide +kernel⟩
theorem bw_law : BindW "law" s_law ["script"] := fun _ _ _ _ _ _ us hl => match us, hl with | [_], _ => rfl
theorem bd_law (T : All C P K mg) (f : Addr) (cdv : Value) (A : Around) (outer : List PySem.Env) (s : Shared) (H : Hp) (E : XK) (hr : Room 34 (A.deeper (envOfC "law" (defScope s_law) s.heap.objs.size f cdv))) : SSs C (cxOf (L2.CX P w) P w K mg base ["script", "state", "spans", "a", "every", "one", "signs", "gap", "most", "number", "threes", "good", "size", "parts", "rows", "gaps", "value", "many", "step", "figures", "rest", "b", "row", "k", "kind", "part"] "law" (defScope s_law) f cdv A outer s H E) (fun cls d _ H => E cls d H) c_law (defBody s_law) :=
  (sss_cons (ss_set (i := 1) sc_law.nd rfl (by first | exact Or.inl rfl | exact Or.inr rfl) (se_lstC (sa_cons se_int (sa_cons se_int sa_nil))))
  (sss_cons (ss_unp (vs := [17, 18]) (pg_tup rfl (pgs_cons (pg_name (i := 17) sc_law.nd rfl (by first | exact Or.inl rfl | exact Or.inr rfl)) (pgs_cons (pg_name (i := 18) sc_law.nd rfl (by first | exact Or.inl rfl | exact Or.inr rfl)) pgs_nil))) (bd_p (by decide) (by decide)) (se_tup (sa_cons (se_cal (ok__law_draw T) hr (sa_cons (se_var 1) (sa_cons (se_var 0) (sa_cons se_int sa_nil))) takes1) (sa_cons (se_op op_addA ser_add se_int (se_cal (ok__law_draw T) hr (sa_cons (se_var 1) (sa_cons (se_var 0) (sa_cons se_int sa_nil))) takes1)) sa_nil))) (by rfl))
  (sss_cons (ss_set (i := 2) sc_law.nd rfl (by first | exact Or.inl rfl | exact Or.inr rfl) (se_lst sa_nil))
  (sss_cons (ss_for (vs := [3]) owns0 rfl (si_r1 (by rfl) T.b_range (sa_cons (se_var 17) sa_nil)) (pg_name (i := 3) sc_law.nd rfl (by first | exact Or.inl rfl | exact Or.inr rfl)) (bd_n (by decide)) (sss_one (ss_set (i := 2) sc_law.nd rfl (by first | exact Or.inl rfl | exact Or.inr rfl) (se_op op_addA ser_add (se_var 2) (se_lc (own := [("b", 21)]) rfl sc_law.nd (si_r2 (by rfl) T.b_range (sa_cons (se_op op_addA ser_add (se_var 3) se_int) (sa_cons (se_op op_addA ser_add (se_var 17) se_int) sa_nil))) (blk_of (by kernel_rfl)) (fun _ _ _ _ _ => (pg_name (i := 21) sc_law.nd rfl (by first | exact Or.inl rfl | exact Or.inr rfl))) (bd_n (by decide)) (fun _ _ _ _ _ => sts_nil) (fun _ _ _ _ _ => (se_ty call_tuple_of ser_tup (by rfl) T.b_tuple bt_tuple (sa_cons (se_lstRg2 rfl (by rfl) T.b_list (by rfl) T.b_range (se_var 3) (se_var 21)) sa_nil))))))))
  (sss_cons (ss_set (i := 4) sc_law.nd rfl (by first | exact Or.inl rfl | exact Or.inr rfl) (se_lst sa_nil))
  (sss_cons (ss_for (vs := [5]) owns0 rfl (si_r2 (by rfl) T.b_range (sa_cons se_int (sa_cons (se_b (call_max2 rfl) ser_max2 (by rfl) T.b_max bt_max (sa_cons (se_var 17) (sa_cons se_int sa_nil))) sa_nil))) (pg_name (i := 5) sc_law.nd rfl (by first | exact Or.inl rfl | exact Or.inr rfl)) (bd_n (by decide)) (sss_one (ss_set (i := 4) sc_law.nd rfl (by first | exact Or.inl rfl | exact Or.inr rfl) (se_op op_addA ser_add (se_var 4) (se_cal (ok__law_steps T) hr (sa_cons (se_var 17) (sa_cons (se_var 5) sa_nil)) takes1)))))
  (sss_cons (ss_if (st_w (sw_or (st_cmp (op_ne2 (u64 hr)) ser_ne (se_cal (ok_span_sets T) hr (sa_cons (se_var 17) sa_nil) takes1) (se_ty call_tuple_of ser_tup (by rfl) T.b_tuple bt_tuple (sa_cons (se_var 2) sa_nil)) (nomark _)) (sw_or (st_cmp (op_ne2 (u64 hr)) ser_ne (se_cal (ok_step_sets T) hr (sa_cons (se_var 17) (sa_cons (se_var 18) sa_nil)) takes1) (se_ty call_tuple_of ser_tup (by rfl) T.b_tuple bt_tuple (sa_cons (se_cal (ok__law_steps T) hr (sa_cons (se_var 17) (sa_cons (se_var 18) sa_nil)) takes1) sa_nil)) (nomark _)) (sw_or (st_cmp (op_ne2 (u64 hr)) ser_ne (se_cal (ok_all_step_sets T) hr (sa_cons (se_var 17) sa_nil) takes1) (se_ty call_tuple_of ser_tup (by rfl) T.b_tuple bt_tuple (sa_cons (se_var 4) sa_nil)) (nomark _)) (sw_or1 (st_cmp (op_ne2 (u64 hr)) ser_ne (se_cal (ok_multiple_sets T) hr (sa_cons (se_var 17) sa_nil) takes1) (se_ty call_tuple_of ser_tup (by rfl) T.b_tuple bt_tuple (sa_cons (se_cal (ok__law_multiples T) hr (sa_cons (se_var 17) sa_nil) takes1) sa_nil)) (nomark _))))))) (sss_one (ss_ret se_bl)) sss_nil)
  (sss_cons (ss_set (i := 6) sc_law.nd rfl (by first | exact Or.inl rfl | exact Or.inr rfl) (se_ty call_tuple_of ser_tup (by rfl) T.b_tuple bt_tuple (sa_cons (se_lc (own := [("k", 23)]) rfl sc_law.nd (si_r1 (by rfl) T.b_range (sa_cons (se_var 17) sa_nil)) (blk_of (by kernel_rfl)) (fun _ _ _ _ _ => (pg_name (i := 23) sc_law.nd rfl (by first | exact Or.inl rfl | exact Or.inr rfl))) (bd_n (by decide)) (fun _ _ _ _ _ => sts_nil) (fun _ _ _ _ _ => (se_op op_sub ser_sub se_int (se_op op_mulB ser_mulB se_int (se_cal (ok__law_draw T) hr (sa_cons (se_var 1) (sa_cons (se_var 0) (sa_cons se_int sa_nil))) takesF))))) sa_nil)))
  (sss_cons (ss_set (i := 7) sc_law.nd rfl (by first | exact Or.inl rfl | exact Or.inr rfl) (se_cal (ok__law_draw T) hr (sa_cons (se_var 1) (sa_cons (se_var 0) (sa_cons se_int sa_nil))) takes1))
  (sss_cons (ss_if (st_cmp (op_ne2 (u64 hr)) ser_ne (se_cal (ok_multiple_gap T) hr (sa_cons (se_var 6) sa_nil) takes1) (se_cal (ok__law_gap T) hr (sa_cons (se_cal (ok__law_multiples T) hr (sa_cons (se_var 17) sa_nil) takes1) (sa_cons (se_var 6) sa_nil)) takes1) (nomark _)) (sss_one (ss_ret se_bl)) sss_nil)
  (sss_cons (ss_if (st_w (sw_and (st_cmp op_gt ser_gt (se_var 17) se_int (nomark _)) (sw_and1 (st_cmp (op_ne2 (u64 hr)) ser_ne (se_cal (ok_last_fits T) hr (sa_cons (se_var 6) (sa_cons (se_var 7) sa_nil)) takes1) (se_cmp op_le ser_le (se_cal (ok__law_gap T) hr (sa_cons (se_lc (own := [("part", 25)]) rfl sc_law.nd (si_v (se_cal (ok__law_multiples T) hr (sa_cons (se_var 17) sa_nil) takes1)) (blk_of (by kernel_rfl)) (fun _ _ _ _ _ => (pg_name (i := 25) sc_law.nd rfl (by first | exact Or.inl rfl | exact Or.inr rfl))) (bd_n (by decide)) (fun _ _ _ _ _ => (sts_one (st_cmp (op_eq2 (u64 hr)) ser_eq (se_ix (se_var 25) (se_neg se_int)) (se_op op_sub ser_sub (se_var 17) se_int) (nomark _)))) (fun _ _ _ _ _ => (se_var 25))) (sa_cons (se_var 6) sa_nil)) takes1) (se_var 7) (nomark _)) (nomark _))))) (sss_one (ss_ret se_bl)) sss_nil)
  (sss_cons (ss_set (i := 8) sc_law.nd rfl (by first | exact Or.inl rfl | exact Or.inr rfl) (se_cal (ok__law_draw T) hr (sa_cons (se_var 1) (sa_cons (se_var 0) (sa_cons se_int sa_nil))) takes1))
  (sss_cons (ss_if (st_w (sw_or (st_w (sw_and (st_cmp op_lt ser_lt (se_var 7) se_int (nomark _)) (sw_and1 (st_cmp (op_ne2 (u64 hr)) ser_ne (se_cal (ok_longest_multiples T) hr (sa_cons (se_var 7) (sa_cons (se_var 8) sa_nil)) takes1) (se_cal (ok__law_longest T) hr (sa_cons (se_var 7) (sa_cons (se_var 8) sa_nil)) takes1) (nomark _))))) (sw_or1 (st_w (sw_and (st_cmp (op_eq2 (u64 hr)) ser_eq (se_var 7) se_int (nomark _)) (sw_and1 (st_cmp (op_ne2 (u64 hr)) ser_ne (se_cal (ok_longest_multiples T) hr (sa_cons se_int (sa_cons (se_b (call_min2 rfl) ser_min2 (by rfl) T.b_min bt_min (sa_cons (se_var 8) (sa_cons se_int sa_nil))) sa_nil)) takes1) (se_cal (ok__law_longest T) hr (sa_cons se_int (sa_cons (se_b (call_min2 rfl) ser_min2 (by rfl) T.b_min bt_min (sa_cons (se_var 8) (sa_cons se_int sa_nil))) sa_nil)) takes1) (nomark _)))))))) (sss_one (ss_ret se_bl)) sss_nil)
  (sss_cons (ss_if (st_cmp (op_ne2 (u64 hr)) ser_ne (se_ix (se_cal (ok_longest_multiples T) hr (sa_cons se_int (sa_cons se_int sa_nil)) takes1) se_int) se_int (nomark _)) (sss_one (ss_ret se_bl)) sss_nil)
  (sss_cons (ss_set (i := 9) sc_law.nd rfl (by first | exact Or.inl rfl | exact Or.inr rfl) (se_op op_addA ser_add se_int (se_cal (ok__law_draw T) hr (sa_cons (se_var 1) (sa_cons (se_var 0) (sa_cons se_int sa_nil))) takes1)))
  (sss_cons (ss_setLc (i := 10) (own := [("one", 5)]) rfl sc_law.nd rfl rfl (by rfl) (si_r2 (by rfl) T.b_range (sa_cons se_int (sa_cons (se_op op_addA ser_add (se_var 9) se_int) sa_nil))) (blk_of (by kernel_rfl)) (fun _ _ _ _ _ => (pg_name (i := 5) sc_law.nd rfl (by first | exact Or.inl rfl | exact Or.inr rfl))) (bd_n (by decide)) (fun _ _ _ _ _ => sts_nil) (fun _ _ _ _ _ => (se_cal (ok__law_sign T) hr (sa_cons (se_var 5) sa_nil) takesF)))
  (sss_cons (ss_par (i := 19) (j := 20) rfl sc_law.nd rfl rfl (by decide) rfl rfl se_int (se_var 9) (by rfl))
  (sss_cons (ss_wh owns0 (st_cmp op_gt ser_gt (se_var 20) se_int (nomark _)) (sss_one (ss_par (i := 19) (j := 20) rfl sc_law.nd rfl rfl (by decide) rfl rfl (se_op op_addA ser_add (se_var 19) (se_ty call_int1 ser_int (by rfl) T.b_int bt_int (sa_cons (se_cmp (op_eq2 (u64 hr)) ser_eq (se_op op_mod ser_mod (se_ty call_int1 ser_int (by rfl) T.b_int bt_int (sa_cons (se_var 20) sa_nil)) se_int) se_int (nomark _)) sa_nil))) (se_op op_divN ser_divN (se_var 20) se_int) (by rfl))))
  (sss_cons (ss_if (st_w (sw_or (st_cmp (op_ne2 (u64 hr)) ser_ne (se_cal (ok_threes_sign T) hr (sa_cons (se_var 9) sa_nil) takes1) (se_ix (se_var 10) (se_neg se_int)) (nomark _)) (sw_or (st_cmp (op_ne2 (u64 hr)) ser_ne (se_cal (ok_threes_signs T) hr (sa_cons (se_var 9) sa_nil) takes1) (se_ty call_tuple_of ser_tup (by rfl) T.b_tuple bt_tuple (sa_cons (se_var 10) sa_nil)) (nomark _)) (sw_or (st_cmp (op_ne2 (u64 hr)) ser_ne (se_cal (ok_threes_sum T) hr (sa_cons (se_var 9) sa_nil) takes1) (se_var 19) (nomark _)) (sw_or (st_cmp (op_ne2 (u64 hr)) ser_ne (se_b (cr_sum rfl) ser_sum (by rfl) T.b_sum bt_sum (sa_cons (se_var 10) sa_nil)) (se_var 19) (nomark _)) (sw_or1 (st_cmp (op_ne2 (u64 hr)) ser_ne (se_cal (ok_threes_sum T) hr (sa_cons se_int sa_nil) takes1) se_int (nomark _)))))))) (sss_one (ss_ret se_bl)) sss_nil)
  (sss_cons (ss_if (st_cmp op_isnot2 ser_isnot (se_cal (ok_is_product_signs T) hr (sa_cons (se_ty call_tuple_of ser_tup (by rfl) T.b_tuple bt_tuple (sa_cons (se_sl (se_var 10) so_no (so_some se_int)) sa_nil)) sa_nil) takes1) se_bl (nomark _)) (sss_one (ss_ret se_bl)) sss_nil)
  (sss_cons (ss_set (i := 11) sc_law.nd rfl (by first | exact Or.inl rfl | exact Or.inr rfl) se_bl)
  (sss_cons (ss_for (vs := [3]) owns0 rfl (si_r2 (by rfl) T.b_range (sa_cons se_int (sa_cons (se_op op_addA ser_add (se_var 17) se_int) sa_nil))) (pg_name (i := 3) sc_law.nd rfl (by first | exact Or.inl rfl | exact Or.inr rfl)) (bd_n (by decide)) (sss_one (ss_for (vs := [21]) owns0 rfl (si_r2 (by rfl) T.b_range (sa_cons se_int (sa_cons (se_op op_addA ser_add (se_var 17) se_int) sa_nil))) (pg_name (i := 21) sc_law.nd rfl (by first | exact Or.inl rfl | exact Or.inr rfl)) (bd_n (by decide)) (sss_one (ss_if (st_w (sw_and (st_cmp op_le ser_le (se_op op_mulB ser_mulB (se_var 3) (se_var 21)) (se_var 17) (nomark _)) (sw_and1 (st_cmp (op_ne2 (u64 hr)) ser_ne (se_ix (se_var 6) (se_op op_sub ser_sub (se_op op_mulB ser_mulB (se_var 3) (se_var 21)) se_int)) (se_op op_mulB ser_mulB (se_ix (se_var 6) (se_op op_sub ser_sub (se_var 3) se_int)) (se_ix (se_var 6) (se_op op_sub ser_sub (se_var 21) se_int))) (nomark _))))) (sss_one (ss_set (i := 11) sc_law.nd rfl (by first | exact Or.inl rfl | exact Or.inr rfl) se_bl)) sss_nil)))))
  (sss_cons (ss_if (st_cmp (op_ne2 (u64 hr)) ser_ne (se_cal (ok_is_product_signs T) hr (sa_cons (se_var 6) sa_nil) takes1) (se_var 11) (nomark _)) (sss_one (ss_ret se_bl)) sss_nil)
  (sss_cons (ss_set (i := 12) sc_law.nd rfl (by first | exact Or.inl rfl | exact Or.inr rfl) (se_cal (ok__law_draw T) hr (sa_cons (se_var 1) (sa_cons (se_var 0) (sa_cons se_int sa_nil))) takes1))
  (sss_cons (ss_set (i := 13) sc_law.nd rfl (by first | exact Or.inl rfl | exact Or.inr rfl) (se_lst sa_nil))
  (sss_cons (ss_for (vs := [5]) owns0 rfl (si_r2 (by rfl) T.b_range (sa_cons se_int (sa_cons (se_b (call_max2 rfl) ser_max2 (by rfl) T.b_max bt_max (sa_cons (se_var 12) (sa_cons se_int sa_nil))) sa_nil))) (pg_name (i := 5) sc_law.nd rfl (by first | exact Or.inl rfl | exact Or.inr rfl)) (bd_n (by decide)) (sss_one (ss_set (i := 13) sc_law.nd rfl (by first | exact Or.inl rfl | exact Or.inr rfl) (se_op op_addA ser_add (se_var 13) (se_cal (ok__law_steps T) hr (sa_cons (se_var 12) (sa_cons (se_var 5) sa_nil)) takes1)))))
  (sss_cons (ss_set (i := 14) sc_law.nd rfl (by first | exact Or.inl rfl | exact Or.inr rfl) (se_cal (ok__law_rows T) hr (sa_cons (se_var 12) (sa_cons (se_lst (sa_cons se_int (sa_cons (se_op op_sub ser_sub se_int se_int) sa_nil))) sa_nil)) takes1))
  (sss_cons (ss_setLc (i := 15) (own := [("row", 22)]) rfl sc_law.nd rfl rfl (by rfl) (si_v (se_var 14)) (blk_of (by kernel_rfl)) (fun _ _ _ _ _ => (pg_name (i := 22) sc_law.nd rfl (by first | exact Or.inl rfl | exact Or.inr rfl))) (bd_n (by decide)) (fun _ _ _ _ _ => sts_nil) (fun _ _ _ _ _ => (se_cal (ok__law_gap T) hr (sa_cons (se_var 13) (sa_cons (se_var 22) sa_nil)) takesF)))
  (sss_cons (ss_if (st_cmp (op_ne2 (u64 hr)) ser_ne (se_cal (ok_least_step_gap T) hr (sa_cons (se_var 12) (sa_cons se_int sa_nil)) takes1) (se_tup (sa_cons (se_b (cr_min rfl) ser_minL (by rfl) T.b_min bt_min (sa_cons (se_var 15) sa_nil)) (sa_cons (se_ix (se_var 14) (se_index (u65 hr) (se_var 15) (sa_cons (se_b (cr_min rfl) ser_minL (by rfl) T.b_min bt_min (sa_cons (se_var 15) sa_nil)) sa_nil))) sa_nil))) (nomark _)) (sss_one (ss_ret se_bl)) sss_nil)
  (sss_cons (ss_for (vs := [16]) owns0 rfl (si_v (se_lst (sa_cons se_non (sa_cons (se_op op_sub ser_sub se_int se_int) (sa_cons se_bl (sa_cons (se_tup (sa_cons se_int sa_nil)) sa_nil)))))) (pg_name (i := 16) sc_law.nd rfl (by first | exact Or.inl rfl | exact Or.inr rfl)) (bd_n (by decide)) (sss_one (ss_if (st_cmp (op_ne2 (u64 hr)) ser_ne (se_lc (own := [("kind", 24)]) rfl sc_law.nd (si_r1 (by rfl) T.b_range (sa_cons se_int sa_nil)) (blk_of (by kernel_rfl)) (fun _ _ _ _ _ => (pg_name (i := 24) sc_law.nd rfl (by first | exact Or.inl rfl | exact Or.inr rfl))) (bd_n (by decide)) (fun _ _ _ _ _ => sts_nil) (fun _ _ _ _ _ => (se_cal (ok__law_refused T) hr (sa_cons (se_var 24) (sa_cons (se_var 16) sa_nil)) takesF))) (se_op op_mulB ser_mulB (se_lst (sa_cons se_non sa_nil)) se_int) (nomark _)) (sss_one (ss_ret se_bl)) sss_nil)))
  (sss_one (ss_ret (se_cmp op_is2 ser_is (se_cal (ok__law_refused T) hr (sa_cons se_int (sa_cons se_int sa_nil)) takes1) se_non (nomark _))))))))))))))))))))))))))))))))))
end K35


set_option Elab.async false
set_option linter.all false
set_option maxRecDepth 100000
set_option maxHeartbeats 8000000

namespace K35
open PySem PySem.Spec PyProof.Rows L2 FW PySem.FX
def errs : List Str := ["InvalidFamily", "InvalidRow", "TooLarge"]
theorem all_mk {K : PySem.W.Frag} {mg : Str → Option Value} (wd : Wd PySem.Challenge.pw_evensplits_k35_whole_things_in_a_row K mg)
    (w_EvensplitsError : RootW PySem.Challenge.pw_evensplits_k35_whole_things_in_a_row K mg "EvensplitsError")
    (w_InvalidFamily : HeirW PySem.Challenge.pw_evensplits_k35_whole_things_in_a_row K mg "InvalidFamily" "EvensplitsError")
    (w_InvalidRow : HeirW PySem.Challenge.pw_evensplits_k35_whole_things_in_a_row K mg "InvalidRow" "EvensplitsError")
    (w_TooLarge : HeirW PySem.Challenge.pw_evensplits_k35_whole_things_in_a_row K mg "TooLarge" "EvensplitsError")
    (p_InvalidFamily_InvalidRow : PairW K mg "InvalidFamily" "InvalidRow" false)
    (p_InvalidRow_InvalidRow : PairW K mg "InvalidRow" "InvalidRow" true)
    (p_TooLarge_InvalidRow : PairW K mg "TooLarge" "InvalidRow" false)
    (b_abs : mg "abs" = none)
    (b_all : mg "all" = none)
    (b_bool : mg "bool" = none)
    (b_int : mg "int" = none)
    (b_isinstance : mg "isinstance" = none)
    (b_len : mg "len" = none)
    (b_list : mg "list" = none)
    (b_max : mg "max" = none)
    (b_min : mg "min" = none)
    (b_range : mg "range" = none)
    (b_sum : mg "sum" = none)
    (b_tuple : mg "tuple" = none)
    (f__law_draw : FnW K mg "_law_draw" s__law_draw)
    (f__law_rows : FnW K mg "_law_rows" s__law_rows)
    (f_set_sum : FnW K mg "set_sum" s_set_sum)
    (f_is_count : FnW K mg "is_count" s_is_count)
    (f_check_length : FnW K mg "check_length" s_check_length)
    (f_multiple_sets : FnW K mg "multiple_sets" s_multiple_sets)
    (f_multiple_gap : FnW K mg "multiple_gap" s_multiple_gap)
    (f__law_gap : FnW K mg "_law_gap" s__law_gap)
    (f__law_sign : FnW K mg "_law_sign" s__law_sign)
    (f_is_product_signs : FnW K mg "is_product_signs" s_is_product_signs)
    (f_is_part : FnW K mg "is_part" s_is_part)
    (f_check_family : FnW K mg "check_family" s_check_family)
    (f_over_set : FnW K mg "over_set" s_over_set)
    (f_within_from : FnW K mg "within_from" s_within_from)
    (f_within_gap : FnW K mg "within_gap" s_within_gap)
    (f_least_gap : FnW K mg "least_gap" s_least_gap)
    (f_step_sets : FnW K mg "step_sets" s_step_sets)
    (f_all_step_sets : FnW K mg "all_step_sets" s_all_step_sets)
    (f_least_step_gap : FnW K mg "least_step_gap" s_least_step_gap)
    (f_span_sets : FnW K mg "span_sets" s_span_sets)
    (f_last_fits : FnW K mg "last_fits" s_last_fits)
    (f_longest_multiples : FnW K mg "longest_multiples" s_longest_multiples)
    (f_threes_sign : FnW K mg "threes_sign" s_threes_sign)
    (f_threes_signs : FnW K mg "threes_signs" s_threes_signs)
    (f_threes_sum : FnW K mg "threes_sum" s_threes_sum)
    (f__law_refused : FnW K mg "_law_refused" s__law_refused)
    (f__law_steps : FnW K mg "_law_steps" s__law_steps)
    (f__law_multiples : FnW K mg "_law_multiples" s__law_multiples)
    (f__law_longest : FnW K mg "_law_longest" s__law_longest)
    (f_law : FnW K mg "law" s_law) :
    All (ctxOf mg errs) PySem.Challenge.pw_evensplits_k35_whole_things_in_a_row K mg := by
  have m_EvensplitsError : FW.ClsW PySem.Challenge.pw_evensplits_k35_whole_things_in_a_row K mg "EvensplitsError" := RootW.made wd w_EvensplitsError
  have m_InvalidFamily : FW.ClsW PySem.Challenge.pw_evensplits_k35_whole_things_in_a_row K mg "InvalidFamily" := HeirW.made wd w_EvensplitsError w_InvalidFamily
  have m_InvalidRow : FW.ClsW PySem.Challenge.pw_evensplits_k35_whole_things_in_a_row K mg "InvalidRow" := HeirW.made wd w_EvensplitsError w_InvalidRow
  have m_TooLarge : FW.ClsW PySem.Challenge.pw_evensplits_k35_whole_things_in_a_row K mg "TooLarge" := HeirW.made wd w_EvensplitsError w_TooLarge
  exact ⟨txt_mk (List.forall_mem_cons.mpr ⟨m_InvalidFamily, List.forall_mem_cons.mpr ⟨m_InvalidRow, List.forall_mem_cons.mpr ⟨m_TooLarge, List.forall_mem_nil _⟩⟩⟩) (by decide +kernel),
    b_abs,
    b_all,
    b_bool,
    b_int,
    b_isinstance,
    b_len,
    b_list,
    b_max,
    b_min,
    b_range,
    b_sum,
    b_tuple,
    err_mk m_InvalidFamily (by simp [errs]),
    err_mk m_InvalidRow (by simp [errs]),
    err_mk m_TooLarge (by simp [errs]),
    cat_mk m_InvalidRow (List.forall_mem_cons.mpr ⟨pair_is p_InvalidFamily_InvalidRow (by decide), List.forall_mem_cons.mpr ⟨pair_is p_InvalidRow_InvalidRow (by decide), List.forall_mem_cons.mpr ⟨pair_is p_TooLarge_InvalidRow (by decide), List.forall_mem_nil _⟩⟩⟩),
    f__law_draw,
    f__law_rows,
    f_set_sum,
    f_is_count,
    f_check_length,
    f_multiple_sets,
    f_multiple_gap,
    f__law_gap,
    f__law_sign,
    f_is_product_signs,
    f_is_part,
    f_check_family,
    f_over_set,
    f_within_from,
    f_within_gap,
    f_least_gap,
    f_step_sets,
    f_all_step_sets,
    f_least_step_gap,
    f_span_sets,
    f_last_fits,
    f_longest_multiples,
    f_threes_sign,
    f_threes_signs,
    f_threes_sum,
    f__law_refused,
    f__law_steps,
    f__law_multiples,
    f__law_longest,
    f_law⟩
theorem fin_mk {w : World} {K : PySem.W.Frag} {h : Heap} {mg : Str → Option Value} {fa : Addr} (hlaw : ∀ ns : List Int, ns.length ≤ 63 → F_law [.d (.list (ns.map PyData.int))] [] = .ok (.d (.bool true)) []) (X : K.In h) (G : h.Ns mainGlobals mg) (hmg : mg "law" = some (.ref fa))
    (wd : Wd PySem.Challenge.pw_evensplits_k35_whole_things_in_a_row K mg)
    (w_EvensplitsError : RootW PySem.Challenge.pw_evensplits_k35_whole_things_in_a_row K mg "EvensplitsError")
    (w_InvalidFamily : HeirW PySem.Challenge.pw_evensplits_k35_whole_things_in_a_row K mg "InvalidFamily" "EvensplitsError")
    (w_InvalidRow : HeirW PySem.Challenge.pw_evensplits_k35_whole_things_in_a_row K mg "InvalidRow" "EvensplitsError")
    (w_TooLarge : HeirW PySem.Challenge.pw_evensplits_k35_whole_things_in_a_row K mg "TooLarge" "EvensplitsError")
    (p_InvalidFamily_InvalidRow : PairW K mg "InvalidFamily" "InvalidRow" false)
    (p_InvalidRow_InvalidRow : PairW K mg "InvalidRow" "InvalidRow" true)
    (p_TooLarge_InvalidRow : PairW K mg "TooLarge" "InvalidRow" false)
    (b_abs : mg "abs" = none)
    (b_all : mg "all" = none)
    (b_bool : mg "bool" = none)
    (b_int : mg "int" = none)
    (b_isinstance : mg "isinstance" = none)
    (b_len : mg "len" = none)
    (b_list : mg "list" = none)
    (b_max : mg "max" = none)
    (b_min : mg "min" = none)
    (b_range : mg "range" = none)
    (b_sum : mg "sum" = none)
    (b_tuple : mg "tuple" = none)
    (f__law_draw : FnW K mg "_law_draw" s__law_draw)
    (f__law_rows : FnW K mg "_law_rows" s__law_rows)
    (f_set_sum : FnW K mg "set_sum" s_set_sum)
    (f_is_count : FnW K mg "is_count" s_is_count)
    (f_check_length : FnW K mg "check_length" s_check_length)
    (f_multiple_sets : FnW K mg "multiple_sets" s_multiple_sets)
    (f_multiple_gap : FnW K mg "multiple_gap" s_multiple_gap)
    (f__law_gap : FnW K mg "_law_gap" s__law_gap)
    (f__law_sign : FnW K mg "_law_sign" s__law_sign)
    (f_is_product_signs : FnW K mg "is_product_signs" s_is_product_signs)
    (f_is_part : FnW K mg "is_part" s_is_part)
    (f_check_family : FnW K mg "check_family" s_check_family)
    (f_over_set : FnW K mg "over_set" s_over_set)
    (f_within_from : FnW K mg "within_from" s_within_from)
    (f_within_gap : FnW K mg "within_gap" s_within_gap)
    (f_least_gap : FnW K mg "least_gap" s_least_gap)
    (f_step_sets : FnW K mg "step_sets" s_step_sets)
    (f_all_step_sets : FnW K mg "all_step_sets" s_all_step_sets)
    (f_least_step_gap : FnW K mg "least_step_gap" s_least_step_gap)
    (f_span_sets : FnW K mg "span_sets" s_span_sets)
    (f_last_fits : FnW K mg "last_fits" s_last_fits)
    (f_longest_multiples : FnW K mg "longest_multiples" s_longest_multiples)
    (f_threes_sign : FnW K mg "threes_sign" s_threes_sign)
    (f_threes_signs : FnW K mg "threes_signs" s_threes_signs)
    (f_threes_sum : FnW K mg "threes_sum" s_threes_sum)
    (f__law_refused : FnW K mg "_law_refused" s__law_refused)
    (f__law_steps : FnW K mg "_law_steps" s__law_steps)
    (f__law_multiples : FnW K mg "_law_multiples" s__law_multiples)
    (f__law_longest : FnW K mg "_law_longest" s__law_longest)
    (f_law : FnW K mg "law" s_law) :
    ∃ fd : FuncData, (∀ (s : Shared) (u : Value), BindsTo s fd ⟨[u], []⟩ [("script", u)]) ∧ ∀ base : Heap, K.In base → base.Ns mainGlobals mg → FnOk PySem.Challenge.pw_evensplits_k35_whole_things_in_a_row w K mg base (L2.CX PySem.Challenge.pw_evensplits_k35_whole_things_in_a_row w) 35 fa fd ["script"] (spLaw 63 K) := by
  have T := all_mk wd w_EvensplitsError w_InvalidFamily w_InvalidRow w_TooLarge p_InvalidFamily_InvalidRow p_InvalidRow_InvalidRow p_TooLarge_InvalidRow b_abs b_all b_bool b_int b_isinstance b_len b_list b_max b_min b_range b_sum b_tuple f__law_draw f__law_rows f_set_sum f_is_count f_check_length f_multiple_sets f_multiple_gap f__law_gap f__law_sign f_is_product_signs f_is_part f_check_family f_over_set f_within_from f_within_gap f_least_gap f_step_sets f_all_step_sets f_least_step_gap f_span_sets f_last_fits f_longest_multiples f_threes_sign f_threes_signs f_threes_sum f__law_refused f__law_steps f__law_multiples f__law_longest f_law
  exact law_fin T.t T.f_law hmg sc_law bw_law rfl (fun base => bd_law (base := base) T) hlaw
end K35
open PySem PySem.W PyProof.Rows
theorem PySem.Challenge.cw_evensplits_k35_whole_things_in_a_row_holds : PySem.Challenge.rw_evensplits_k35_whole_things_in_a_row.Holds := by
  w_on; o_law; k_head; (case hw => w_witness2)
  k_fill
  refine L2.walk_of (n := 63) (k := 35) (x := "script") (CX := fun w => L2.CX PySem.Challenge.pw_evensplits_k35_whole_things_in_a_row w) (sp := fun w => FW.spLaw 63 _) rfl (by decide) rfl ⟨rfl, by decide, by decide⟩ (fun w h Y => PySem.W.kIn_of Y) ?F (fun w H a ns hl _ hS => ⟨a, ns, rfl, hS, hl, fun _ => rfl⟩) (fun _ _ _ _ _ ⟨_, _, _, _, _, _, _, _, _, _, _, _, z⟩ => z)
  case F =>
    intro w mg fa h KX G hmg
    refine' K35.fin_mk K35.law_true KX G hmg ?wd ?w_EvensplitsError ?w_InvalidFamily ?w_InvalidRow ?w_TooLarge ?p_InvalidFamily_InvalidRow ?p_InvalidRow_InvalidRow ?p_TooLarge_InvalidRow ?b_abs ?b_all ?b_bool ?b_int ?b_isinstance ?b_len ?b_list ?b_max ?b_min ?b_range ?b_sum ?b_tuple ?f__law_draw ?f__law_rows ?f_set_sum ?f_is_count ?f_check_length ?f_multiple_sets ?f_multiple_gap ?f__law_gap ?f__law_sign ?f_is_product_signs ?f_is_part ?f_check_family ?f_over_set ?f_within_from ?f_within_gap ?f_least_gap ?f_step_sets ?f_all_step_sets ?f_least_step_gap ?f_span_sets ?f_last_fits ?f_longest_multiples ?f_threes_sign ?f_threes_signs ?f_threes_sum ?f__law_refused ?f__law_steps ?f__law_multiples ?f__law_longest ?f_law
    (case wd => refine' PySem.FX.wd_mk KX G ?s ?t ?a; (case s => k_is); (case t => rfl); (case a => k_is))
    (case w_EvensplitsError => refine' PySem.FX.rootw_mk (p0 := ⟨5, 8, 5, 13⟩) (pp := ⟨5, 8, 5, 15⟩) (p3 := ⟨5, 8, 5, 24⟩) (p4 := ⟨5, 25, 5, 30⟩) (p5 := ⟨5, 8, 5, 31⟩) (p6 := ⟨5, 8, 5, 31⟩) (q1 := ⟨6, 8, 6, 12⟩) (q2 := ⟨6, 8, 6, 18⟩) (q3 := ⟨6, 21, 6, 26⟩) (q4 := ⟨6, 8, 6, 26⟩) (r1 := ⟨7, 8, 7, 12⟩) (r2 := ⟨7, 8, 7, 17⟩) (r3 := ⟨7, 20, 7, 37⟩) (r4 := ⟨7, 8, 7, 37⟩) (k := 0) ?c ?fn (fun env => ⟨_, rfl⟩) ?i; (case c => refine' PySem.FX.cls_mk KX G ?a ?x ?hm ?sa ?noP ?noN ?mB ?spB ?sVE ?ga ?gg ?exC ?hd ?iC ?tI ?kC ?tyC; (case a => k_is); (case x => k_is); (case hm => first | rfl | decide +kernel); (case sa => k_is); (case noP => k_is); (case noN => k_is); (case mB => k_is); (case spB => ks_is); (case sVE => k_is); (case ga => k_is); (case gg => k_is); (case exC => k_is); (case hd => k_is); (case iC => k_is); (case tI => k_is); (case kC => k_is); (case tyC => k_is)); (case fn => k_is); (case i => intro kk; refine' PySem.FX.init_mk ?l ?c ?lc ?v2 ?fl ?cl kk; (case l => k_is); (case c => k_is); (case lc => k_is); (case v2 => rfl); (case fl => first | rfl | decide +kernel | kernel_rfl); (case cl => k_is)))
    (case w_InvalidFamily => refine' PySem.FX.heirw_mk (p0 := ⟨16, 8, 16, 13⟩) (pp := ⟨16, 8, 16, 15⟩) (p3 := ⟨16, 8, 16, 24⟩) (p4 := ⟨16, 25, 16, 30⟩) (p5 := ⟨16, 8, 16, 31⟩) (p6 := ⟨16, 8, 16, 31⟩) (r1 := ⟨17, 8, 17, 12⟩) (r2 := ⟨17, 8, 17, 17⟩) (r3 := ⟨17, 20, 17, 35⟩) (r4 := ⟨17, 8, 17, 35⟩) (k := 0) KX G ?aB ?iB ?c ?mC ?sp (fun env => ⟨_, rfl⟩) ?i; (case aB => k_is); (case iB => k_is); (case c => refine' PySem.FX.cls_mk KX G ?a ?x ?hm ?sa ?noP ?noN ?mB ?spB ?sVE ?ga ?gg ?exC ?hd ?iC ?tI ?kC ?tyC; (case a => k_is); (case x => k_is); (case hm => first | rfl | decide +kernel); (case sa => k_is); (case noP => k_is); (case noN => k_is); (case mB => k_is); (case spB => ks_is); (case sVE => k_is); (case ga => k_is); (case gg => k_is); (case exC => k_is); (case hd => k_is); (case iC => k_is); (case tI => k_is); (case kC => k_is); (case tyC => k_is)); (case mC => k_is); (case sp => ks_is); (case i => intro kk; refine' PySem.FX.init_mk ?l ?c ?lc ?v2 ?fl ?cl kk; (case l => k_is); (case c => k_is); (case lc => k_is); (case v2 => rfl); (case fl => first | rfl | decide +kernel | kernel_rfl); (case cl => k_is)))
    (case w_InvalidRow => refine' PySem.FX.heirw_mk (p0 := ⟨21, 8, 21, 13⟩) (pp := ⟨21, 8, 21, 15⟩) (p3 := ⟨21, 8, 21, 24⟩) (p4 := ⟨21, 25, 21, 30⟩) (p5 := ⟨21, 8, 21, 31⟩) (p6 := ⟨21, 8, 21, 31⟩) (r1 := ⟨22, 8, 22, 12⟩) (r2 := ⟨22, 8, 22, 17⟩) (r3 := ⟨22, 20, 22, 32⟩) (r4 := ⟨22, 8, 22, 32⟩) (k := 0) KX G ?aB ?iB ?c ?mC ?sp (fun env => ⟨_, rfl⟩) ?i; (case aB => k_is); (case iB => k_is); (case c => refine' PySem.FX.cls_mk KX G ?a ?x ?hm ?sa ?noP ?noN ?mB ?spB ?sVE ?ga ?gg ?exC ?hd ?iC ?tI ?kC ?tyC; (case a => k_is); (case x => k_is); (case hm => first | rfl | decide +kernel); (case sa => k_is); (case noP => k_is); (case noN => k_is); (case mB => k_is); (case spB => ks_is); (case sVE => k_is); (case ga => k_is); (case gg => k_is); (case exC => k_is); (case hd => k_is); (case iC => k_is); (case tI => k_is); (case kC => k_is); (case tyC => k_is)); (case mC => k_is); (case sp => ks_is); (case i => intro kk; refine' PySem.FX.init_mk ?l ?c ?lc ?v2 ?fl ?cl kk; (case l => k_is); (case c => k_is); (case lc => k_is); (case v2 => rfl); (case fl => first | rfl | decide +kernel | kernel_rfl); (case cl => k_is)))
    (case w_TooLarge => refine' PySem.FX.heirw_mk (p0 := ⟨11, 8, 11, 13⟩) (pp := ⟨11, 8, 11, 15⟩) (p3 := ⟨11, 8, 11, 24⟩) (p4 := ⟨11, 25, 11, 30⟩) (p5 := ⟨11, 8, 11, 31⟩) (p6 := ⟨11, 8, 11, 31⟩) (r1 := ⟨12, 8, 12, 12⟩) (r2 := ⟨12, 8, 12, 17⟩) (r3 := ⟨12, 20, 12, 30⟩) (r4 := ⟨12, 8, 12, 30⟩) (k := 0) KX G ?aB ?iB ?c ?mC ?sp (fun env => ⟨_, rfl⟩) ?i; (case aB => k_is); (case iB => k_is); (case c => refine' PySem.FX.cls_mk KX G ?a ?x ?hm ?sa ?noP ?noN ?mB ?spB ?sVE ?ga ?gg ?exC ?hd ?iC ?tI ?kC ?tyC; (case a => k_is); (case x => k_is); (case hm => first | rfl | decide +kernel); (case sa => k_is); (case noP => k_is); (case noN => k_is); (case mB => k_is); (case spB => ks_is); (case sVE => k_is); (case ga => k_is); (case gg => k_is); (case exC => k_is); (case hd => k_is); (case iC => k_is); (case tI => k_is); (case kC => k_is); (case tyC => k_is)); (case mC => k_is); (case sp => ks_is); (case i => intro kk; refine' PySem.FX.init_mk ?l ?c ?lc ?v2 ?fl ?cl kk; (case l => k_is); (case c => k_is); (case lc => k_is); (case v2 => rfl); (case fl => first | rfl | decide +kernel | kernel_rfl); (case cl => k_is)))
    (case p_InvalidFamily_InvalidRow => refine' PySem.FX.pairw_mk KX G ?a ?b ?s; (case a => k_is); (case b => k_is); (case s => first | rfl | k_is))
    (case p_InvalidRow_InvalidRow => refine' PySem.FX.pairw_mk KX G ?a ?b ?s; (case a => k_is); (case b => k_is); (case s => first | rfl | k_is))
    (case p_TooLarge_InvalidRow => refine' PySem.FX.pairw_mk KX G ?a ?b ?s; (case a => k_is); (case b => k_is); (case s => first | rfl | k_is))
    (case b_abs => refine' PySem.FX.mgn_mk KX G ?s; (case s => k_is))
    (case b_all => refine' PySem.FX.mgn_mk KX G ?s; (case s => k_is))
    (case b_bool => refine' PySem.FX.mgn_mk KX G ?s; (case s => k_is))
    (case b_int => refine' PySem.FX.mgn_mk KX G ?s; (case s => k_is))
    (case b_isinstance => refine' PySem.FX.mgn_mk KX G ?s; (case s => k_is))
    (case b_len => refine' PySem.FX.mgn_mk KX G ?s; (case s => k_is))
    (case b_list => refine' PySem.FX.mgn_mk KX G ?s; (case s => k_is))
    (case b_max => refine' PySem.FX.mgn_mk KX G ?s; (case s => k_is))
    (case b_min => refine' PySem.FX.mgn_mk KX G ?s; (case s => k_is))
    (case b_range => refine' PySem.FX.mgn_mk KX G ?s; (case s => k_is))
    (case b_sum => refine' PySem.FX.mgn_mk KX G ?s; (case s => k_is))
    (case b_tuple => refine' PySem.FX.mgn_mk KX G ?s; (case s => k_is))
    (case f__law_draw => refine' FW.fnw_mk KX G ?a ?l ?c ?k; (case a => k_is); (case l => k_is); (case c => k_is); (case k => k_is))
    (case f__law_rows => refine' FW.fnw_mk KX G ?a ?l ?c ?k; (case a => k_is); (case l => k_is); (case c => k_is); (case k => k_is))
    (case f_set_sum => refine' FW.fnw_mk KX G ?a ?l ?c ?k; (case a => k_is); (case l => k_is); (case c => k_is); (case k => k_is))
    (case f_is_count => refine' FW.fnw_mk KX G ?a ?l ?c ?k; (case a => k_is); (case l => k_is); (case c => k_is); (case k => k_is))
    (case f_check_length => refine' FW.fnw_mk KX G ?a ?l ?c ?k; (case a => k_is); (case l => k_is); (case c => k_is); (case k => k_is))
    (case f_multiple_sets => refine' FW.fnw_mk KX G ?a ?l ?c ?k; (case a => k_is); (case l => k_is); (case c => k_is); (case k => k_is))
    (case f_multiple_gap => refine' FW.fnw_mk KX G ?a ?l ?c ?k; (case a => k_is); (case l => k_is); (case c => k_is); (case k => k_is))
    (case f__law_gap => refine' FW.fnw_mk KX G ?a ?l ?c ?k; (case a => k_is); (case l => k_is); (case c => k_is); (case k => k_is))
    (case f__law_sign => refine' FW.fnw_mk KX G ?a ?l ?c ?k; (case a => k_is); (case l => k_is); (case c => k_is); (case k => k_is))
    (case f_is_product_signs => refine' FW.fnw_mk KX G ?a ?l ?c ?k; (case a => k_is); (case l => k_is); (case c => k_is); (case k => k_is))
    (case f_is_part => refine' FW.fnw_mk KX G ?a ?l ?c ?k; (case a => k_is); (case l => k_is); (case c => k_is); (case k => k_is))
    (case f_check_family => refine' FW.fnw_mk KX G ?a ?l ?c ?k; (case a => k_is); (case l => k_is); (case c => k_is); (case k => k_is))
    (case f_over_set => refine' FW.fnw_mk KX G ?a ?l ?c ?k; (case a => k_is); (case l => k_is); (case c => k_is); (case k => k_is))
    (case f_within_from => refine' FW.fnw_mk KX G ?a ?l ?c ?k; (case a => k_is); (case l => k_is); (case c => k_is); (case k => k_is))
    (case f_within_gap => refine' FW.fnw_mk KX G ?a ?l ?c ?k; (case a => k_is); (case l => k_is); (case c => k_is); (case k => k_is))
    (case f_least_gap => refine' FW.fnw_mk KX G ?a ?l ?c ?k; (case a => k_is); (case l => k_is); (case c => k_is); (case k => k_is))
    (case f_step_sets => refine' FW.fnw_mk KX G ?a ?l ?c ?k; (case a => k_is); (case l => k_is); (case c => k_is); (case k => k_is))
    (case f_all_step_sets => refine' FW.fnw_mk KX G ?a ?l ?c ?k; (case a => k_is); (case l => k_is); (case c => k_is); (case k => k_is))
    (case f_least_step_gap => refine' FW.fnw_mk KX G ?a ?l ?c ?k; (case a => k_is); (case l => k_is); (case c => k_is); (case k => k_is))
    (case f_span_sets => refine' FW.fnw_mk KX G ?a ?l ?c ?k; (case a => k_is); (case l => k_is); (case c => k_is); (case k => k_is))
    (case f_last_fits => refine' FW.fnw_mk KX G ?a ?l ?c ?k; (case a => k_is); (case l => k_is); (case c => k_is); (case k => k_is))
    (case f_longest_multiples => refine' FW.fnw_mk KX G ?a ?l ?c ?k; (case a => k_is); (case l => k_is); (case c => k_is); (case k => k_is))
    (case f_threes_sign => refine' FW.fnw_mk KX G ?a ?l ?c ?k; (case a => k_is); (case l => k_is); (case c => k_is); (case k => k_is))
    (case f_threes_signs => refine' FW.fnw_mk KX G ?a ?l ?c ?k; (case a => k_is); (case l => k_is); (case c => k_is); (case k => k_is))
    (case f_threes_sum => refine' FW.fnw_mk KX G ?a ?l ?c ?k; (case a => k_is); (case l => k_is); (case c => k_is); (case k => k_is))
    (case f__law_refused => refine' FW.fnw_mk KX G ?a ?l ?c ?k; (case a => k_is); (case l => k_is); (case c => k_is); (case k => k_is))
    (case f__law_steps => refine' FW.fnw_mk KX G ?a ?l ?c ?k; (case a => k_is); (case l => k_is); (case c => k_is); (case k => k_is))
    (case f__law_multiples => refine' FW.fnw_mk KX G ?a ?l ?c ?k; (case a => k_is); (case l => k_is); (case c => k_is); (case k => k_is))
    (case f__law_longest => refine' FW.fnw_mk KX G ?a ?l ?c ?k; (case a => k_is); (case l => k_is); (case c => k_is); (case k => k_is))
    (case f_law => refine' FW.fnw_mk KX G ?a ?l ?c ?k; (case a => k_is); (case l => k_is); (case c => k_is); (case k => k_is))


