import PyProof.Rows.All
import Wide.All
import OpenK.AllK
import Wide.FinOn
import HandS.ForMost
import HandS.Exc
import HandS.ExcOwn
import HandS.CallSlots
import HandS.Wide
import HandS.Walk
import HandS.Zip
import HandS.TupAny
import HandS.TupLe
import HandS.Conv
import HandS.Flow
import HandS.SortInts
import HandS.Deep
import HandS.Lambda
import HandS.TupMul
import KE.KIndexOf
import KE.DataMinMax
import KE.DataAny
import KE.DataIsa
import KE.KTupSum
import HandS.WordsExc
import HandS.Style
import KE.GoesNew
import KE.GoesMore
import HandS.ExcCtx
import KE.KSortedM
import HandS.SetFor
import HandS.Strs
import HandS.ExcIs
import HandS.HotCalls
import KE.KIsAll
import HandS.TupSets
import HandS.EndTab
import HandS.EndBits
import HandS.SortRule
import KE.KSortTupAny
import HandS.Text
import HandS.FStr
import PyProof.Draws
import PySem.Challenge.RW_gapcarts_k10_whole_texts
import KE.SortData
import KE.IntTextLaws
import KE.IntTextText
import PyProof.StrLawsChain
set_option Elab.async false
set_option linter.all false
set_option maxRecDepth 100000
set_option maxHeartbeats 1000000
/-! the pure layer: values as data, slots of data, what an expression or a statement is worth over them -/
namespace G8
open PySem L2
abbrev D := PyData
abbrev Fg := PySem.W.Frag

mutual
inductive Rep (K : Fg) (H : Hp) (S : Addr → Prop) : D → V → Prop
  | non : Rep K H S .none .non
  | bl (b : Bool) : Rep K H S (.bool b) (.bl b)
  | int (i : Int) : Rep K H S (.int i) (.int i)
  | str (x : Str) : Rep K H S (.str x) (.str x)
  | tup {a : Addr} {xs : List V} {ds : List D} : SqT K H a xs → RepL K H S ds xs → Rep K H S (.tuple ds) (.ref a)
  | lst {a : Addr} {xs : List V} {ds : List D} : S a → H a = some (.lst xs) → RepL K H S ds xs → Rep K H S (.list ds) (.ref a)
  | dct {a : Addr} {o : Obj} {kvs : List (Key × V)} {es : List (D × D)} : S a → H a = some (.frz o (.dK kvs)) → RepD K H S es kvs → Rep K H S (.dict es) (.ref a)
inductive RepL (K : Fg) (H : Hp) (S : Addr → Prop) : List D → List V → Prop
  | nil : RepL K H S [] []
  | cons {d : D} {v : V} {ds : List D} {vs : List V} : Rep K H S d v → RepL K H S ds vs → RepL K H S (d :: ds) (v :: vs)
inductive RepD (K : Fg) (H : Hp) (S : Addr → Prop) : List (D × D) → List (Key × V) → Prop
  | nil : RepD K H S [] []
  | cons {i : Int} {d : D} {v : V} {es : List (D × D)} {kvs : List (Key × V)} : Rep K H S d v → RepD K H S es kvs → RepD K H S ((.int i, d) :: es) ((.inl i, v) :: kvs)
end

/-- what no step changes -/
def imm : HO → Prop
  | .tup _ => True
  | .frz _ _ => True
  | _ => False
/-- no table of code objects -/
def nt (o : HO) : Prop := ∀ ps, o ≠ .tbl ps
theorem nt_lst {xs : List V} : nt (.lst xs) := fun _ z => nomatch z
theorem nt_tup {xs : List V} : nt (.tup xs) := fun _ z => nomatch z
theorem nt_dK {xs : List (Key × V)} : nt (.dK xs) := fun _ z => nomatch z
theorem nt_frz {o : Obj} {u : HO} : nt (.frz o u) := fun _ z => nomatch z
/-- nothing but perhaps a table stands there -/
def Np (H : Hp) (p : Addr) : Prop := ∀ o, H p = some o → ¬ nt o
theorem np_none {H : Hp} {p : Addr} (h : H p = none) : Np H p := fun o e => by rw [h] at e; cases e
theorem np_ne {H : Hp} {a p : Addr} {o : HO} (h : H a = some o) (n : nt o) (q : Np H p) : a ≠ p := fun z => by rw [z] at h; exact q o h n
def Keep (A : Addr → Prop) (H H' : Hp) : Prop := ∀ a o, (A a ∨ imm o) → nt o → H a = some o → H' a = some o
theorem Keep.refl {A : Addr → Prop} {H : Hp} : Keep A H H := fun _ _ _ _ h => h
theorem Keep.trans {A : Addr → Prop} {H H1 H2 : Hp} (a : Keep A H H1) (b : Keep A H1 H2) : Keep A H H2 := fun c o p n h => b c o p n (a c o p n h)
theorem Keep.sub {A B : Addr → Prop} {H H' : Hp} (k : Keep A H H') (h : ∀ a, B a → A a) : Keep B H H' := fun c o p n e => k c o (p.imp (h c) id) n e
theorem Keep.sqT {A : Addr → Prop} {K : Fg} {H H' : Hp} {a : Addr} {xs : List V} (k : Keep A H H') (h : SqT K H a xs) : SqT K H' a xs := by
  rcases h with (h | ⟨o, h⟩) | h
  · exact .inl (.inl (k a _ (.inr trivial) nt_tup h))
  · exact .inl (.inr ⟨o, k a _ (.inr trivial) nt_frz h⟩)
  · exact .inr h
theorem Keep.sqL {A : Addr → Prop} {K : Fg} {H H' : Hp} {a : Addr} {xs : List V} (k : Keep A H H') (hA : A a) (h : SqL K H a xs) : SqL K H' a xs := by
  rcases h with (h | ⟨o, h⟩) | h
  · exact .inl (.inl (k a _ (.inl hA) nt_lst h))
  · exact .inl (.inr ⟨o, k a _ (.inl hA) nt_frz h⟩)
  · exact .inr h
theorem Keep.rd {A : Addr → Prop} {H H' : Hp} {a : Addr} {u : HO} (n : nt u) (k : Keep A H H') (hA : A a) (h : Rd H a u) : Rd H' a u := by
  rcases h with h | ⟨o, h⟩
  · exact .inl (k a _ (.inl hA) n h)
  · exact .inr ⟨o, k a _ (.inl hA) nt_frz h⟩
section
variable {K : Fg} {H H' : Hp} {S S' : Addr → Prop}
mutual
theorem Rep.mono (k : Keep S H H') (hs : ∀ a, S a → S' a) : ∀ {d : D} {v : V}, Rep K H S d v → Rep K H' S' d v
  | _, _, .non => .non
  | _, _, .bl b => .bl b
  | _, _, .int b => .int b
  | _, _, .str b => .str b
  | _, _, .tup h r => .tup (k.sqT h) (RepL.mono k hs r)
  | _, _, .lst a h r => .lst (hs _ a) (k _ _ (.inl a) nt_lst h) (RepL.mono k hs r)
  | _, _, .dct a h r => .dct (hs _ a) (k _ _ (.inl a) nt_frz h) (RepD.mono k hs r)
theorem RepL.mono (k : Keep S H H') (hs : ∀ a, S a → S' a) : ∀ {d : List D} {v : List V}, RepL K H S d v → RepL K H' S' d v
  | _, _, .nil => .nil
  | _, _, .cons h r => .cons (Rep.mono k hs h) (RepL.mono k hs r)
theorem RepD.mono (k : Keep S H H') (hs : ∀ a, S a → S' a) : ∀ {d : List (D × D)} {v : List (Key × V)}, RepD K H S d v → RepD K H' S' d v
  | _, _, .nil => .nil
  | _, _, .cons h r => .cons (Rep.mono k hs h) (RepD.mono k hs r)
end
theorem Rep.keep {d : D} {v : V} (r : Rep K H S d v) (k : Keep S H H') : Rep K H' S d v := r.mono k fun _ h => h
theorem RepL.keep {d : List D} {v : List V} (r : RepL K H S d v) (k : Keep S H H') : RepL K H' S d v := r.mono k fun _ h => h
theorem Rep.widen {d : D} {v : V} (r : Rep K H S d v) (h : ∀ a, S a → S' a) : Rep K H S' d v := r.mono Keep.refl h
theorem RepL.widen {d : List D} {v : List V} (r : RepL K H S d v) (h : ∀ a, S a → S' a) : RepL K H S' d v := r.mono Keep.refl h
theorem RepL.length : ∀ {d : List D} {v : List V}, RepL K H S d v → d.length = v.length
  | _, _, .nil => rfl
  | _, _, .cons _ r => by simp [RepL.length r]
theorem RepL.append : ∀ {d e : List D} {v w : List V}, RepL K H S d v → RepL K H S e w → RepL K H S (d ++ e) (v ++ w)
  | _, _, _, _, .nil, r => r
  | _, _, _, _, .cons h t, r => .cons h (RepL.append t r)
theorem RepL.one {d : D} {v : V} (r : Rep K H S d v) : RepL K H S [d] [v] := .cons r .nil
theorem RepL.get : ∀ {d : List D} {v : List V} {i : Nat} {x : D}, RepL K H S d v → d[i]? = some x → ∃ u, v[i]? = some u ∧ Rep K H S x u
  | _, _, _, _, .nil, e => by simp at e
  | _, _, 0, _, .cons r _, e => by simp at e; subst e; exact ⟨_, rfl, r⟩
  | _, _, i + 1, x, .cons _ t, e => by
    obtain ⟨u, h1, h2⟩ := RepL.get (i := i) (x := x) t (by simpa using e)
    exact ⟨u, by simpa using h1, h2⟩
theorem RepL.getV : ∀ {d : List D} {v : List V} {i : Nat} {u : V}, RepL K H S d v → v[i]? = some u → ∃ x, d[i]? = some x ∧ Rep K H S x u
  | _, _, _, _, .nil, e => by simp at e
  | _, _, 0, _, .cons r _, e => by simp at e; subst e; exact ⟨_, rfl, r⟩
  | _, _, i + 1, x, .cons _ t, e => by
    obtain ⟨u, h1, h2⟩ := RepL.getV (i := i) (u := x) t (by simpa using e)
    exact ⟨u, by simpa using h1, h2⟩
theorem RepL.set {x : D} {u : V} (r : Rep K H S x u) : ∀ {d : List D} {v : List V} (i : Nat), RepL K H S d v → RepL K H S (d.set i x) (v.set i u)
  | _, _, _, .nil => .nil
  | _, _, 0, .cons _ t => .cons r t
  | _, _, i + 1, .cons q t => .cons q (RepL.set r i t)
theorem RepL.drop : ∀ {d : List D} {v : List V} (n : Nat), RepL K H S d v → RepL K H S (d.drop n) (v.drop n)
  | _, _, 0, r => r
  | _, _, _ + 1, .nil => .nil
  | _, _, n + 1, .cons _ t => RepL.drop n t
theorem RepL.take : ∀ {d : List D} {v : List V} (n : Nat), RepL K H S d v → RepL K H S (d.take n) (v.take n)
  | _, _, 0, _ => .nil
  | _, _, _ + 1, .nil => .nil
  | _, _, n + 1, .cons r t => .cons r (RepL.take n t)
theorem RepL.reverse : ∀ {d : List D} {v : List V}, RepL K H S d v → RepL K H S d.reverse v.reverse
  | _, _, .nil => .nil
  | _, _, .cons h t => by
    rw [List.reverse_cons, List.reverse_cons]
    exact (RepL.reverse t).append (.one h)
theorem RepL.dropLast {d : List D} {v : List V} (r : RepL K H S d v) : RepL K H S d.dropLast v.dropLast := by
  rw [List.dropLast_eq_take, List.dropLast_eq_take, r.length]
  exact r.take _
theorem rd_ne {a p : Addr} {u : HO} (h : Rd H a u) (z : nt u) (n : Np H p) : a ≠ p := by
  rcases h with h | ⟨o, h⟩
  · exact np_ne h z n
  · exact np_ne h nt_frz n
mutual
theorem Rep.avoid {p : Addr} (n : Np H p) : ∀ {d : D} {v : V}, Rep K H S d v → Rep K H (fun a => S a ∧ a ≠ p) d v
  | _, _, .non => .non
  | _, _, .bl b => .bl b
  | _, _, .int b => .int b
  | _, _, .str b => .str b
  | _, _, .tup h r => .tup h (RepL.avoid n r)
  | _, _, .lst a h r => .lst ⟨a, np_ne h nt_lst n⟩ h (RepL.avoid n r)
  | _, _, .dct a h r => .dct ⟨a, np_ne h nt_frz n⟩ h (RepD.avoid n r)
theorem RepL.avoid {p : Addr} (n : Np H p) : ∀ {d : List D} {v : List V}, RepL K H S d v → RepL K H (fun a => S a ∧ a ≠ p) d v
  | _, _, .nil => .nil
  | _, _, .cons h r => .cons (Rep.avoid n h) (RepL.avoid n r)
theorem RepD.avoid {p : Addr} (n : Np H p) : ∀ {d : List (D × D)} {v : List (Key × V)}, RepD K H S d v → RepD K H (fun a => S a ∧ a ≠ p) d v
  | _, _, .nil => .nil
  | _, _, .cons h r => .cons (Rep.avoid n h) (RepD.avoid n r)
end
/-- lists of plain values -/
theorem repL_ints : ∀ {ns : List Int} {vs : List V}, RepL K H S (ns.map .int) vs → vs = ns.map .int
  | [], _, .nil => rfl
  | n :: ns, _, .cons (.int _) t => by rw [repL_ints t]; rfl
theorem repL_of_ints : ∀ (ns : List Int), RepL K H S (ns.map .int) (ns.map .int)
  | [] => .nil
  | n :: ns => .cons (.int n) (repL_of_ints ns)
theorem repL_bls : ∀ {ns : List Bool} {vs : List V}, RepL K H S (ns.map .bool) vs → vs = ns.map .bl
  | [], _, .nil => rfl
  | n :: ns, _, .cons (.bl _) t => by rw [repL_bls t]; rfl
mutual
theorem Rep.dp : ∀ {d : D} {v : V}, Rep K H S d v → SeqAt.shaped d = true → Dp K H v d
  | _, _, .non, _ => .non
  | _, _, .bl b, _ => .bl b
  | _, _, .int b, _ => .int b
  | _, _, .str b, _ => .str b
  | _, _, .tup h r, s => .tup h (RepL.dp r (by
      have := SeqAt.canLay_of_shaped s
      simpa [PyData.canLay0] using this))
  | _, _, .lst a h r, s => .lst (.inl (.inl h)) (RepL.dp r (by
      have := SeqAt.canLay_of_shaped s
      simpa [PyData.canLay0] using this))
  | _, _, .dct a h r, s => by
      have := SeqAt.canLay_of_shaped s
      simp [PyData.canLay0] at this
theorem RepL.dp : ∀ {d : List D} {v : List V}, RepL K H S d v → PyData.canLayAll0 d = true → DpAll K H v d
  | _, _, .nil, _ => .nil
  | _, _, .cons h r, s => by
      rw [PyData.canLayAll0, Bool.and_eq_true] at s
      exact .cons (Rep.dp' h s.1) (RepL.dp r s.2)
theorem Rep.dp' : ∀ {d : D} {v : V}, Rep K H S d v → d.canLay0 = true → Dp K H v d
  | _, _, .non, _ => .non
  | _, _, .bl b, _ => .bl b
  | _, _, .int b, _ => .int b
  | _, _, .str b, _ => .str b
  | _, _, .tup h r, s => .tup h (RepL.dp r (by simpa [PyData.canLay0] using s))
  | _, _, .lst a h r, s => .lst (.inl (.inl h)) (RepL.dp r (by simpa [PyData.canLay0] using s))
  | _, _, .dct a h r, s => by simp [PyData.canLay0] at s
end
end
end G8

set_option Elab.async false
set_option linter.all false
set_option maxRecDepth 100000
set_option maxHeartbeats 1000000
namespace G8
open PySem L2 LamX
/-- a slot: unknown, a value, a list of the def's own that nothing else holds, a dict likewise, the dice -/
inductive Sl where
  | un | val (d : D) | own (ds : List D) | ownd (es : List (D × D)) | dice
abbrev Rho := List Sl
abbrev Dl := Int × Int
@[simp] def Sl.isOwn : Sl → Bool
  | .own _ => true
  | .ownd _ => true
  | _ => false
/-- where a def runs: S the addresses that its values may reach, H0 the heap at its entry, dc the dice -/
structure Ct where
  K : Fg
  S : Addr → Prop
  H0 : Hp
  dc : Option Addr
  T : List (Addr × Str)
def Own (σ : L2.St) (ρ : Rho) (a : Addr) : Prop := ∃ (i : Nat) (s : Sl), ρ[i]? = some s ∧ s.isOwn = true ∧ σ[i]? = some (some (V.ref a))
def Av (C : Ct) (σ : L2.St) (ρ : Rho) (a : Addr) : Prop := C.S a ∧ ¬ Own σ ρ a
def Ext (C : Ct) (H H' : Hp) : Prop := ∀ a o, C.dc ≠ some a → nt o → H a = some o → H' a = some o
def diceO (δ : Dl) : HO := .lst [.int δ.1, .int δ.2]
def SlotOk (C : Ct) (H : Hp) (A : Addr → Prop) : Sl → Option V → Prop
  | .un, _ => True
  | .val d, some v => Rep C.K H A d v
  | .own ds, some v => ∃ p vs, v = .ref p ∧ H p = some (.lst vs) ∧ (Np C.H0 p ∧ C.S p) ∧ RepL C.K H A ds vs
  | .ownd es, some v => ∃ p kvs, v = .ref p ∧ H p = some (.dK kvs) ∧ (Np C.H0 p ∧ C.S p) ∧ RepD C.K H A es kvs
  | .dice, some v => ∃ p, C.dc = some p ∧ v = .ref p
  | _, none => False
structure EnvOk (C : Ct) (H : Hp) (σ : L2.St) (ρ : Rho) (δ : Dl) : Prop where
  len : σ.length = ρ.length
  slot : ∀ (i : Nat) (s : Sl), ρ[i]? = some s → ∃ ov, σ[i]? = some ov ∧ SlotOk C H (Av C σ ρ) s ov
  dis : ∀ (i j : Nat) (s t : Sl) (v : Option V), ρ[i]? = some s → ρ[j]? = some t → s.isOwn = true → t.isOwn = true → σ[i]? = some v → σ[j]? = some v → i = j
  ext : Ext C C.H0 H
  dc : ∀ a, C.dc = some a → H a = some (diceO δ) ∧ ¬ C.S a ∧ ∃ o, nt o ∧ C.H0 a = some o
  fr : ∀ a, ¬ C.S a → ∃ o, nt o ∧ H a = some o
  tb : Tabs C.T H
section
variable {C : Ct} {H H' H1 H2 : Hp} {σ σ' : L2.St} {ρ ρ' : Rho} {δ δ' : Dl}
theorem Ext.refl : Ext C H H := fun _ _ _ _ h => h
theorem Ext.trans (a : Ext C H H1) (b : Ext C H1 H2) : Ext C H H2 := fun c o p n h => b c o p n (a c o p n h)
theorem Ext.new {p : Addr} {o : HO} (h : H p = none) : Ext C H (upd H p o) := fun a u _ _ e => by
  rw [upd_ne (ne_of_none e h)]
  exact e
theorem nt_dice : nt (diceO δ) := nt_lst
theorem EnvOk.none_own (E : EnvOk C H σ ρ δ) {a : Addr} (h : Np H a) : ¬ Own σ ρ a := by
  rintro ⟨i, s, h1, h2, h3⟩
  obtain ⟨ov, e, k⟩ := E.slot i s h1
  rw [h3] at e; cases e
  cases s with
  | own ds => obtain ⟨p, vs, e, hp, _⟩ := k; cases e; exact h _ hp nt_lst
  | ownd ds => obtain ⟨p, vs, e, hp, _⟩ := k; cases e; exact h _ hp nt_dK
  | _ => cases h2
theorem EnvOk.none_h0 (E : EnvOk C H σ ρ δ) {a : Addr} (h : Np H a) : Np C.H0 a := fun o q n => by
  by_cases hd : C.dc = some a
  · exact h _ (E.dc a hd).1 nt_dice
  · exact h _ (E.ext a o hd n q) n
theorem EnvOk.frN (E : EnvOk C H σ ρ δ) {a : Addr} (h : Np H a) : C.S a := Classical.byContradiction fun z => by
  obtain ⟨o, n, e⟩ := E.fr a z
  exact h o e n
theorem EnvOk.freshN (E : EnvOk C H σ ρ δ) {a : Addr} (h : Np H a) : Av C σ ρ a := ⟨E.frN h, E.none_own h⟩
theorem EnvOk.fresh (E : EnvOk C H σ ρ δ) {a : Addr} (h : H a = none) : Av C σ ρ a := ⟨E.frN (np_none h), E.none_own (np_none h)⟩
theorem EnvOk.ndc (E : EnvOk C H σ ρ δ) {a : Addr} (h : Av C σ ρ a) : C.dc ≠ some a := fun e => (E.dc a e).2.1 h.1
theorem diceO_not_imm : ¬ imm (diceO δ) := fun h => h
theorem EnvOk.keep (E : EnvOk C H σ ρ δ) (x : Ext C H H') : Keep (Av C σ ρ) H H' := fun a o p n h => by
  refine x a o (fun e => ?_) n h
  rcases p with p | p
  · exact (E.dc a e).2.1 p.1
  · have := (E.dc a e).1
    rw [h] at this
    cases this
    exact diceO_not_imm p
theorem SlotOk.keep {A : Addr → Prop} {s : Sl} {ov : Option V} (h : SlotOk C H A s ov) (k : Keep A H H') (ko : ∀ p, s.isOwn = true → ov = some (.ref p) → H' p = H p) : SlotOk C H' A s ov := by
  cases s with
  | un => trivial
  | val d =>
    cases ov with
    | none => exact h
    | some v => exact Rep.keep h k
  | own ds =>
    cases ov with
    | none => exact h
    | some v =>
      obtain ⟨p, vs, rfl, h1, h2, h3⟩ := h
      exact ⟨p, vs, rfl, (ko p rfl rfl).trans h1, h2, h3.keep k⟩
  | ownd ds =>
    cases ov with
    | none => exact h
    | some v =>
      obtain ⟨p, vs, rfl, h1, h2, h3⟩ := h
      exact ⟨p, vs, rfl, (ko p rfl rfl).trans h1, h2, h3.mono k fun _ z => z⟩
  | dice =>
    cases ov with
    | none => exact h
    | some v => exact h
/-- the address of an own slot is not the dice -/
theorem EnvOk.own_ndc (E : EnvOk C H σ ρ δ) {a : Addr} (h : Own σ ρ a) : C.dc ≠ some a := fun e => by
  obtain ⟨i, s, h1, h2, h3⟩ := h
  obtain ⟨ov, e', k⟩ := E.slot i s h1
  rw [h3] at e'; cases e'
  cases s with
  | own ds => obtain ⟨p, vs, e2, _, hp, _⟩ := k; cases e2; obtain ⟨o, n, z⟩ := (E.dc a e).2.2; exact hp.1 o z n
  | ownd ds => obtain ⟨p, vs, e2, _, hp, _⟩ := k; cases e2; obtain ⟨o, n, z⟩ := (E.dc a e).2.2; exact hp.1 o z n
  | _ => cases h2
theorem EnvOk.own_there (E : EnvOk C H σ ρ δ) {a : Addr} (h : Own σ ρ a) : ∃ o, H a = some o ∧ nt o := Classical.byContradiction fun z => E.none_own (fun o e n => z ⟨o, e, n⟩) h
theorem EnvOk.grow (E : EnvOk C H σ ρ δ) (x : Ext C H H') (hd : ∀ a, C.dc = some a → H' a = some (diceO δ')) (ht : Tabs C.T H') : EnvOk C H' σ ρ δ' where
  len := E.len
  slot := fun i s h => by
    obtain ⟨ov, e, k⟩ := E.slot i s h
    refine ⟨ov, e, k.keep (E.keep x) fun p hs hp => ?_⟩
    have ho : Own σ ρ p := ⟨i, s, h, hs, by rw [e, hp]⟩
    obtain ⟨o, q, n⟩ := E.own_there ho
    rw [q]
    exact x p o (E.own_ndc ho) n q
  dis := E.dis
  ext := E.ext.trans x
  dc := fun a h => ⟨hd a h, (E.dc a h).2⟩
  fr := fun a h => by
    obtain ⟨o, n, e⟩ := E.fr a h
    by_cases hd' : C.dc = some a
    · exact ⟨_, nt_dice, hd a hd'⟩
    · exact ⟨o, n, x a o hd' n e⟩
  tb := ht
theorem EnvOk.grow0 (E : EnvOk C H σ ρ δ) (x : Same H H') : EnvOk C H' σ ρ δ := E.grow (fun a o _ _ h => x a o h) (fun a h => x a _ (E.dc a h).1) (E.tb.ext x)
end

/-- what is written to: no table, no code object -/
def pl (o : HO) : Prop := (∀ ps, o ≠ .tbl ps) ∧ ∀ f, o ≠ .ext f
theorem pl_lst {xs : List V} : pl (.lst xs) := ⟨fun _ z => (nomatch z), fun _ z => (nomatch z)⟩
theorem pl_dK {xs : List (Key × V)} : pl (.dK xs) := ⟨fun _ z => (nomatch z), fun _ z => (nomatch z)⟩
theorem tabs_but {T : List (Addr × Str)} {H H' : Hp} {p : Addr} {o : HO} (t : Tabs T H) (hp : H p = some o) (h : pl o) (e : ∀ b u, b ≠ p → H b = some u → H' b = some u) : Tabs T H' := fun x hx => by
  obtain ⟨ps, h1, h2, h3⟩ := t x hx
  refine ⟨ps, e _ _ (fun z => ?_) h1, h2, fun pos cv hc => ?_⟩
  · rw [z, hp] at h1
    exact h.1 ps (Option.some.inj h1)
  · obtain ⟨c, e1, e2⟩ := h3 pos cv hc
    refine ⟨c, e1, e _ _ (fun z => ?_) e2⟩
    rw [z, hp] at e2
    exact h.2 _ (Option.some.inj e2)
theorem tabs_upd {T : List (Addr × Str)} {H : Hp} {p : Addr} {o o' : HO} (t : Tabs T H) (hp : H p = some o) (h : pl o) : Tabs T (upd H p o') := tabs_but t hp h fun b u n e => by rw [upd_ne n]; exact e
theorem tabs_nil {H : Hp} : Tabs [] H := fun p hp => nomatch hp
/-! ### what an expression is worth -/
abbrev RR (α : Type) := Option (Except String α × Dl)
abbrev DE := Rho → Dl → RR D
abbrev DL := Rho → Dl → RR (List D)
/-- what is wanted of what is raised -/
abbrev Wx := String → L2.St → Hp → Prop
/-- what is wanted of a value: the heap ahead, the value, the dice, the heap behind -/
abbrev PR (α : Type) := Hp → α → Dl → Hp → Prop
def Post {α : Type} (C : Ct) (W : Wx) (σ : L2.St) (ρ : Rho) (R : PR α) (H : Hp) : RR α → Prop
  | none => False
  | some (.ok a, δ') => ∀ H', Ext C H H' → EnvOk C H' σ ρ δ' → R H a δ' H'
  | some (.error x, δ') => ∀ H', Ext C H H' → EnvOk C H' σ ρ δ' → W x σ H'
def Anti {α : Type} (C : Ct) (R : PR α) : Prop := ∀ H H1 a δ H', Ext C H H1 → R H a δ H' → R H1 a δ H'
def oE (C : Ct) (σ : L2.St) (ρ : Rho) (Q : VK) : PR D := fun _ d _ H' => ∀ v, Rep C.K H' (Av C σ ρ) d v → Q v H'
def oT (Q : Bool → Hp → Prop) : PR D := fun _ d _ H' => ∃ b, d = .bool b ∧ Q b H'
def oF (C : Ct) (σ : L2.St) (ρ : Rho) (Q : VK) : PR (List D) := fun H ds _ H' => ∀ p vs, Np H p → H' p = some (.lst vs) → RepL C.K H' (fun a => Av C σ ρ a ∧ a ≠ p) ds vs → Q (.ref p) H'
def oA (C : Ct) (σ : L2.St) (ρ : Rho) (Q : List V → Hp → Prop) : PR (List D) := fun _ ds _ H' => ∀ vs, RepL C.K H' (Av C σ ρ) ds vs → Q vs H'
def rdE (C : Ct) (W : Wx) (f : DE) : TE := fun σ H Q => ∃ ρ δ, EnvOk C H σ ρ δ ∧ Post C W σ ρ (oE C σ ρ Q) H (f ρ δ)
def rdT (C : Ct) (W : Wx) (f : DE) : TT := fun σ H Q => ∃ ρ δ, EnvOk C H σ ρ δ ∧ Post C W σ ρ (oT Q) H (f ρ δ)
/-- a new list -/
def rdF (C : Ct) (W : Wx) (f : DL) : TE := fun σ H Q => ∃ ρ δ, EnvOk C H σ ρ δ ∧ Post C W σ ρ (oF C σ ρ Q) H (f ρ δ)
def rdA (C : Ct) (W : Wx) (f : DL) : TA := fun σ H Q => ∃ ρ δ, EnvOk C H σ ρ δ ∧ Post C W σ ρ (oA C σ ρ Q) H (f ρ δ)

/-! ### combinators -/
@[reducible, simp] def bnd {α β : Type} (x : Option (Except String α × Dl)) (k : α → Dl → Option (Except String β × Dl)) : Option (Except String β × Dl) :=
  match x with
  | none => none
  | some (.ok a, δ) => k a δ
  | some (.error e, δ) => some (.error e, δ)
@[reducible, simp] def lft {α : Type} (o : Option α) (δ : Dl) : Option (Except String α × Dl) :=
  match o with
  | none => none
  | some a => some (.ok a, δ)
@[simp] def dC (d : D) : DE := fun _ δ => some (.ok d, δ)
@[simp] def dV (i : Nat) : DE := fun ρ δ => match ρ[i]? with
  | some (.val d) => some (.ok d, δ)
  | _ => none
/-- a slot that is only looked at: an own list too -/
@[simp] def dB (i : Nat) : DE := fun ρ δ => match ρ[i]? with
  | some (.val d) => some (.ok d, δ)
  | some (.own ds) => some (.ok (.list ds), δ)
  | _ => none
@[simp] def d1 (g : D → Option D) (f : DE) : DE := fun ρ δ => bnd (f ρ δ) fun a δ => lft (g a) δ
@[simp] def d2 (g : D → D → Option D) (f h : DE) : DE := fun ρ δ => bnd (f ρ δ) fun a δ => bnd (h ρ δ) fun b δ => lft (g a b) δ
@[simp] def f2 (g : D → D → Option (List D)) (f h : DE) : DL := fun ρ δ => bnd (f ρ δ) fun a δ => bnd (h ρ δ) fun b δ => lft (g a b) δ
@[simp] def dIf (t f h : DE) : DE := fun ρ δ => bnd (t ρ δ) fun a δ => match a with
  | .bool true => f ρ δ
  | .bool false => h ρ δ
  | _ => none
@[simp] def dAnd (f h : DE) : DE := fun ρ δ => bnd (f ρ δ) fun a δ => match a with
  | .bool true => h ρ δ
  | .bool false => some (.ok (.bool false), δ)
  | _ => none
@[simp] def dOr (f h : DE) : DE := fun ρ δ => bnd (f ρ δ) fun a δ => match a with
  | .bool true => some (.ok (.bool true), δ)
  | .bool false => h ρ δ
  | _ => none
@[simp] def dNot (f : DE) : DE := fun ρ δ => bnd (f ρ δ) fun a δ => match a with
  | .bool b => some (.ok (.bool (!b)), δ)
  | _ => none
@[simp] def aNil : DL := fun _ δ => some (.ok [], δ)
@[simp] def aCons (f : DE) (r : DL) : DL := fun ρ δ => bnd (f ρ δ) fun a δ => bnd (r ρ δ) fun as δ => some (.ok (a :: as), δ)
@[simp] def dL (f : DL) : DE := fun ρ δ => bnd (f ρ δ) fun ds δ => some (.ok (.list ds), δ)
@[simp] def dTup (f : DL) : DE := fun ρ δ => bnd (f ρ δ) fun ds δ => if ds.length ≤ 10000 then some (.ok (.tuple ds), δ) else none
@[simp] def fLst (f : DL) : DL := fun ρ δ => bnd (f ρ δ) fun ds δ => if ds.length ≤ 10000 then some (.ok ds, δ) else none
/-- a built-in of one list of arguments -/
@[simp] def dCB (g : List D → Option D) (f : DL) : DE := fun ρ δ => bnd (f ρ δ) fun ds δ => lft (g ds) δ
@[simp] def fCB (g : List D → Option (List D)) (f : DL) : DL := fun ρ δ => bnd (f ρ δ) fun ds δ => lft (g ds) δ
/-- a def: what it returns or raises -/
abbrev Fs := List D → Option (Except String D)
@[simp] def dCall (g : Fs) (f : DL) : DE := fun ρ δ => bnd (f ρ δ) fun ds δ => match g ds with
  | none => none
  | some r => some (r, δ)

section
variable {X : Cx} {C : Ct} {W : Wx} {e a b : Expr} {f g h : DE} {pos : Pos}
theorem _root_.L2.PE.imp {t t' : TE} (p : PE X e t) (h : ∀ σ H Q, t' σ H Q → t σ H Q) : PE X e t' := ⟨fun pins s σ H Q I q => p.run pins s σ H Q I (h σ H Q q)⟩
theorem _root_.L2.PT.imp {t t' : TT} (p : PT X e t) (h : ∀ σ H Q, t' σ H Q → t σ H Q) : PT X e t' := ⟨fun pins s σ H Q I q => p.run pins s σ H Q I (h σ H Q q)⟩
theorem _root_.L2.PW.imp {t t' : TT} (p : PW X e t) (h : ∀ σ H Q, t' σ H Q → t σ H Q) : PW X e t' := ⟨fun w pins s σ H Q I q => p.run w pins s σ H Q I (h σ H Q q)⟩
theorem _root_.L2.PA.imp {es : List Expr} {t t' : TA} (p : PA X es t) (h : ∀ σ H Q, t' σ H Q → t σ H Q) : PA X es t' := ⟨fun ps pins s σ H Q I q => p.run ps pins s σ H Q I (h σ H Q q)⟩
theorem _root_.L2.PS.imp {st : Stmt} {t t' : TS} (p : PS X st t) (h : ∀ D σ H, t' D σ H → t D σ H) : PS X st t' := ⟨fun pins s σ H D I q => p.run pins s σ H D I (h D σ H q)⟩
theorem _root_.L2.PSs.imp {st : List Stmt} {t t' : TS} (p : PSs X st t) (h : ∀ D σ H, t' D σ H → t D σ H) : PSs X st t' := ⟨fun pins s σ H D I q => p.run pins s σ H D I (h D σ H q)⟩

theorem anti_E {σ : L2.St} {ρ : Rho} {Q : VK} : Anti C (oE C σ ρ Q) := fun _ _ _ _ _ _ h => h
theorem anti_T {Q : Bool → Hp → Prop} : Anti C (oT Q) := fun _ _ _ _ _ _ h => h
theorem anti_A {σ : L2.St} {ρ : Rho} {Q : List V → Hp → Prop} : Anti C (oA C σ ρ Q) := fun _ _ _ _ _ _ h => h
end
section
variable {C : Ct} {W : Wx} {σ : L2.St} {ρ : Rho} {δ : Dl} {H H1 : Hp}
theorem ext_none {p : Addr} (E : EnvOk C H σ ρ δ) (x : Ext C H H1) (E1 : ∃ δ, EnvOk C H1 σ ρ δ) (h : Np H1 p) : Np H p := fun o q n => by
  by_cases hd : C.dc = some p
  · obtain ⟨δ1, E1⟩ := E1
    exact h _ (E1.dc p hd).1 nt_dice
  · exact h o (x p o hd n q) n
theorem Post.mono {α : Type} {R R' : PR α} {r : RR α} (p : Post C W σ ρ R H r) (h : ∀ a δ' H', Ext C H H' → EnvOk C H' σ ρ δ' → R H a δ' H' → R' H a δ' H') : Post C W σ ρ R' H r := by
  cases r with
  | none => exact p
  | some r =>
    obtain ⟨r, δ'⟩ := r
    cases r with
    | ok a => exact fun H' x E => h a δ' H' x E (p H' x E)
    | error x => exact p
theorem Post.seq {α β : Type} {R : PR β} {x : RR α} {k : α → Dl → RR β} (p : Post C W σ ρ R H (bnd x k)) (m : Anti C R) : Post C W σ ρ (fun _ a δ1 H1 => Post C W σ ρ R H1 (k a δ1)) H x := by
  cases x with
  | none => exact p
  | some r =>
    obtain ⟨r, δ'⟩ := r
    cases r with
    | error x => exact p
    | ok a =>
      intro H1 x1 E1
      have p : Post C W σ ρ R H (k a δ') := p
      revert p
      cases k a δ' with
      | none => exact fun p => p
      | some r =>
        obtain ⟨r, δ2⟩ := r
        cases r with
        | ok b => exact fun p H2 x2 E2 => m _ _ _ _ _ x1 (p H2 (x1.trans x2) E2)
        | error x => exact fun p H2 x2 E2 => p H2 (x1.trans x2) E2
theorem Post.val {α : Type} {R : PR α} {a : α} (E : EnvOk C H σ ρ δ) (p : Post C W σ ρ R H (some (.ok a, δ))) : R H a δ H := p H Ext.refl E
/-- what needs no step -/
theorem Post.lft {α : Type} {R : PR α} {o : Option α} (p : Post C W σ ρ R H (lft o δ)) : ∃ a, o = some a ∧ ∀ H', Ext C H H' → EnvOk C H' σ ρ δ → R H a δ H' := by
  cases o with
  | none => exact p.elim
  | some a => exact ⟨a, rfl, p⟩
end
end G8

set_option Elab.async false
set_option linter.all false
set_option maxRecDepth 100000
set_option maxHeartbeats 1000000
namespace G8
open PySem L2 LamX
section
variable {X : Cx} {C : Ct} {W : Wx} {e a b : Expr} {f g h : DE} {pos : Pos} {σ : L2.St} {ρ : Rho} {δ : Dl} {H H1 : Hp}
theorem same_ext (s : Same H H1) : Ext C H H1 := fun a o _ _ h => s a o h
/-! ### operators on values -/
def R2Ok (K : Fg) (r : R2) (g : D → D → Option D) : Prop := ∀ (A : Addr → Prop) (H : Hp) (x y : V) (d e z : D) (Q : VK), (∀ a, H a = none → A a) → Rep K H A d x → Rep K H A e y → g d e = some z →
  (∀ v H', Same H H' → Rep K H' A z v → Q v H') → r x y H Q
def R1Ok (K : Fg) (r : V → Hp → VK → Prop) (g : D → Option D) : Prop := ∀ (A : Addr → Prop) (H : Hp) (x : V) (d z : D) (Q : VK), (∀ a, H a = none → A a) → Rep K H A d x → g d = some z →
  (∀ v H', Same H H' → Rep K H' A z v → Q v H') → r x H Q
def RCOk (K : Fg) (r : List V → Hp → VK → Prop) (g : List D → Option D) : Prop := ∀ (A : Addr → Prop) (H : Hp) (xs : List V) (ds : List D) (z : D) (Q : VK), (∀ a, H a = none → A a) → RepL K H A ds xs → g ds = some z →
  (∀ v H', Same H H' → Rep K H' A z v → Q v H') → r xs H Q
/-- a new list -/
def RCFk (K : Fg) (r : List V → Hp → VK → Prop) (g : List D → Option (List D)) : Prop := ∀ (A : Addr → Prop) (H : Hp) (xs : List V) (ds zs : List D) (Q : VK), (∀ a, H a = none → A a) → RepL K H A ds xs → g ds = some zs →
  (∀ p vs H', H p = none → Same H H' → H' p = some (.lst vs) → RepL K H' (fun a => A a ∧ a ≠ p) zs vs → Q (.ref p) H') → r xs H Q
theorem same_new {p : Addr} {o : HO} (h : H p = none) : Same H (upd H p o) := fun a u e => by
  rw [upd_ne (ne_of_none e h)]
  exact e
theorem same_keep {A : Addr → Prop} (s : Same H H1) : Keep A H H1 := fun a o _ _ h => s a o h
theorem rd_two {r : R2} {g : D → D → Option D} {f h : DE} {Q : VK} (k : R2Ok C.K r g) (p : rdE C W (d2 g f h) σ H Q) : tOp r (rdE C W f) (rdE C W h) σ H Q := by
  obtain ⟨ρ, δ, E, p⟩ := p
  refine ⟨ρ, δ, E, (p.seq anti_E).mono fun a δ1 H1 x1 E1 q v rv => ⟨ρ, δ1, E1, (q.seq anti_E).mono fun b δ2 H2 x2 E2 q2 w rw => ?_⟩⟩
  obtain ⟨z, e, q3⟩ := q2.lft
  exact k (Av C σ ρ) H2 v w a b z Q (fun a h => E2.fresh h) (rv.keep (E1.keep x2)) rw e fun u H' s ru => q3 H' (same_ext s) (E2.grow0 s) u ru
theorem rd_one {r : V → Hp → VK → Prop} {g : D → Option D} {f : DE} {Q : VK} (k : R1Ok C.K r g) (p : rdE C W (d1 g f) σ H Q) : tUn r (rdE C W f) σ H Q := by
  obtain ⟨ρ, δ, E, p⟩ := p
  refine ⟨ρ, δ, E, (p.seq anti_E).mono fun a δ1 H1 x1 E1 q v rv => ?_⟩
  obtain ⟨z, e, q3⟩ := q.lft
  exact k (Av C σ ρ) H1 v a z Q (fun a h => E1.fresh h) rv e fun u H' s ru => q3 H' (same_ext s) (E1.grow0 s) u ru
theorem rd_call {r : List V → Hp → VK → Prop} {g : List D → Option D} {f : DL} {Q : VK} (k : RCOk C.K r g) (p : rdE C W (dCB g f) σ H Q) : tCB r (rdA C W f) σ H Q := by
  obtain ⟨ρ, δ, E, p⟩ := p
  refine ⟨ρ, δ, E, (p.seq anti_E).mono fun a δ1 H1 x1 E1 q v rv => ?_⟩
  obtain ⟨z, e, q3⟩ := q.lft
  exact k (Av C σ ρ) H1 v a z Q (fun a h => E1.fresh h) rv e fun u H' s ru => q3 H' (same_ext s) (E1.grow0 s) u ru
theorem ext_same_none {p : Addr} (E : EnvOk C H σ ρ δ) (x : Ext C H H1) {δ1 : Dl} (E1 : EnvOk C H1 σ ρ δ1) (h : Np H1 p) : Np H p := ext_none E x ⟨δ1, E1⟩ h
theorem rd_callF {r : List V → Hp → VK → Prop} {g : List D → Option (List D)} {f : DL} {Q : VK} (k : RCFk C.K r g) (p : rdF C W (fCB g f) σ H Q) : tCB r (rdA C W f) σ H Q := by
  obtain ⟨ρ, δ, E, p⟩ := p
  have p' : Post C W σ ρ (fun _ ds δ' H' => ∀ p vs, Np H p → H' p = some (.lst vs) → RepL C.K H' (fun a => Av C σ ρ a ∧ a ≠ p) ds vs → Q (.ref p) H') H (bnd (f ρ δ) fun ds δ => lft (g ds) δ) := p
  refine ⟨ρ, δ, E, (p'.seq fun _ _ _ _ _ _ h => h).mono fun a δ1 H1 x1 E1 q v rv => ?_⟩
  obtain ⟨z, e, q3⟩ := q.lft
  exact k (Av C σ ρ) H1 v a z Q (fun a h => E1.fresh h) rv e fun p vs H' hp s hv ru => q3 H' (same_ext s) (E1.grow0 s) p vs (ext_same_none E x1 E1 (np_none hp)) hv ru

/-! ### names, constants -/
theorem pd_var (i : Nat) {x : Str} {pos : Pos} (hN : X.N[i]? = some x := by rfl) (hv : Vis X.env.scope x := by first | exact Or.inl rfl | exact Or.inr (Or.inl rfl) | exact Or.inr (Or.inr rfl))
    (hd : (x == ("__debug__" : Str)) = false := by decide) (hcd : (x == ("__classdict__" : Str)) = false := by decide) : PE X (.Name x pos) (rdE C W (dV i)) := by
  refine (pe_var (i := i) hN hv hd hcd).imp fun σ H Q p => ?_
  obtain ⟨ρ, δ, E, p⟩ := p
  unfold dV at p
  cases e : ρ[i]? with
  | none => rw [e] at p; exact p.elim
  | some s =>
    rw [e] at p
    cases s with
    | val d =>
      obtain ⟨ov, e1, k⟩ := E.slot i _ e
      cases ov with
      | none => exact k.elim
      | some v => exact ⟨v, e1, p.val E v k⟩
    | _ => exact p.elim
/-- a slot that is looked at: v stands for d, its parts are apart from what is owned -/
theorem EnvOk.look (E : EnvOk C H σ ρ δ) {i : Nat} {d : D} {δ' : Dl} (h : dB i ρ δ = some (.ok d, δ')) : δ' = δ ∧ ∃ v, σ[i]? = some (some v) ∧ Rep C.K H C.S d v ∧
    (match d with
      | .list ds => ∃ a xs, v = .ref a ∧ H a = some (.lst xs) ∧ RepL C.K H (Av C σ ρ) ds xs
      | .dict es => ∃ a o kvs, v = .ref a ∧ H a = some (.frz o (.dK kvs)) ∧ RepD C.K H (Av C σ ρ) es kvs
      | _ => Rep C.K H (Av C σ ρ) d v) := by
  unfold dB at h
  cases e : ρ[i]? with
  | none => rw [e] at h; cases h
  | some s =>
    rw [e] at h
    obtain ⟨ov, e1, k⟩ := E.slot i _ e
    cases s with
    | val d' =>
      cases h
      cases ov with
      | none => exact k.elim
      | some v =>
        refine ⟨rfl, v, e1, Rep.widen k fun _ z => z.1, ?_⟩
        cases k with
        | lst _ h1 h2 => exact ⟨_, _, rfl, h1, h2⟩
        | dct _ h1 h2 => exact ⟨_, _, _, rfl, h1, h2⟩
        | tup h1 h2 => exact .tup h1 h2
        | non => exact .non
        | bl b => exact .bl b
        | int b => exact .int b
        | str b => exact .str b
    | own ds =>
      cases h
      cases ov with
      | none => exact k.elim
      | some v =>
        obtain ⟨p, vs, rfl, h1, h2, h3⟩ := k
        exact ⟨rfl, _, e1, .lst h2.2 h1 (h3.widen fun _ z => z.1), p, vs, rfl, h1, h3⟩
    | ownd ds => cases h
    | un => cases h
    | dice => cases h
theorem pd_int {i j pos} : PE X (.Constant (.int i) j pos) (rdE C W (dC (.int i))) := pe_int.imp fun σ H Q ⟨ρ, δ, E, p⟩ => p.val E _ (.int i)
theorem pd_bl {b j pos} : PE X (.Constant (.bool b) j pos) (rdE C W (dC (.bool b))) := pe_bl.imp fun σ H Q ⟨ρ, δ, E, p⟩ => p.val E _ (.bl b)
theorem pd_non {j pos} : PE X (.Constant .none j pos) (rdE C W (dC .none)) := pe_non.imp fun σ H Q ⟨ρ, δ, E, p⟩ => p.val E _ .non
theorem pd_str {x j pos} : PE X (.Constant (.str x) j pos) (rdE C W (dC (.str x))) := pe_str.imp fun σ H Q ⟨ρ, δ, E, p⟩ => p.val E _ (.str x)
/-- a constant of the module: an int -/
theorem pd_glob {x : Str} {i : Int} {t : Tok} {pos : Pos} (hm : X.mg x = some (.int i t)) (hg : Gl X x := by rfl) (hd : (x == ("__debug__" : Str)) = false := by decide) : PE X (.Name x pos) (rdE C W (dC (.int i))) :=
  (pe_glob (v := .int i) hg hm ⟨t, rfl⟩ hd).imp fun σ H Q ⟨ρ, δ, E, p⟩ => p.val E _ (.int i)
theorem pd_globS {x : Str} {z : Str} {t : Tok} {pos : Pos} (hm : X.mg x = some (.str z t)) (hg : Gl X x := by rfl) (hd : (x == ("__debug__" : Str)) = false := by decide) : PE X (.Name x pos) (rdE C W (dC (.str z))) :=
  (pe_glob (v := .str z) hg hm ⟨t, rfl⟩ hd).imp fun σ H Q ⟨ρ, δ, E, p⟩ => p.val E _ (.str z)

/-! ### operators -/
theorem pd_op {op : Operator} {r : R2} {g : D → D → Option D} (ho : OpR X (binaryOp op) r) (k : R2Ok C.K r g) (ha : PE X a (rdE C W f)) (hb : PE X b (rdE C W h)) : PE X (.BinOp a op b pos) (rdE C W (d2 g f h)) :=
  (pe_op ho ha hb).imp fun _ _ _ p => rd_two k p
theorem pd_un {op : UnaryOp} {r : V → Hp → VK → Prop} {g : D → Option D} (ho : UnR X (unaryOp op) r) (k : R1Ok C.K r g) (ha : PE X a (rdE C W f)) : PE X (.UnaryOp op a pos) (rdE C W (d1 g f)) :=
  (pe_un ho ha).imp fun _ _ _ p => rd_one k p
theorem R2Ok.or {K : Fg} {r r' : R2} {g g' : D → D → Option D} (a : R2Ok K r g) (b : R2Ok K r' g') : R2Ok K (fun x y H Q => r x y H Q ∨ r' x y H Q) (fun d e => (g d e).or (g' d e)) :=
  fun A H x y d e z Q hf rd re hz q => by
    cases hg : g d e with
    | some z' =>
      have hz : (g d e).or (g' d e) = some z := hz
      rw [hg] at hz
      cases hz
      exact .inl (a A H x y d e _ Q hf rd re hg q)
    | none =>
      have hz : (g d e).or (g' d e) = some z := hz
      rw [hg] at hz
      exact .inr (b A H x y d e z Q hf rd re hz q)
def gII (g : Int → Int → D) : D → D → Option D
  | .int i, .int j => some (g i j)
  | _, _ => none
theorem k_I0 {K : Fg} {g : Int → Int → V} {g' : Int → Int → D} (hg : ∀ i j H A, Rep K H A (g' i j) (g i j)) : R2Ok K (rI0 g) (gII g') := fun A H x y d e z Q _ rd re hz q => by
  cases rd <;> cases re <;> first | cases hz | skip
  exact ⟨_, _, rfl, rfl, q _ H (Same.refl H) (hg _ _ _ _)⟩
/-- sums: ints, texts, tuples, lists -/
@[simp] def gAdd : D → D → Option D
  | .int i, .int j => some (.int (i + j))
  | .str x, .str y => if x.length + y.length ≤ 100000 then some (.str (x ++ y)) else none
  | .tuple xs, .tuple ys => if xs.length + ys.length ≤ 100000 then some (.tuple (xs ++ ys)) else none
  | .list xs, .list ys => if xs.length + ys.length ≤ 100000 then some (.list (xs ++ ys)) else none
  | _, _ => none
theorem ite_some {α : Type} {c : Prop} [Decidable c] {a z : α} (h : (if c then some a else none) = some z) : c ∧ a = z := by
  by_cases hc : c
  · rw [if_pos hc] at h
    exact ⟨hc, Option.some.inj h⟩
  · rw [if_neg hc] at h
    cases h
theorem to_line {n : Nat} (h : n ≤ 100000) : n ≤ sizeLine := Nat.le_trans h (by decide)
theorem RepL.nil_of {K : Fg} {A : Addr → Prop} {ds : List D} (r : RepL K H A ds []) : ds = [] := by cases r; rfl
theorem k_add {K : Fg} : R2Ok K (fun x y H Q => rI0 (fun i j => .int (i + j)) x y H Q ∨ (∃ i j, x = .str i ∧ y = .str j ∧ i.length + j.length ≤ sizeLine ∧ Q (.str (i ++ j)) H) ∨ rCatA K x y H Q ∨ rCat x y H Q) gAdd := fun A H x y d e z Q hf rd re hz q => by
  cases rd with
  | int i =>
    cases re with
    | int j =>
      cases hz
      exact .inl ⟨_, _, rfl, rfl, q _ H (Same.refl H) (.int _)⟩
    | _ => cases hz
  | str x =>
    cases re with
    | str y =>
      obtain ⟨hl, rfl⟩ := ite_some hz
      exact .inr (.inl ⟨_, _, rfl, rfl, to_line hl, q _ H (Same.refl H) (.str _)⟩)
    | _ => cases hz
  | tup h1 r1 =>
    cases re with
    | tup h2 r2 =>
      obtain ⟨hl, rfl⟩ := ite_some hz
      rw [r1.length, r2.length] at hl
      refine .inr (.inr (.inl ⟨_, _, _, _, rfl, rfl, h1, h2, to_line hl, fun e => ?_, fun n e => ?_, fun n m p hp => ?_⟩))
      · subst e
        cases r1
        exact q _ H (Same.refl H) (.tup h2 r2)
      · subst e
        cases r2
        rw [List.append_nil] at q
        exact q _ H (Same.refl H) (.tup h1 r1)
      · exact q _ _ (same_new hp) (.tup (.inl (.inl upd_same)) ((r1.append r2).keep (same_keep (same_new hp))))
    | _ => cases hz
  | lst a1 h1 r1 =>
    cases re with
    | lst a2 h2 r2 =>
      obtain ⟨hl, rfl⟩ := ite_some hz
      rw [r1.length, r2.length] at hl
      refine .inr (.inr (.inr ⟨_, _, _, _, rfl, rfl, h1, h2, to_line hl, fun p hp => ?_⟩))
      exact q _ _ (same_new hp) (.lst (hf p hp) upd_same ((r1.append r2).keep (same_keep (same_new hp))))
    | _ => cases hz
  | _ => cases re <;> cases hz
theorem o_add : OpR X (binaryOp .Add) (fun x y H Q => rI0 (fun i j => .int (i + j)) x y H Q ∨ (∃ i j, x = .str i ∧ y = .str j ∧ i.length + j.length ≤ sizeLine ∧ Q (.str (i ++ j)) H) ∨ rCatA X.K x y H Q ∨ rCat x y H Q) :=
  op_add.or (op_add_str.or (op_catA.or op_cat))
end
end G8

set_option Elab.async false
set_option linter.all false
set_option maxRecDepth 100000
set_option maxHeartbeats 4000000
/-! rules that HandS lacks: t * 1, sorted(t), t.index(i) of a tuple t of ints -/
namespace G8
open PySem PySem.Spec PyProof.Rows L2
theorem tuple_mul1 (l : Addr) (items : Array Value) (n : Nat) (dd : Option Addr) (sl : Array (Option Value)) (u : Tok) :
    Meets (Builtin.«tuple.__mul__» ⟨[.ref l, .int 1 u], []⟩) (fun _ R s => s.heap.get? l = some { cls := .type "tuple", dict := dd, data := .seq items n, slots := sl } ∧ R (.ok (.ret (Value.ref l))) s) :=
  .of_wp fun prog w A R s h => by
    obtain ⟨hp, g, d, tk, os⟩ := s
    obtain ⟨hl, h⟩ := h
    have f1 := AutoSeq1.idx_int
    wp_walk using wpAny_loadPart' hl
    exact ⟨_, rfl, h⟩
section
variable {X : Cx}
/-- t * 1 is t -/
def rRep1 (K : PySem.W.Frag) : R2 := fun x y H Q => ∃ l xs, x = .ref l ∧ y = .int 1 ∧ SqT K H l xs ∧ Q (.ref l) H
theorem op_rep1 : OpR X (binaryOp .Mult) (rRep1 X.K) := by
  intro pins s σ H x y v u Q I rx ry h
  obtain ⟨l, xs, rfl, rfl, hT, q⟩ := h
  cases rx
  obtain ⟨t, rfl⟩ := ry
  obtain ⟨its, r, ⟨o, ho, hc, n, hd⟩, hs⟩ := I.tuple hT
  obtain ⟨c1, c2, c3, c4⟩ := o
  obtain rfl : c1 = _ := hc
  obtain rfl : c3 = _ := hd
  exact wpAny_binaryOp_repeat_ref (T := "tuple") (U := "int") (by decide) ⟨_, ho, rfl⟩ (fun s' => typeIs_int s' 1 t) noFill_tuple_mul F.fills_int_mul F.slot_int_rmul repeat_tuple F.slot_int_index.lookup
    (call_meets F.slot_int_rmul (typeIs_int s 1 t) F.entry_int_rmul (F.args_int_rmul_2 _ _) (int_rmul_tuple 1 t l its.toArray n c2 c4) ⟨ho, rfl, ⟨_, ho, rfl⟩, call_meets F.slot_tuple_mul ⟨_, ho, rfl⟩ F.entry_tuple_mul (F.args_tuple_mul_2 _ _) (tuple_mul1 l its.toArray n c2 c4 t) ⟨ho, .ref l, H, I, rfl, q⟩⟩)
end
section
variable {prog : Program} {w : World} {A : Around} {E : Value → Shared → Prop} {s : Shared}
theorem collect_tup {l : Addr} {vs : List Value} {Q : List Value → Shared → Prop} (hl : s.heap.IsTuple l vs.toArray) (hsz : vs.length ≤ sizeLine)
    (q : Q vs { s with heap := (s.heap.push (seqObj "list" #[] 0)).update s.heap.objs.size (Obj.mapSeq (· ++ vs.toArray)) }) : wpAny (model prog w) A (collect (.ref l)) Q E s := by
  obtain ⟨o, e, c, n, d⟩ := id hl
  have e' : (s.heap.push (seqObj "list" #[] 0)).get? l = some o := Heap.get?_push_of_some _ e
  unfold collect
  refine wpAny_bind (wpAny_runValue (codeAny_builtin entry_proto_collect' ?_))
  show wpAny _ _ (do again (.builtin "list.__iadd__" ⟨[← newList [], .ref l], []⟩)) _ _ s
  refine wpAny_bind (wpAny_newList (wpAny_pure ⟨Code.quiet_builtin _ (by decide +kernel), codeAny_builtin entry_list_iadd' ?_⟩))
  show wpAny _ _ (Builtin.List.listExtendWith (.ref s.heap.objs.size) (.ref l) (.ref s.heap.objs.size)) _ _ _
  unfold Builtin.List.listExtendWith
  refine wpAny_bind (wpAny_typeOf (T := "tuple") ⟨o, e', c⟩ ?_)
  rw [if_pos (by rw [show (Value.type "tuple" == Value.type "tuple") = true from rfl]; simp)]
  have m0 := Heap.get?_push_size (o := seqObj "list" #[] 0) s.heap rfl
  refine wpAny_bind (listItems_at e' d (wpAny_bind (listItems_at (xs := #[]) (n := 0) m0 rfl ?_)))
  rw [if_neg (by simp)]
  refine wpAny_bind (listUpdate_at (xs := #[]) (n := 0) m0 rfl (wpAny_pure ?_) (Nat.zero_le _) (by show (#[] ++ vs.toArray).size ≤ sizeLine + 1; simp; omega))
  refine wpAny_bind (m := load s.heap.objs.size) (wpAny_load (get?_update_seq m0 _) ?_)
  refine wpAny_pure ?_
  have z : ((#[] : Array Value) ++ vs.toArray).toList = vs := by simp
  rw [z]
  exact q
/-- sorted(t), t a tuple of ints -/
theorem sorted_tup {l : Addr} {vs : List Value} {ns : List Int} {Q : Value → Shared → Prop} (hl : s.heap.IsTuple l vs.toArray) (hz : vs.length ≤ sizeLine) (hi : IntsAre vs ns)
    (q : ∀ out : List Value, IntsAre out (out.map SrtO.iv) → (out.map SrtO.iv).Perm ns → (out.map SrtO.iv).Pairwise (· ≤ ·) → Q (.ref (s.heap.objs.size + 1)) { s with heap := sortedAll s.heap vs out.toArray }) :
    wpAny (model prog w) A (call (.builtin "sorted") [.ref l]) Q E s := by
  refine Calls.call_function_entry kind_sorted plain_sorted entry_sorted (args_sorted1 _) ?_
  unfold Builtin.«sorted»
  refine wpAny_bind (m := checkCount "sorted" 1 1 _) (wpAny_pure (wpAny_bind (collect_tup hl hz (wpAny_bind (wpAny_newList ?_ hz)))))
  have n1 : ((s.heap.push (seqObj "list" #[] 0)).update s.heap.objs.size (Obj.mapSeq (· ++ vs.toArray))).objs.size = s.heap.objs.size + 1 := by rw [Heap.size_update, size_push']
  have g1 : (((s.heap.push (seqObj "list" #[] 0)).update s.heap.objs.size (Obj.mapSeq (· ++ vs.toArray))).push (seqObj "list" vs.toArray 0)).get? (s.heap.objs.size + 1) = some (seqObj "list" vs.toArray 0) := by
    rw [← n1]
    exact Heap.get?_push_size _ rfl
  show wpAny _ _ _ _ _ { s with heap := ((s.heap.push (seqObj "list" #[] 0)).update s.heap.objs.size (Obj.mapSeq (· ++ vs.toArray))).push (seqObj "list" vs.toArray 0) }
  rw [n1]
  refine wpAny_bind (wpAny_holding (wpAny_call_entry slot_list_sort ⟨_, g1, rfl⟩ entry_list_sort (SrtO.list_sort_ord SrtO.swo_int g1 hz (fun h2 => SrtO.ints_sortable hi h2) fun out h1 h2 => ⟨_, rfl, ?_⟩) (args_list_sort _)))
  obtain ⟨k1, k2, k3⟩ := SrtO.ints_out hi h1 h2
  exact wpAny_pure ⟨_, rfl, q out k1 k2 k3⟩
end
section
variable {X : Cx}
def rSortedTI (K : PySem.W.Frag) : List V → Hp → VK → Prop := fun vs H Q => ∃ (a : Addr) (ns : List Int), vs = [V.ref a] ∧ SqT K H a (ns.map V.int) ∧ ∀ (ns' : List Int) (p : Addr), ns'.Perm ns → ns'.Pairwise (· ≤ ·) → H p = none → Q (.ref p) (upd H p (.lst (ns'.map V.int)))
theorem cr_sortedTI : CallR X (.builtin "sorted") (rSortedTI X.K) := by
  intro pins s σ H vs us Q I r h
  obtain ⟨a, ns, rfl, hs, q⟩ := h
  obtain ⟨its, rv, hl, hz⟩ := I.tuple hs
  rw [Vals.ref1 r]
  refine sorted_tup hl (by rw [← rv.length]; exact hz) rv.ints fun out k1 k2 k3 => ?_
  obtain ⟨ep, he'⟩ := PyProof.Rows.sortedAll_at s.heap its out.toArray
  have hlen : ((out.map SrtO.iv).map V.int).length ≤ sizeLine := by
    have := k2.length_eq
    rw [List.length_map] at hz ⊢
    omega
  exact ⟨.ref _, upd H (s.heap.objs.size + 1) (.lst ((out.map SrtO.iv).map V.int)), I.laid (t' := s.toks) (fun _ _ => PyProof.Rows.sortedAll_old) (Nat.le_succ _) ⟨hlen, out, ep, vals_of_ints k1, he'⟩, rfl, q _ _ k2 k3 (I.hok.fresh (Nat.le_succ _))⟩
/-- t.index(i), t a tuple of ints -/
theorem mt_tupIdx : MtR X "tuple.index" (fun x xs H Q => ∃ (a : Addr) (ns : List Int) (k : Int), x = .ref a ∧ xs = [.int k] ∧ SqT X.K H a (ns.map V.int) ∧ k ∈ ns ∧ Q (.int (ns.idxOf k : Nat)) H) := by
  intro pins s σ H x xs v us Q I rx rs h
  obtain ⟨a, ns, k, rfl, rfl, hq, hk, q⟩ := h
  cases rx
  obtain ⟨u, rfl, t, rfl⟩ := vals1 rs
  obtain ⟨its, r, hl, _⟩ := I.tuple hq
  exact PySem.SeqAt.tuple_index_ints hl r.ints hk ⟨.int (ns.idxOf k : Nat), H, I.tok _, ⟨_, rfl⟩, q⟩
end
end G8

set_option Elab.async false
set_option linter.all false
set_option maxRecDepth 100000
set_option maxHeartbeats 1000000
namespace G8
open PySem L2
section
variable {X : Cx} {C : Ct} {W : Wx} {e a b : Expr} {f g h : DE} {pos : Pos} {σ : L2.St} {ρ : Rho} {δ : Dl} {H H1 : Hp} {K : Fg}
/-! ### ints of a list -/
def asInts : List D → Option (List Int)
  | [] => some []
  | .int i :: r => (asInts r).map (i :: ·)
  | _ => none
@[simp] theorem asInts_map : ∀ ns : List Int, asInts (ns.map .int) = some ns
  | [] => rfl
  | n :: ns => by
    show (asInts (ns.map .int)).map (n :: ·) = _
    rw [asInts_map ns]
    rfl
theorem asInts_eq : ∀ {ds : List D} {ns : List Int}, asInts ds = some ns → ds = ns.map .int
  | [], ns, h => by cases h; rfl
  | .int i :: r, ns, h => by
    have h : (asInts r).map (i :: ·) = some ns := h
    cases e : asInts r with
    | none => rw [e] at h; cases h
    | some m =>
      rw [e] at h
      cases h
      rw [asInts_eq e]
      rfl
  | .none :: _, _, h => by cases h
  | .bool _ :: _, _, h => by cases h
  | .str _ :: _, _, h => by cases h
  | .list _ :: _, _, h => by cases h
  | .tuple _ :: _, _, h => by cases h
  | .dict _ :: _, _, h => by cases h
/-! ### arithmetic -/
/-- a test that no evaluation looks into -/
noncomputable def cdec (p : Prop) : Bool := @decide p (Classical.propDecidable p)
theorem cdec_iff {p : Prop} : cdec p = true ↔ p := @decide_eq_true_iff p (Classical.propDecidable p)
def gSub := gII fun i j => .int (i - j)
noncomputable def gMul : D → D → Option D
  | .int i, .int j => if cdec (((-10000000000000000000 ≤ i ∧ i ≤ 10000000000000000000) ∨ (-10000000000000000000 ≤ j ∧ j ≤ 10000000000000000000)) ∨ (i.natAbs ≤ 10000000000000000000000000000000000000000000000000000000000000000000000000000000000000000000000000000 ∧ j.natAbs ≤ 10000000000000000000000000000000000000000000000000000000000000000000000000000000000000000000000000000)) = true then some (.int (i * j)) else none
  | .list xs, .int k => if 0 ≤ k ∧ k ≤ 1000 ∧ xs.length ≤ 100 then some (.list (List.replicate k.toNat xs).flatten) else none
  | .tuple xs, .int k => if 1 ≤ k ∧ k ≤ 1000 ∧ xs.length ≤ 100 ∧ xs ≠ [] then some (.tuple (List.replicate k.toNat xs).flatten) else none
  | _, _ => none
noncomputable def gDiv : D → D → Option D
  | .int i, .int j => if cdec (0 < j ∧ j ≤ 10000000000000000000000000000000000000000000000000000000000000000000000000000000000000000000000000000) = true then some (.int (i / j)) else none
  | _, _ => none
def gMod : D → D → Option D
  | .int i, .int j => if 0 < j then some (.int (i % j)) else none
  | _, _ => none
noncomputable def gPow : D → D → Option D
  | .int i, .int j => if cdec (0 ≤ j ∧ j ≤ 1000 ∧ -1000000000000000000 ≤ i ∧ i ≤ 1000000000000000000) = true then some (.int (i ^ j.toNat)) else none
  | _, _ => none
theorem k_sub : R2Ok K (rI0 fun i j => .int (i - j)) gSub := k_I0 fun _ _ _ _ => .int _
theorem RepL.flat {A : Addr → Prop} {ds : List D} {vs : List V} (r : RepL K H A ds vs) : ∀ n : Nat, RepL K H A (List.replicate n ds).flatten (List.replicate n vs).flatten
  | 0 => .nil
  | n + 1 => by
    rw [List.replicate_succ, List.replicate_succ, List.flatten_cons, List.flatten_cons]
    exact r.append (r.flat n)
theorem big64 : (10000000000000000000 : Int) < 2 ^ 64 := by decide +kernel
theorem big400 : (10000000000000000000000000000000000000000000000000000000000000000000000000000000000000000000000000000 : Nat) < 2 ^ 400 := by decide +kernel
theorem big400i : (10000000000000000000000000000000000000000000000000000000000000000000000000000000000000000000000000000 : Int) < 2 ^ 400 := by decide +kernel
theorem sm64 {i : Int} (h : -10000000000000000000 ≤ i ∧ i ≤ 10000000000000000000) : -(2 ^ 64) < i ∧ i < 2 ^ 64 := ⟨Int.lt_of_lt_of_le (Int.neg_lt_neg big64) h.1, Int.lt_of_le_of_lt h.2 big64⟩
theorem k_mul : R2Ok K (fun x y H Q => rI CMul (fun i j => .int (i * j)) x y H Q ∨ rI CMulW (fun i j => .int (i * j)) x y H Q ∨ rRep x y H Q ∨ rRep1 K x y H Q ∨ rRepT K x y H Q) gMul := fun A H x y d e z Q hf rd re hz q => by
  cases rd with
  | int i =>
    cases re with
    | int j =>
      obtain ⟨hl, rfl⟩ := ite_some hz
      rcases cdec_iff.mp hl with hl | hl
      · exact .inl ⟨_, _, rfl, rfl, hl.imp sm64 sm64, q _ H (Same.refl H) (.int _)⟩
      · exact .inr (.inl ⟨_, _, rfl, rfl, wide_mul (Nat.lt_of_le_of_lt hl.1 big400) (Nat.lt_of_le_of_lt hl.2 big400) (by decide) (by decide) (by decide), q _ H (Same.refl H) (.int _)⟩)
    | _ => cases hz
  | lst a1 h1 r1 =>
    cases re with
    | int j =>
      obtain ⟨hl, rfl⟩ := ite_some hz
      rw [r1.length] at hl
      refine .inr (.inr (.inl ⟨_, _, _, rfl, rfl, h1, by omega, by omega, ?_, fun p hp => ?_⟩))
      · have h1 : j.toNat ≤ 1000 := by omega
        exact Nat.le_trans (Nat.mul_le_mul hl.2.2 h1) (by decide)
      · exact q _ _ (same_new hp) (.lst (hf p hp) upd_same ((r1.flat _).keep (same_keep (same_new hp))))
    | _ => cases hz
  | tup h1 r1 =>
    cases re with
    | int j =>
      obtain ⟨hl, rfl⟩ := ite_some hz
      have hlen := r1.length
      by_cases hj : j = 1
      · subst hj
        refine .inr (.inr (.inr (.inl ⟨_, _, rfl, rfl, h1, q _ H (Same.refl H) (.tup h1 ?_)⟩)))
        rw [show (1 : Int).toNat = 1 from rfl, List.replicate_one, List.flatten_cons, List.flatten_nil, List.append_nil]
        exact r1
      · refine .inr (.inr (.inr (.inr ⟨_, _, _, rfl, rfl, h1, fun e => ?_, by omega, by omega, by omega, fun p hp => ?_⟩)))
        · subst e
          rw [List.length_nil] at hlen
          exact hl.2.2.2 (List.eq_nil_of_length_eq_zero hlen)
        · exact q _ _ (same_new hp) (.tup (.inl (.inl upd_same)) ((r1.flat _).keep (same_keep (same_new hp))))
    | _ => cases hz
  | _ => cases re <;> cases hz
theorem o_mul : OpR X (binaryOp .Mult) (fun x y H Q => rI CMul (fun i j => .int (i * j)) x y H Q ∨ rI CMulW (fun i j => .int (i * j)) x y H Q ∨ rRep x y H Q ∨ rRep1 X.K x y H Q ∨ rRepT X.K x y H Q) := op_mul.or (op_mulW.or (op_rep.or (op_rep1.or op_repT)))
theorem k_div : R2Ok K (rI CDivW fun i j => .int (i / j)) gDiv := fun A H x y d e z Q hf rd re hz q => by
  cases rd <;> cases re <;> first | (cases hz; done) | skip
  obtain ⟨hl, rfl⟩ := ite_some hz
  have hl := cdec_iff.mp hl
  exact ⟨_, _, rfl, rfl, wide_div (b := 400) hl.1 (by have := Int.lt_of_le_of_lt hl.2 big400i; have := hl.1; omega) (by decide) (by decide), q _ H (Same.refl H) (.int _)⟩
theorem k_mod : R2Ok K (rI (fun _ j => 0 < j) fun i j => .int (i % j)) gMod := fun A H x y d e z Q hf rd re hz q => by
  cases rd <;> cases re <;> first | (cases hz; done) | skip
  obtain ⟨hl, rfl⟩ := ite_some hz
  exact ⟨_, _, rfl, rfl, hl, q _ H (Same.refl H) (.int _)⟩
theorem k_pow : R2Ok K (rI CPow fun i j => .int (i ^ j.toNat)) gPow := fun A H x y d e z Q hf rd re hz q => by
  cases rd <;> cases re <;> first | (cases hz; done) | skip
  obtain ⟨hl, rfl⟩ := ite_some hz
  have hl := cdec_iff.mp hl
  exact ⟨_, _, rfl, rfl, ⟨hl.1, by omega, by have := hl.2.2; omega⟩, q _ H (Same.refl H) (.int _)⟩
@[simp] def gNeg : D → Option D
  | .int i => some (.int (-i))
  | _ => none
theorem k_neg : R1Ok K (rU fun i => .int (-i)) gNeg := fun A H x d z Q hf rd hz q => by
  cases rd <;> first | (cases hz; done) | skip
  cases hz
  exact ⟨_, rfl, q _ H (Same.refl H) (.int _)⟩
/-! ### comparisons -/
def gEq (d e : D) : Option D := if SeqAt.shaped d = true ∧ SeqAt.shaped e = true then some (.bool (PyData.eqv d e)) else none
def gNe (d e : D) : Option D := if SeqAt.shaped d = true ∧ SeqAt.shaped e = true then some (.bool (!PyData.eqv d e)) else none
theorem k_eq : R2Ok K (rEqD K) gEq := fun A H x y d e z Q hf rd re hz q => by
  obtain ⟨hl, rfl⟩ := ite_some hz
  exact ⟨d, e, rd.dp hl.1, re.dp hl.2, hl.1, hl.2, q _ H (Same.refl H) (.bl _)⟩
theorem k_ne : R2Ok K (rNeD K) gNe := fun A H x y d e z Q hf rd re hz q => by
  obtain ⟨hl, rfl⟩ := ite_some hz
  exact ⟨d, e, rd.dp hl.1, re.dp hl.2, hl.1, hl.2, q _ H (Same.refl H) (.bl _)⟩
def gLt : D → D → Option D
  | .int i, .int j => some (.bool (decide (i < j)))
  | .tuple xs, .tuple ys => match asInts xs, asInts ys with
    | some ns, some ms => some (.bool (HT.lexLt ns ms))
    | _, _ => none
  | _, _ => none
def gLe := gII fun i j => .bool (decide (i ≤ j))
def gGt := gII fun i j => .bool (decide (j < i))
def gGe := gII fun i j => .bool (decide (j ≤ i))
theorem k_le : R2Ok K (rI0 fun i j => .bl (decide (i ≤ j))) gLe := k_I0 fun _ _ _ _ => .bl _
theorem k_gt : R2Ok K (rI0 fun i j => .bl (decide (j < i))) gGt := k_I0 fun _ _ _ _ => .bl _
theorem k_ge : R2Ok K (rI0 fun i j => .bl (decide (j ≤ i))) gGe := k_I0 fun _ _ _ _ => .bl _
theorem k_lt : R2Ok K (fun x y H Q => rI0 (fun i j => .bl (decide (i < j))) x y H Q ∨ rLtT K x y H Q) gLt := fun A H x y d e z Q hf rd re hz q => by
  cases rd with
  | int i =>
    cases re with
    | int j =>
      cases hz
      exact .inl ⟨_, _, rfl, rfl, q _ H (Same.refl H) (.bl _)⟩
    | _ => cases hz
  | tup h1 r1 =>
    rename_i ds1
    cases re with
    | tup h2 r2 =>
      rename_i ds2
      cases e1 : asInts ds1 with
      | none => simp [gLt, e1] at hz
      | some ns =>
        cases e2 : asInts ds2 with
        | none => simp [gLt, e1, e2] at hz
        | some ms =>
          simp [gLt, e1, e2] at hz
          subst hz
          rw [asInts_eq e1] at r1
          rw [asInts_eq e2] at r2
          have v1 := repL_ints r1
          have v2 := repL_ints r2
          subst v1 v2
          exact .inr ⟨_, _, ns, ms, rfl, rfl, h1, h2, q _ H (Same.refl H) (.bl _)⟩
    | _ => cases hz
  | _ => cases re <;> cases hz
theorem o_lt (hu : X.A.units < cLine) : OpR X (compareOp .Lt) (fun x y H Q => rI0 (fun i j => .bl (decide (i < j))) x y H Q ∨ rLtT X.K x y H Q) := op_lt.or (op_ltT hu)
/-- x in y -/
def memI (k : Int) (ns : List Int) : Bool := ns.any fun y => y == k
def gIn : D → D → Option D
  | d, .list ds => if SeqAt.shaped d = true ∧ SeqAt.shaped (.list ds) = true then some (.bool (ds.any fun z => PyData.eqv z d)) else none
  | .int k, .tuple ds => (asInts ds).map fun ns => .bool (memI k ns)
  | _, _ => none
def gNotIn : D → D → Option D
  | d, .list ds => if SeqAt.shaped d = true ∧ SeqAt.shaped (.list ds) = true then some (.bool (!ds.any fun z => PyData.eqv z d)) else none
  | .int k, .tuple ds => (asInts ds).map fun ns => .bool (!memI k ns)
  | _, _ => none
theorem flat_ints : ∀ ns : List Int, (ns.map V.int).all flatV = true
  | [] => rfl
  | n :: ns => by
    rw [List.map_cons, List.all_cons, flat_ints ns]
    rfl
theorem inV_ints (k : Int) : ∀ ns : List Int, inV (.int k) (ns.map V.int) = memI k ns
  | [] => rfl
  | n :: ns => by
    have h := inV_ints k ns
    unfold inV memI at *
    rw [List.map_cons, List.any_cons, List.any_cons, h]
    congr 1
theorem k_in : R2Ok K (fun x y H Q => rInD K x y H Q ∨ rIn K false x y H Q) gIn := fun A H x y d e z Q hf rd re hz q => by
  cases re with
  | lst a1 h1 r1 =>
    rename_i ds
    have hz : (if SeqAt.shaped d = true ∧ SeqAt.shaped (.list ds) = true then some (PyData.bool (ds.any fun z => PyData.eqv z d)) else none) = some z := by
      cases d <;> exact hz
    obtain ⟨hl, rfl⟩ := ite_some hz
    exact .inl ⟨d, _, rd.dp hl.1, (Rep.lst a1 h1 r1).dp hl.2, hl.1, hl.2, q _ H (Same.refl H) (.bl _)⟩
  | tup h1 r1 =>
    cases rd with
    | int k =>
      rename_i ds
      have hz : (asInts ds).map (fun ns => PyData.bool (memI k ns)) = some z := hz
      cases e1 : asInts ds with
      | none => rw [e1] at hz; cases hz
      | some ns =>
        rw [e1] at hz
        cases hz
        rw [asInts_eq e1] at r1
        have v1 := repL_ints r1
        subst v1
        refine .inr ⟨_, _, rfl, .inr h1, rfl, flat_ints ns, ?_⟩
        rw [if_neg Bool.false_ne_true, inV_ints]
        exact q _ H (Same.refl H) (.bl _)
    | _ => cases hz
  | _ => cases d <;> cases hz
theorem k_notIn : R2Ok K (fun x y H Q => rNotInD K x y H Q ∨ rIn K true x y H Q) gNotIn := fun A H x y d e z Q hf rd re hz q => by
  cases re with
  | lst a1 h1 r1 =>
    rename_i ds
    have hz : (if SeqAt.shaped d = true ∧ SeqAt.shaped (.list ds) = true then some (PyData.bool (!ds.any fun z => PyData.eqv z d)) else none) = some z := by
      cases d <;> exact hz
    obtain ⟨hl, rfl⟩ := ite_some hz
    exact .inl ⟨d, _, rd.dp hl.1, (Rep.lst a1 h1 r1).dp hl.2, hl.1, hl.2, q _ H (Same.refl H) (.bl _)⟩
  | tup h1 r1 =>
    cases rd with
    | int k =>
      rename_i ds
      have hz : (asInts ds).map (fun ns => PyData.bool (!memI k ns)) = some z := hz
      cases e1 : asInts ds with
      | none => rw [e1] at hz; cases hz
      | some ns =>
        rw [e1] at hz
        cases hz
        rw [asInts_eq e1] at r1
        have v1 := repL_ints r1
        subst v1
        refine .inr ⟨_, _, rfl, .inr h1, rfl, flat_ints ns, ?_⟩
        rw [if_pos rfl, inV_ints]
        exact q _ H (Same.refl H) (.bl _)
    | _ => cases hz
  | _ => cases d <;> cases hz
theorem o_in (hu : X.A.units + 65 < cLine) : OpR X (compareOp .In) (fun x y H Q => rInD X.K x y H Q ∨ rIn X.K false x y H Q) := (op_inD hu).or op_in_seq
theorem o_notIn (hu : X.A.units + 65 < cLine) : OpR X (compareOp .NotIn) (fun x y H Q => rNotInD X.K x y H Q ∨ rIn X.K true x y H Q) := (op_notInD hu).or op_notIn_seq
/-- is, is not: None, True, False behind it -/
@[simp] def isNon : D → Bool
  | .none => true
  | _ => false
@[simp] def gIs : D → D → Option D
  | d, .none => some (.bool (isNon d))
  | .bool a, .bool b => some (.bool (decide (a = b)))
  | _, _ => none
@[simp] def gIsNot : D → D → Option D
  | d, .none => some (.bool (!isNon d))
  | .bool a, .bool b => some (.bool (!decide (a = b)))
  | _, _ => none
theorem rep_non {A : Addr → Prop} {d : D} {v : V} (r : Rep K H A d v) : decide (v = .non) = (isNon d) := by
  cases r <;> rfl
theorem k_is : R2Ok K (fun x y H Q => (y = .non ∧ Q (.bl (decide (x = .non))) H) ∨ ∃ a b, x = .bl a ∧ y = .bl b ∧ Q (.bl (decide (a = b))) H) gIs := fun A H x y d e z Q hf rd re hz q => by
  cases re with
  | non =>
    have hz : some (PyData.bool (isNon d)) = some z := by cases d <;> exact hz
    cases hz
    refine .inl ⟨rfl, ?_⟩
    rw [rep_non rd]
    exact q _ H (Same.refl H) (.bl _)
  | bl b =>
    cases rd with
    | bl a =>
      cases hz
      exact .inr ⟨_, _, rfl, rfl, q _ H (Same.refl H) (.bl _)⟩
    | _ => cases hz
  | _ => cases d <;> cases hz
theorem k_isNot : R2Ok K (fun x y H Q => (y = .non ∧ Q (.bl (!decide (x = .non))) H) ∨ ∃ a b, x = .bl a ∧ y = .bl b ∧ Q (.bl (!decide (a = b))) H) gIsNot := fun A H x y d e z Q hf rd re hz q => by
  cases re with
  | non =>
    have hz : some (PyData.bool (!isNon d)) = some z := by cases d <;> exact hz
    cases hz
    refine .inl ⟨rfl, ?_⟩
    rw [rep_non rd]
    exact q _ H (Same.refl H) (.bl _)
  | bl b =>
    cases rd with
    | bl a =>
      cases hz
      exact .inr ⟨_, _, rfl, rfl, q _ H (Same.refl H) (.bl _)⟩
    | _ => cases hz
  | _ => cases d <;> cases hz
theorem o_is : OpR X (compareOp .Is) (fun x y H Q => (y = .non ∧ Q (.bl (decide (x = .non))) H) ∨ ∃ a b, x = .bl a ∧ y = .bl b ∧ Q (.bl (decide (a = b))) H) := op_isN.or op_is_bl
theorem o_isNot : OpR X (compareOp .IsNot) (fun x y H Q => (y = .non ∧ Q (.bl (!decide (x = .non))) H) ∨ ∃ a b, x = .bl a ∧ y = .bl b ∧ Q (.bl (!decide (a = b))) H) := op_notN.or op_isnot_bl

theorem pd_cmp {op : CmpOp} {r : R2} {g : D → D → Option D} (ho : OpR X (compareOp op) r) (k : R2Ok C.K r g) (ha : PE X a (rdE C W f)) (hb : PE X b (rdE C W h)) (hm : behindInMarks op b = false := by first | exact nomark _ | rfl) :
    PE X (.Compare a [op] [b] pos) (rdE C W (d2 g f h)) := (pe_cmpR ho ha hb hm).imp fun _ _ _ p => rd_two k p
/-- a test by its value -/
theorem rdT_E {f : DE} {Q : Bool → Hp → Prop} (p : rdT C W f σ H Q) : rdE C W f σ H fun x H' => ∃ k, x = .bl k ∧ Q k H' := by
  obtain ⟨ρ, δ, E, p⟩ := p
  refine ⟨ρ, δ, E, p.mono fun a δ' H' x E' q v rv => ?_⟩
  obtain ⟨b, rfl, q⟩ := q
  cases rv
  exact ⟨b, rfl, q⟩
theorem pt_cmpD {op : CmpOp} {r : R2} {g : D → D → Option D} (ho : OpR X (compareOp op) r) (k : R2Ok C.K r g) (ha : PE X a (rdE C W f)) (hb : PE X b (rdE C W h)) (hm : behindInMarks op b = false := by first | exact nomark _ | rfl) :
    PT X (.Compare a [op] [b] pos) (rdT C W (d2 g f h)) := (pt_cmpR ho ha hb hm).imp fun _ _ _ p => rd_two k (rdT_E p)
theorem pt_valD (h : PE X e (rdE C W f)) (he : ∀ whole, isTrue e X.env whole = (do let v ← whole; standAt e.pos; holding [v] (truthy v)) := by intro _; rfl) : PT X e (rdT C W f) :=
  (pt_val h he).imp fun _ _ _ p => rdT_E p
theorem pd_not (ha : PE X a (rdE C W f)) : PE X (.UnaryOp .Not a pos) (rdE C W (dNot f)) := (pe_not ha).imp fun σ H Q ⟨ρ, δ, E, p⟩ =>
  ⟨ρ, δ, E, (p.seq anti_E).mono fun a δ1 H1 x1 E1 q v rv => by
    cases rv with
    | bl b => exact ⟨b, rfl, q.val E1 _ (.bl _)⟩
    | _ => exact q.elim⟩
theorem pt_notD (ha : PT X a (rdT C W f)) : PT X (.UnaryOp .Not a pos) (rdT C W (dNot f)) := (pt_not ha).imp fun σ H Q ⟨ρ, δ, E, p⟩ =>
  ⟨ρ, δ, E, (p.seq anti_T).mono fun a δ1 H1 x1 E1 q => by
    cases a with
    | bool b =>
      obtain ⟨b', e, q⟩ := q.val E1
      cases e
      exact ⟨b, rfl, q⟩
    | _ => exact q.elim⟩
variable {rest : List Expr}
theorem pd_and (ha : PE X a (rdE C W f)) (hb : PE X (.BoolOp .And (b :: rest) pos) (rdE C W h)) : PE X (.BoolOp .And (a :: b :: rest) pos) (rdE C W (dAnd f h)) := (pe_and ha hb).imp fun σ H Q ⟨ρ, δ, E, p⟩ =>
  ⟨ρ, δ, E, (p.seq anti_E).mono fun a δ1 H1 x1 E1 q v rv => by
    cases rv with
    | bl b =>
      refine ⟨b, rfl, ?_⟩
      cases b with
      | true => rw [if_pos rfl]; exact ⟨ρ, δ1, E1, q⟩
      | false => rw [if_neg Bool.false_ne_true]; exact q.val E1 _ (.bl _)
    | _ => exact q.elim⟩
theorem pd_or (ha : PE X a (rdE C W f)) (hb : PE X (.BoolOp .Or (b :: rest) pos) (rdE C W h)) : PE X (.BoolOp .Or (a :: b :: rest) pos) (rdE C W (dOr f h)) := (pe_or ha hb).imp fun σ H Q ⟨ρ, δ, E, p⟩ =>
  ⟨ρ, δ, E, (p.seq anti_E).mono fun a δ1 H1 x1 E1 q v rv => by
    cases rv with
    | bl b =>
      refine ⟨b, rfl, ?_⟩
      cases b with
      | false => rw [if_neg Bool.false_ne_true]; exact ⟨ρ, δ1, E1, q⟩
      | true => rw [if_pos rfl]; exact q.val E1 _ (.bl _)
    | _ => exact q.elim⟩
theorem pd_one {op} (h : PE X a (rdE C W f)) : PE X (.BoolOp op [a] pos) (rdE C W f) := pe_one h
theorem rdT_and {Q : Bool → Hp → Prop} (p : rdT C W (dAnd f h) σ H Q) : tAnd (rdT C W f) (rdT C W h) σ H Q := by
  obtain ⟨ρ, δ, E, p⟩ := p
  refine ⟨ρ, δ, E, (p.seq anti_T).mono fun a δ1 H1 x1 E1 q => ?_⟩
  cases a with
  | bool b =>
    refine ⟨b, rfl, ?_⟩
    cases b with
    | true => rw [if_pos rfl]; exact ⟨ρ, δ1, E1, q⟩
    | false =>
      rw [if_neg Bool.false_ne_true]
      obtain ⟨b', e, q⟩ := q.val E1
      cases e
      exact q
  | _ => exact q.elim
theorem rdT_or {Q : Bool → Hp → Prop} (p : rdT C W (dOr f h) σ H Q) : tOr (rdT C W f) (rdT C W h) σ H Q := by
  obtain ⟨ρ, δ, E, p⟩ := p
  refine ⟨ρ, δ, E, (p.seq anti_T).mono fun a δ1 H1 x1 E1 q => ?_⟩
  cases a with
  | bool b =>
    refine ⟨b, rfl, ?_⟩
    cases b with
    | false => rw [if_neg Bool.false_ne_true]; exact ⟨ρ, δ1, E1, q⟩
    | true =>
      rw [if_pos rfl]
      obtain ⟨b', e, q⟩ := q.val E1
      cases e
      exact q
  | _ => exact q.elim
theorem pw_andD (ha : PT X a (rdT C W f)) (hb : PW X (.BoolOp .And (b :: rest) pos) (rdT C W h)) : PW X (.BoolOp .And (a :: b :: rest) pos) (rdT C W (dAnd f h)) := (pw_and ha hb).imp fun _ _ _ p => rdT_and p
theorem pw_orD (ha : PT X a (rdT C W f)) (hb : PW X (.BoolOp .Or (b :: rest) pos) (rdT C W h)) : PW X (.BoolOp .Or (a :: b :: rest) pos) (rdT C W (dOr f h)) := (pw_or ha hb).imp fun _ _ _ p => rdT_or p
theorem pd_if {c : Expr} {t : DE} (hc : PT X c (rdT C W t)) (ha : PE X a (rdE C W f)) (hb : PE X b (rdE C W h)) : PE X (.IfExp c a b pos) (rdE C W (dIf t f h)) := (pe_ifExp hc ha hb).imp fun σ H Q ⟨ρ, δ, E, p⟩ =>
  ⟨ρ, δ, E, (p.seq anti_E).mono fun a δ1 H1 x1 E1 q => by
    cases a with
    | bool b =>
      refine ⟨b, rfl, ?_⟩
      cases b with
      | true => rw [if_pos rfl]; exact ⟨ρ, δ1, E1, q⟩
      | false => rw [if_neg Bool.false_ne_true]; exact ⟨ρ, δ1, E1, q⟩
    | _ => exact q.elim⟩
/-- a < b < c -/
@[simp] def dChain (g g' : D → D → Option D) (f h k : DE) : DE := fun ρ δ => bnd (f ρ δ) fun a δ => bnd (h ρ δ) fun b δ => bnd (lft (g a b) δ) fun z δ => match z with
  | .bool true => bnd (k ρ δ) fun c δ => lft (g' b c) δ
  | .bool false => some (.ok (.bool false), δ)
  | _ => none
theorem rd_chain {r r' : R2} {g g' : D → D → Option D} {f h k : DE} {Q : VK} (kr : R2Ok C.K r g) (kr' : R2Ok C.K r' g') (p : rdE C W (dChain g g' f h k) σ H Q) : tChain r r' (rdE C W f) (rdE C W h) (rdE C W k) σ H Q := by
  obtain ⟨ρ, δ, E, p⟩ := p
  refine ⟨ρ, δ, E, (p.seq anti_E).mono fun a δ1 H1 x1 E1 q v rv => ⟨ρ, δ1, E1, (q.seq anti_E).mono fun b δ2 H2 x2 E2 q2 w rw => ?_⟩⟩
  obtain ⟨z, e, q3⟩ := (q2.seq anti_E).lft
  refine kr (Av C σ ρ) H2 v w a b z _ (fun a h => E2.fresh h) (rv.keep (E1.keep x2)) rw e fun u H3 s ru => ?_
  have E3 := E2.grow0 s
  have q4 := q3 H3 (same_ext s) E3
  cases ru with
  | bl c =>
    refine ⟨c, rfl, ?_⟩
    cases c with
    | false =>
      rw [if_neg Bool.false_ne_true]
      exact q4.val E3 _ (.bl _)
    | true =>
      rw [if_pos rfl]
      refine ⟨ρ, δ2, E3, (q4.seq anti_E).mono fun c δ4 H4 x4 E4 q5 w' rw' => ?_⟩
      obtain ⟨z', e', q6⟩ := q5.lft
      exact kr' (Av C σ ρ) H4 w w' b c z' Q (fun a h => E4.fresh h) ((rw.keep (same_keep s)).keep (E3.keep x4)) rw' e' fun u' H5 s5 ru' => q6 H5 (same_ext s5) (E4.grow0 s5) u' ru'
  | _ => exact q4.elim
theorem pd_chain {op op' : CmpOp} {r r' : R2} {c : Expr} {k : DE} {g g' : D → D → Option D} (ho : OpR X (compareOp op) r) (ho' : OpR X (compareOp op') r') (kr : R2Ok C.K r g) (kr' : R2Ok C.K r' g') (ha : PE X a (rdE C W f)) (hb : PE X b (rdE C W h)) (hc : PE X c (rdE C W k)) (hm : lastMarks [op, op'] [b, c] = false := by rfl) :
    PE X (.Compare a [op, op'] [b, c] pos) (rdE C W (dChain g g' f h k)) := (pe_chain ho ho' ha hb hc (hm := hm)).imp fun _ _ _ p => rd_chain kr kr' p
theorem pt_chainD {op op' : CmpOp} {r r' : R2} {c : Expr} {k : DE} {g g' : D → D → Option D} (ho : OpR X (compareOp op) r) (ho' : OpR X (compareOp op') r') (kr : R2Ok C.K r g) (kr' : R2Ok C.K r' g') (ha : PE X a (rdE C W f)) (hb : PE X b (rdE C W h)) (hc : PE X c (rdE C W k)) (hm : lastMarks [op, op'] [b, c] = false := by rfl) :
    PT X (.Compare a [op, op'] [b, c] pos) (rdT C W (dChain g g' f h k)) := (pt_chain ho ho' ha hb hc (hm := hm)).imp fun _ _ _ p => rd_chain kr kr' (rdT_E p)
end
end G8

set_option Elab.async false
set_option linter.all false
set_option maxRecDepth 100000
set_option maxHeartbeats 1000000
namespace G8
open PySem L2
section
variable {X : Cx} {C : Ct} {W : Wx} {e a b : Expr} {es : List Expr} {f g h : DE} {pos : Pos} {σ : L2.St} {ρ : Rho} {δ : Dl} {H H1 : Hp} {K : Fg}
/-! ### arguments, displays -/
theorem pd_nil : PA X [] (rdA C W aNil) := pa_nil.imp fun σ H Q ⟨ρ, δ, E, p⟩ => p.val E [] .nil
theorem pd_cons {r : DL} (ha : PE X e (rdE C W f)) (hr : PA X es (rdA C W r)) (hs : starEach (e :: es) X.env = (false, eval e X.env) :: starEach es X.env := by rfl) : PA X (e :: es) (rdA C W (aCons f r)) :=
  (pa_cons ha hr hs).imp fun σ H Q ⟨ρ, δ, E, p⟩ => ⟨ρ, δ, E, (p.seq anti_A).mono fun d δ1 H1 x1 E1 q v rv => ⟨ρ, δ1, E1, (q.seq anti_A).mono fun ds δ2 H2 x2 E2 q2 vs rvs => q2.val E2 (v :: vs) (.cons (rv.keep (E1.keep x2)) rvs)⟩⟩
theorem to_line4 {n : Nat} (h : n ≤ 10000) : n ≤ sizeLine := Nat.le_trans h (by decide)
theorem pd_tup {x1} {fa : DL} (h : PA X es (rdA C W fa)) : PE X (.Tuple es x1 pos) (rdE C W (dTup fa)) := (pe_tup h).imp fun σ H Q ⟨ρ, δ, E, p⟩ =>
  ⟨ρ, δ, E, (p.seq anti_E).mono fun ds δ1 H1 x1 E1 q vs rvs => by
    by_cases hl : ds.length ≤ 10000
    · rw [if_pos hl] at q
      refine ⟨by rw [← rvs.length]; exact to_line4 hl, fun p hp => ?_⟩
      exact q _ (same_ext (same_new hp)) (E1.grow0 (same_new hp)) _ (.tup (.inl (.inl upd_same)) (rvs.keep (same_keep (same_new hp))))
    · rw [if_neg hl] at q
      exact q.elim⟩
/-- from a new list -/
theorem pd_ofF {fl : DL} (h : PE X e (rdF C W fl)) : PE X e (rdE C W (dL fl)) := h.imp fun σ H Q ⟨ρ, δ, E, p⟩ => ⟨ρ, δ, E, by
  have p' := p.seq (anti_E (C := C) (σ := σ) (ρ := ρ) (Q := Q))
  refine p'.mono fun ds δ1 H1 x1 E1 q p vs hp hv rv => ?_
  have ap : Av C σ ρ p := E.freshN hp
  exact q.val E1 _ (.lst ap hv (rv.widen fun _ z => z.1))⟩
theorem pd_lst {fa : DL} (h : PA X es (rdA C W fa)) : PE X (.List es pos) (rdF C W (fLst fa)) := (pe_lst h).imp fun σ H Q ⟨ρ, δ, E, p⟩ => by
  have p' : Post C W σ ρ (fun _ ds δ' H' => ∀ p vs, Np H p → H' p = some (.lst vs) → RepL C.K H' (fun a => Av C σ ρ a ∧ a ≠ p) ds vs → Q (.ref p) H') H (bnd (fa ρ δ) fun ds δ => if ds.length ≤ 10000 then some (.ok ds, δ) else none) := p
  refine ⟨ρ, δ, E, (p'.seq fun _ _ _ _ _ _ h => h).mono fun ds δ1 H1 x1 E1 q vs rvs => ?_⟩
  by_cases hl : ds.length ≤ 10000
  · rw [if_pos hl] at q
    refine ⟨by rw [← rvs.length]; exact to_line4 hl, fun p hp => ?_⟩
    exact q _ (same_ext (same_new hp)) (E1.grow0 (same_new hp)) p vs (ext_same_none E x1 E1 (np_none hp)) upd_same ((rvs.avoid (np_none hp)).keep (same_keep (same_new hp)))
  · rw [if_neg hl] at q
    exact q.elim
/-! ### items -/
@[simp] def gIx : D → D → Option D
  | .list ds, .int i => atI ds i
  | .tuple ds, .int i => atI ds i
  | _, _ => none
theorem RepL.at {A : Addr → Prop} {ds : List D} {vs : List V} {i : Int} {z : D} (r : RepL K H A ds vs) (h : atI ds i = some z) : ∃ v, atI vs i = some v ∧ Rep K H A z v := by
  unfold atI at *
  rw [r.length] at h
  cases e : ixN vs.length i with
  | none => rw [e] at h; cases h
  | some j =>
    rw [e] at h
    obtain ⟨v, h1, h2⟩ := r.get h
    exact ⟨v, h1, h2⟩
theorem k_ix : R2Ok K (fun x y H Q => rIxL K x y H Q ∨ rIxT K x y H Q) gIx := fun A H x y d e z Q hf rd re hz q => by
  cases rd with
  | lst a1 h1 r1 =>
    cases re with
    | int i =>
      obtain ⟨v, h2, h3⟩ := r1.at hz
      exact .inl ⟨_, _, i, v, rfl, rfl, .inl (.inl h1), h2, q _ H (Same.refl H) h3⟩
    | _ => cases hz
  | tup h1 r1 =>
    cases re with
    | int i =>
      obtain ⟨v, h2, h3⟩ := r1.at hz
      exact .inr ⟨_, _, i, v, rfl, rfl, h1, h2, q _ H (Same.refl H) h3⟩
    | _ => cases hz
  | _ => cases re <;> cases hz
theorem pd_ix (ha : PE X a (rdE C W f)) (hb : PE X b (rdE C W h)) (hK : X.K = C.K) (hs : PlainIx b := by exact fun _ _ => rfl) : PE X (.Subscript a b pos) (rdE C W (d2 gIx f h)) := by
  refine (pe_ix (ix_list.or ix_tup) ha hb hs).imp fun _ _ _ p => ?_
  rw [hK]
  exact rd_two k_ix p
/-- x[i], x a name that is looked at -/
theorem pd_ixB (i : Nat) {x : Str} {p1 : Pos} (hb : PE X b (rdE C W h)) (hK : X.K = C.K) (hs : PlainIx b := by exact fun _ _ => rfl) (hN : X.N[i]? = some x := by rfl)
    (hv : Vis X.env.scope x := by first | exact Or.inl rfl | exact Or.inr (Or.inl rfl) | exact Or.inr (Or.inr rfl)) (hd : (x == ("__debug__" : Str)) = false := by decide) (hcd : (x == ("__classdict__" : Str)) = false := by decide) :
    PE X (.Subscript (.Name x p1) b pos) (rdE C W (d2 gIx (dB i) h)) := by
  refine (pe_ix (ix_list.or ix_tup) (pe_var hN hv hd hcd) hb hs).imp fun σ H Q p => ?_
  obtain ⟨ρ, δ, E, p⟩ := p
  rw [hK]
  unfold d2 at p
  cases e : dB i ρ δ with
  | none => rw [e] at p; exact p.elim
  | some r =>
    obtain ⟨r, δ'⟩ := r
    cases r with
    | error x => unfold dB at e; split at e <;> cases e
    | ok d =>
      rw [e] at p
      obtain ⟨rfl, v, hv, hr, hp⟩ := E.look e
      have p : Post C W σ ρ (oE C σ ρ Q) H (bnd (h ρ δ') fun b δ => lft (gIx d b) δ) := p
      refine ⟨v, hv, ρ, δ', E, (p.seq anti_E).mono fun b δ2 H2 x2 E2 q2 w rw => ?_⟩
      obtain ⟨z, ez, q3⟩ := q2.lft
      have fin : ∀ v, Rep C.K H2 (Av C σ ρ) z v → Q v H2 := fun v r => q3 H2 Ext.refl E2 v r
      cases d with
      | list ds =>
        obtain ⟨a, xs, rfl, h1, h2⟩ := hp
        cases rw with
        | int i =>
          obtain ⟨u, h4, h5⟩ := (h2.keep (E.keep x2)).at ez
          cases hr with
          | lst s1 s2 s3 =>
            refine .inl ⟨_, _, i, u, rfl, rfl, .inl (.inl (x2 _ _ (fun e => (E.dc _ e).2.1 s1) nt_lst h1)), h4, fin u h5⟩
        | _ => cases ez
      | tuple ds =>
        cases hp with
        | tup h1 h2 =>
          cases rw with
          | int i =>
            obtain ⟨u, h4, h5⟩ := (h2.keep (E.keep x2)).at ez
            exact .inr ⟨_, _, i, u, rfl, rfl, (E.keep x2).sqT h1, h4, fin u h5⟩
          | _ => cases ez
      | _ => cases b <;> cases ez
/-! ### slices -/
abbrev OO := Option DE
@[simp] def dPart : OO → Rho → Dl → RR (Option Int)
  | none, _, δ => some (.ok none, δ)
  | some f, ρ, δ => bnd (f ρ δ) fun d δ => match d with
    | .int i => some (.ok (some i), δ)
    | _ => none
def gCut (xs : List D) (lo hi : Option Int) : List D := (xs.drop (HT.sIx xs.length 0 lo)).take (HT.sIx xs.length xs.length hi - HT.sIx xs.length 0 lo)
@[simp] def gSl : D → Option Int → Option Int → Option D
  | .list xs, lo, hi => some (.list (gCut xs lo hi))
  | .tuple xs, lo, hi => some (.tuple (gCut xs lo hi))
  | _, _, _ => none
@[simp] def dSl (f : DE) (lo hi : OO) : DE := fun ρ δ => bnd (f ρ δ) fun a δ => bnd (dPart lo ρ δ) fun l δ => bnd (dPart hi ρ δ) fun u δ => lft (gSl a l u) δ
def rdO (C : Ct) (W : Wx) (f : OO) : TO := fun σ H Q => ∃ ρ δ, EnvOk C H σ ρ δ ∧ Post C W σ ρ (fun _ o _ H' => Q o H') H (dPart f ρ δ)
theorem pd_none : PO X none (rdO C W none) := ⟨fun pins s σ H Q I ⟨ρ, δ, E, p⟩ => po_none.run pins s σ H Q I (p.val E)⟩
theorem pd_some (h : PE X e (rdE C W f)) : PO X (some e) (rdO C W (some f)) := ⟨fun pins s σ H Q I ⟨ρ, δ, E, p⟩ => (po_some h).run pins s σ H Q I ⟨ρ, δ, E, by
  refine (Post.seq p fun _ _ _ _ _ _ h => h).mono fun d δ1 H1 x1 E1 q v rv => ?_
  cases rv with
  | int i => exact ⟨i, rfl, q.val E1⟩
  | _ => exact q.elim⟩⟩
theorem cut_rep {A : Addr → Prop} {ds : List D} {vs : List V} (r : RepL K H A ds vs) (lo hi : Option Int) : RepL K H A (gCut ds lo hi) (cutV vs lo hi) := by
  unfold gCut cutV
  rw [r.length]
  exact (r.drop _).take _
theorem cut_whole {vs : List V} {lo hi : Option Int} (h : HT.sIx vs.length 0 lo = 0 ∧ HT.sIx vs.length vs.length hi = vs.length) : cutV vs lo hi = vs := by
  unfold cutV
  rw [h.1, h.2]
  simp
theorem k_sl {A : Addr → Prop} {x : V} {d z : D} {lo hi : Option Int} {Q : VK} (hf : ∀ a, H a = none → A a) (rd : Rep K H A d x) (hz : gSl d lo hi = some z) (q : ∀ v H', Same H H' → Rep K H' A z v → Q v H') : rSlL K x lo hi H Q ∨ rSlA K x lo hi H Q := by
  cases rd with
  | lst a1 h1 r1 =>
    cases hz
    exact .inl ⟨_, _, rfl, .inl (.inl h1), fun p hp => q _ _ (same_new hp) (.lst (hf p hp) upd_same ((cut_rep r1 lo hi).keep (same_keep (same_new hp))))⟩
  | tup h1 r1 =>
    cases hz
    refine .inr ⟨_, _, rfl, h1, fun w => ?_, fun _ p hp => q _ _ (same_new hp) (.tup (.inl (.inl upd_same)) ((cut_rep r1 lo hi).keep (same_keep (same_new hp))))⟩
    have c := cut_rep r1 lo hi
    rw [cut_whole w] at c
    exact q _ H (Same.refl H) (.tup h1 c)
  | _ => cases hz
theorem pd_sl {lo hi : Option Expr} {fl fh : OO} {p2 : Pos} (ha : PE X a (rdE C W f)) (hl : PO X lo (rdO C W fl)) (hh : PO X hi (rdO C W fh)) (hK : X.K = C.K) : PE X (.Subscript a (.Slice lo hi none p2) pos) (rdE C W (dSl f fl fh)) := by
  refine (pe_slice (sl_list.or sl_tupA) ha hl hh).imp fun σ H Q p => ?_
  rw [hK]
  obtain ⟨ρ, δ, E, p⟩ := p
  refine ⟨ρ, δ, E, (p.seq anti_E).mono fun a δ1 H1 x1 E1 q v rv => ⟨ρ, δ1, E1, (q.seq anti_E).mono fun l δ2 H2 x2 E2 q2 => ⟨ρ, δ2, E2, (q2.seq anti_E).mono fun u δ3 H3 x3 E3 q3 => ?_⟩⟩⟩
  obtain ⟨z, ez, q4⟩ := q3.lft
  exact k_sl (fun a h => E3.fresh h) ((rv.keep (E1.keep x2)).keep (E2.keep x3)) ez fun v' H' s r => q4 H' (same_ext s) (E3.grow0 s) v' r

/-! ### built-ins -/
theorem pd_callB {x : Str} {p : Pos} {id : String} {r : List V → Hp → VK → Prop} {gc : List D → Option D} {fa : DL} (hc : CallR X (.builtin id) r) (k : RCOk C.K r gc) (hm : X.mg x = none) (hv : bootBuiltins x = some (.builtin id)) (ha : PA X (e :: es) (rdA C W fa))
    (hg : Gl X x := by rfl) (hn : x ≠ "__name__" := by decide) (hdb : (x == ("__debug__" : Str)) = false := by decide)
    (he : starEach (e :: es) X.env = (false, eval e X.env) :: starEach es X.env := by rfl) (hpl : (backTo pos (starEach es X.env)).any (·.1) = false := by rfl) : PE X (.Call (.Name x p) (e :: es) [] pos) (rdE C W (dCB gc fa)) :=
  (pe_callB hc hg hm hv ha hn hdb he hpl).imp fun _ _ _ q => rd_call k q
theorem pd_callBF {x : Str} {p : Pos} {id : String} {r : List V → Hp → VK → Prop} {gc : List D → Option (List D)} {fa : DL} (hc : CallR X (.builtin id) r) (k : RCFk C.K r gc) (hm : X.mg x = none) (hv : bootBuiltins x = some (.builtin id)) (ha : PA X (e :: es) (rdA C W fa))
    (hg : Gl X x := by rfl) (hn : x ≠ "__name__" := by decide) (hdb : (x == ("__debug__" : Str)) = false := by decide)
    (he : starEach (e :: es) X.env = (false, eval e X.env) :: starEach es X.env := by rfl) (hpl : (backTo pos (starEach es X.env)).any (·.1) = false := by rfl) : PE X (.Call (.Name x p) (e :: es) [] pos) (rdF C W (fCB gc fa)) :=
  (pe_callB hc hg hm hv ha hn hdb he hpl).imp fun _ _ _ q => rd_callF k q
theorem pd_callT {x : Str} {p : Pos} {T : String} {r : List V → Hp → VK → Prop} {gc : List D → Option D} {fa : DL} (hc : CallR X (.type T) r) (k : RCOk C.K r gc) (hm : X.mg x = none) (hv : bootBuiltins x = some (.type T)) (ha : PA X (e :: es) (rdA C W fa))
    (hg : Gl X x := by rfl) (hn : x ≠ "__name__" := by decide) (hdb : (x == ("__debug__" : Str)) = false := by decide)
    (he : starEach (e :: es) X.env = (false, eval e X.env) :: starEach es X.env := by rfl) (hpl : (backTo pos (starEach es X.env)).any (·.1) = false := by rfl) : PE X (.Call (.Name x p) (e :: es) [] pos) (rdE C W (dCB gc fa)) :=
  (pe_callTy hc hg hm hv ha hn hdb he hpl).imp fun _ _ _ q => rd_call k q
theorem pd_callTF {x : Str} {p : Pos} {T : String} {r : List V → Hp → VK → Prop} {gc : List D → Option (List D)} {fa : DL} (hc : CallR X (.type T) r) (k : RCFk C.K r gc) (hm : X.mg x = none) (hv : bootBuiltins x = some (.type T)) (ha : PA X (e :: es) (rdA C W fa))
    (hg : Gl X x := by rfl) (hn : x ≠ "__name__" := by decide) (hdb : (x == ("__debug__" : Str)) = false := by decide)
    (he : starEach (e :: es) X.env = (false, eval e X.env) :: starEach es X.env := by rfl) (hpl : (backTo pos (starEach es X.env)).any (·.1) = false := by rfl) : PE X (.Call (.Name x p) (e :: es) [] pos) (rdF C W (fCB gc fa)) :=
  (pe_callTy hc hg hm hv ha hn hdb he hpl).imp fun _ _ _ q => rd_callF k q
@[simp] def gLen : List D → Option D
  | [.list ds] => some (.int ds.length)
  | [.tuple ds] => some (.int ds.length)
  | [.str x] => if x.length ≤ 100000 then some (.int x.length) else none
  | _ => none
def rLen (K : Fg) : List V → Hp → VK → Prop := fun xs H Q => (∃ p ys, xs = [.ref p] ∧ (SqL K H p ys ∨ SqT K H p ys) ∧ Q (.int ys.length) H) ∨ ∃ z, xs = [.str z] ∧ z.length ≤ sizeLine ∧ Q (.int z.length) H
theorem c_len : CallR X (.builtin "len") (rLen X.K) := call_len_seq.or call_len_str
theorem k_len : RCOk K (rLen K) gLen := fun A H xs ds z Q hf r hz q => by
  cases r with
  | nil => cases hz
  | cons r1 r2 =>
    cases r2 with
    | cons _ _ => cases r1 <;> cases hz
    | nil =>
      cases r1 with
      | lst a1 h1 l =>
        cases hz
        refine .inl ⟨_, _, rfl, .inl (.inl (.inl h1)), ?_⟩
        rw [← l.length]
        exact q _ H (Same.refl H) (.int _)
      | tup h1 l =>
        cases hz
        refine .inl ⟨_, _, rfl, .inr h1, ?_⟩
        rw [← l.length]
        exact q _ H (Same.refl H) (.int _)
      | str x =>
        obtain ⟨hl, rfl⟩ := ite_some hz
        exact .inr ⟨x, rfl, to_line hl, q _ H (Same.refl H) (.int _)⟩
      | _ => cases hz
/-- min, max: of two ints; of a list or tuple of data -/
def alikeB (ds : List D) : Bool := (ds.all fun d => !isNon d) && (ds.all fun x => ds.all fun y => PySem.W.alike x y) && decide (PyData.depthAll ds ≤ 60) && PyData.plainAll ds
def gMin : List D → Option D
  | [.int i, .int j] => some (.int (if j < i then j else i))
  | [.list (x :: xs)] => if alikeB (x :: xs) = true then some (PySem.W.minD x xs) else none
  | [.tuple (x :: xs)] => if alikeB (x :: xs) = true then some (PySem.W.minD x xs) else none
  | _ => none
def gMax : List D → Option D
  | [.int i, .int j] => some (.int (if j > i then j else i))
  | [.list (x :: xs)] => if alikeB (x :: xs) = true then some (PySem.W.maxD x xs) else none
  | [.tuple (x :: xs)] => if alikeB (x :: xs) = true then some (PySem.W.maxD x xs) else none
  | _ => none
theorem alikeB_all {ds : List D} (h : alikeB ds = true) : PySem.W.AlikeAll ds ∧ PyData.depthAll ds ≤ 60 ∧ PyData.plainAll ds = true := by
  unfold alikeB at h
  simp only [Bool.and_eq_true, List.all_eq_true, decide_eq_true_eq] at h
  refine ⟨⟨h.1.1.2, fun x hx e => ?_⟩, h.1.2, h.2⟩
  have := h.1.1.1 x hx
  rw [e] at this
  cases this
mutual
theorem Rep.dpP {A : Addr → Prop} : ∀ {d : D} {v : V}, Rep K H A d v → d.plain = true → Dp K H v d
  | _, _, .non, _ => .non
  | _, _, .bl b, _ => .bl b
  | _, _, .int b, _ => .int b
  | _, _, .str b, _ => .str b
  | _, _, .tup h r, s => .tup h (RepL.dpP r s)
  | _, _, .lst a h r, s => .lst (.inl (.inl h)) (RepL.dpP r s)
  | _, _, .dct a h r, s => by cases s
theorem RepL.dpP {A : Addr → Prop} : ∀ {d : List D} {v : List V}, RepL K H A d v → PyData.plainAll d = true → DpAll K H v d
  | _, _, .nil, _ => .nil
  | _, _, .cons h r, s => by
      rw [PyData.plainAll, Bool.and_eq_true] at s
      exact .cons (Rep.dpP h s.1) (RepL.dpP r s.2)
end
/-- what a list or a tuple at a reads as -/
def SqD (K : Fg) (H : Hp) (a : Addr) (ds : List D) (ys : List V) : Prop := (SqL K H a ys ∨ SqT K H a ys) ∧ DpAll K H ys ds
def rBest (K : Fg) (best : D → List D → D) : List V → Hp → VK → Prop := fun xs H Q => ∃ a x ds ys, xs = [.ref a] ∧ SqD K H a (x :: ds) ys ∧ PySem.W.AlikeAll (x :: ds) ∧ PyData.depthAll (x :: ds) ≤ 60 ∧ ∀ (i : Nat) v, ys[i]? = some v → (x :: ds)[i]? = some (best x ds) → Q v H
theorem best_at {ys : List V} {ds : List D} {its : List Value} {pins : List (Addr × Obj)} {s : Shared} {h' : Heap} {z : D} {bs : List Addr} {i : Nat} {v : Value} (I : L2.Inv X pins σ H s) (hd : DpAll X.K H ys ds) (rv : Vals ys its) (hk : ∀ b o, s.heap.get? b = some o → h'.get? b = some o)
    (hi : its[i]? = some v) (hr : Reads h' v z bs) : ∃ u, ys[i]? = some u ∧ RelV u v ∧ ds[i]? = some z := by
  have hl : i < ys.length := by
    rw [rv.length]
    exact (List.getElem?_eq_some_iff.mp hi).1
  have hy : ys[i]? = some ys[i] := List.getElem?_eq_getElem hl
  obtain ⟨u', hu, ru⟩ := rv.get hy
  rw [hi] at hu
  cases hu
  refine ⟨_, hy, ru, ?_⟩
  have : ∀ {ys : List V} {ds : List D} {i : Nat} {y : V}, DpAll X.K H ys ds → ys[i]? = some y → ∃ d, ds[i]? = some d ∧ Dp X.K H y d := by
    intro ys ds i y hd hy
    induction i generalizing ys ds with
    | zero =>
      cases hd with
      | nil => cases hy
      | cons h1 h2 => cases hy; exact ⟨_, rfl, h1⟩
    | succ i ih =>
      cases hd with
      | nil => cases hy
      | cons h1 h2 => exact ih h2 hy
  obtain ⟨d, h1, h2⟩ := this hd hy
  obtain ⟨as, r⟩ := Dp.reads I d _ _ h2 ru
  have r' : Reads h' v d as := PyProof.Rows.Reads.keeps hk r
  rw [h1, (Reads.unique r' _ _ hr).1]
theorem c_min (hc : X.calm = true) (hu : X.A.units + 64 < cLine) : CallR X (.builtin "min") (rBest X.K PySem.W.minD) := by
  intro pins s σ H vs us Q I r h
  obtain ⟨a, x, ds, ys, rfl, ⟨hs, hd⟩, ha, hdp, q⟩ := h
  rw [Vals.ref1 r]
  rcases hs with hs | hs
  · obtain ⟨its, rv, hl, _⟩ := I.list hs
    obtain ⟨as, rs⟩ := Dp.readsAll I _ _ its hd rv
    refine PySem.W.min_list_data (I.ok.hd hc) hl.isList (by simpa using rs) ha (by omega) fun i v h' tk bs hi hr hk => ?_
    obtain ⟨u, h1, h2, h3⟩ := best_at I hd rv hk (by simpa using hi) hr
    exact ⟨u, H, I.kept hk, h2, q i u h1 h3⟩
  · obtain ⟨its, rv, hl, _⟩ := I.tuple hs
    obtain ⟨as, rs⟩ := Dp.readsAll I _ _ its hd rv
    refine PySem.W.min_tuple_data (I.ok.hd hc) (show s.heap.IsTuple a its.toArray from hl) (by simpa using rs) ha (by omega) fun i v h' tk bs hi hr hk => ?_
    obtain ⟨u, h1, h2, h3⟩ := best_at I hd rv hk (by simpa using hi) hr
    exact ⟨u, H, I.kept hk, h2, q i u h1 h3⟩
theorem c_max (hc : X.calm = true) (hu : X.A.units + 64 < cLine) : CallR X (.builtin "max") (rBest X.K PySem.W.maxD) := by
  intro pins s σ H vs us Q I r h
  obtain ⟨a, x, ds, ys, rfl, ⟨hs, hd⟩, ha, hdp, q⟩ := h
  rw [Vals.ref1 r]
  rcases hs with hs | hs
  · obtain ⟨its, rv, hl, _⟩ := I.list hs
    obtain ⟨as, rs⟩ := Dp.readsAll I _ _ its hd rv
    refine PySem.W.max_list_data (I.ok.hd hc) hl.isList (by simpa using rs) ha (by omega) fun i v h' tk bs hi hr hk => ?_
    obtain ⟨u, h1, h2, h3⟩ := best_at I hd rv hk (by simpa using hi) hr
    exact ⟨u, H, I.kept hk, h2, q i u h1 h3⟩
  · obtain ⟨its, rv, hl, _⟩ := I.tuple hs
    obtain ⟨as, rs⟩ := Dp.readsAll I _ _ its hd rv
    refine PySem.W.max_tuple_data (I.ok.hd hc) (show s.heap.IsTuple a its.toArray from hl) (by simpa using rs) ha (by omega) fun i v h' tk bs hi hr hk => ?_
    obtain ⟨u, h1, h2, h3⟩ := best_at I hd rv hk (by simpa using hi) hr
    exact ⟨u, H, I.kept hk, h2, q i u h1 h3⟩
def r2I (g : Int → Int → Int) : List V → Hp → VK → Prop := fun xs H Q => ∃ i j, xs = [.int i, .int j] ∧ Q (.int (g i j)) H
theorem k_best {best : D → List D → D} {g : Int → Int → Int} {gc : List D → Option D} (h2 : ∀ i j, gc [.int i, .int j] = some (.int (g i j))) (hl : ∀ x xs, gc [.list (x :: xs)] = if alikeB (x :: xs) = true then some (best x xs) else none)
    (ht : ∀ x xs, gc [.tuple (x :: xs)] = if alikeB (x :: xs) = true then some (best x xs) else none)
    (hn : ∀ ds, (∀ i j, ds ≠ [.int i, .int j]) → (∀ x xs, ds ≠ [.list (x :: xs)]) → (∀ x xs, ds ≠ [.tuple (x :: xs)]) → gc ds = none) : RCOk K (fun xs H Q => r2I g xs H Q ∨ rBest K best xs H Q) gc := fun A H xs ds z Q hf r hz q => by
  by_cases c1 : ∃ i j, ds = [.int i, .int j]
  · obtain ⟨i, j, rfl⟩ := c1
    rw [h2] at hz
    cases hz
    cases r with
    | cons r1 r2 =>
      cases r2 with
      | cons r2 r3 =>
        cases r3
        cases r1
        cases r2
        exact .inl ⟨i, j, rfl, q _ H (Same.refl H) (.int _)⟩
  · by_cases c2 : ∃ x xs, ds = [.list (x :: xs)]
    · obtain ⟨x, xs, rfl⟩ := c2
      rw [hl] at hz
      obtain ⟨ha, rfl⟩ := ite_some hz
      obtain ⟨ha, hd, hp⟩ := alikeB_all ha
      cases r with
      | cons r1 r2 =>
        cases r2
        cases r1 with
        | lst a1 e1 l =>
          refine .inr ⟨_, x, xs, _, rfl, ⟨.inl (.inl (.inl e1)), l.dpP hp⟩, ha, hd, fun i v hv hi => ?_⟩
          obtain ⟨u, hu, ru⟩ := l.get hi
          rw [hv] at hu
          cases hu
          exact q _ H (Same.refl H) ru
    · by_cases c3 : ∃ x xs, ds = [.tuple (x :: xs)]
      · obtain ⟨x, xs, rfl⟩ := c3
        rw [ht] at hz
        obtain ⟨ha, rfl⟩ := ite_some hz
        obtain ⟨ha, hd, hp⟩ := alikeB_all ha
        cases r with
        | cons r1 r2 =>
          cases r2
          cases r1 with
          | tup e1 l =>
            refine .inr ⟨_, x, xs, _, rfl, ⟨.inr e1, l.dpP hp⟩, ha, hd, fun i v hv hi => ?_⟩
            obtain ⟨u, hu, ru⟩ := l.get hi
            rw [hv] at hu
            cases hu
            exact q _ H (Same.refl H) ru
      · rw [hn ds (fun i j e => c1 ⟨i, j, e⟩) (fun x xs e => c2 ⟨x, xs, e⟩) (fun x xs e => c3 ⟨x, xs, e⟩)] at hz
        cases hz
theorem k_min : RCOk K (fun xs H Q => r2I (fun i j => if j < i then j else i) xs H Q ∨ rBest K PySem.W.minD xs H Q) gMin := k_best (fun _ _ => rfl) (fun _ _ => rfl) (fun _ _ => rfl) fun ds h1 h2 h3 => by
  unfold gMin
  split
  · exact absurd rfl (h1 _ _)
  · exact absurd rfl (h2 _ _)
  · exact absurd rfl (h3 _ _)
  · rfl
theorem k_max : RCOk K (fun xs H Q => r2I (fun i j => if j > i then j else i) xs H Q ∨ rBest K PySem.W.maxD xs H Q) gMax := k_best (fun _ _ => rfl) (fun _ _ => rfl) (fun _ _ => rfl) fun ds h1 h2 h3 => by
  unfold gMax
  split
  · exact absurd rfl (h1 _ _)
  · exact absurd rfl (h2 _ _)
  · exact absurd rfl (h3 _ _)
  · rfl
theorem c_min2 (hc : X.calm = true) (hu : X.A.units + 64 < cLine) : CallR X (.builtin "min") (fun xs H Q => r2I (fun i j => if j < i then j else i) xs H Q ∨ rBest X.K PySem.W.minD xs H Q) := (call_min2 hc).or (c_min hc hu)
theorem c_max2 (hc : X.calm = true) (hu : X.A.units + 64 < cLine) : CallR X (.builtin "max") (fun xs H Q => r2I (fun i j => if j > i then j else i) xs H Q ∨ rBest X.K PySem.W.maxD xs H Q) := (call_max2 hc).or (c_max hc hu)
/-- sum of ints -/
def gSum : List D → Option D
  | [.list ds] => (asInts ds).map fun ns => .int ns.sum
  | [.tuple ds] => (asInts ds).map fun ns => .int ns.sum
  | _ => none
def rSumT (K : Fg) : List V → Hp → VK → Prop := fun vs H Q => ∃ (a : Addr) (ns : List Int), vs = [V.ref a] ∧ SqT K H a (ns.map V.int) ∧ Q (.int ns.sum) H
theorem c_sumT (hc : X.calm = true) : CallR X (.builtin "sum") (rSumT X.K) := by
  intro pins s σ H vs us Q I r h
  obtain ⟨a, ns, rfl, hs, q⟩ := h
  obtain ⟨its, rv, hl, _⟩ := I.tuple hs
  rw [Vals.ref1 r]
  have hi := rv.ints
  obtain ⟨xs, e⟩ := hi.allInts.items
  have hn : numsOf (intItems xs).toList = ns := by rw [← e]; exact hi.numsOf
  rw [nums_intItems] at hn
  have hl : s.heap.IsTuple a its.toArray := hl
  rw [e] at hl
  refine PySem.W.ktm_sumG (I.ok.hd hc) hl fun h' tk t' hk => ?_
  rw [preSum_eq, List.take_of_length_le (by simp), hn]
  exact ⟨.int _, H, I.kept hk, ⟨_, rfl⟩, q⟩
theorem c_sum (hc : X.calm = true) : CallR X (.builtin "sum") (fun xs H Q => rSum X.K xs H Q ∨ rSumT X.K xs H Q) := (cr_sum hc).or (c_sumT hc)
theorem k_sum : RCOk K (fun xs H Q => rSum K xs H Q ∨ rSumT K xs H Q) gSum := fun A H xs ds z Q hf r hz q => by
  cases r with
  | nil => cases hz
  | cons r1 r2 =>
    cases r2 with
    | cons _ _ => cases r1 <;> cases hz
    | nil =>
      cases r1 with
      | lst a1 h1 l =>
        rename_i ds
        have hz : (asInts ds).map (fun ns => PyData.int ns.sum) = some z := hz
        cases e1 : asInts ds with
        | none => rw [e1] at hz; cases hz
        | some ns =>
          rw [e1] at hz
          cases hz
          rw [asInts_eq e1] at l
          have v1 := repL_ints l
          subst v1
          exact .inl ⟨_, ns, rfl, .inl (.inl h1), q _ H (Same.refl H) (.int _)⟩
      | tup h1 l =>
        rename_i ds
        have hz : (asInts ds).map (fun ns => PyData.int ns.sum) = some z := hz
        cases e1 : asInts ds with
        | none => rw [e1] at hz; cases hz
        | some ns =>
          rw [e1] at hz
          cases hz
          rw [asInts_eq e1] at l
          have v1 := repL_ints l
          subst v1
          exact .inr ⟨_, ns, rfl, h1, q _ H (Same.refl H) (.int _)⟩
      | _ => cases hz
/-- all, any of truths -/
def asBls : List D → Option (List Bool)
  | [] => some []
  | .bool i :: r => (asBls r).map (i :: ·)
  | _ => none
theorem asBls_map : ∀ ns : List Bool, asBls (ns.map .bool) = some ns
  | [] => rfl
  | n :: ns => by
    show (asBls (ns.map .bool)).map (n :: ·) = _
    rw [asBls_map ns]
    rfl
theorem asBls_eq : ∀ {ds : List D} {ns : List Bool}, asBls ds = some ns → ds = ns.map .bool
  | [], ns, h => by cases h; rfl
  | .bool i :: r, ns, h => by
    have h : (asBls r).map (i :: ·) = some ns := h
    cases e : asBls r with
    | none => rw [e] at h; cases h
    | some m =>
      rw [e] at h
      cases h
      rw [asBls_eq e]
      rfl
  | .none :: _, _, h => by cases h
  | .int _ :: _, _, h => by cases h
  | .str _ :: _, _, h => by cases h
  | .list _ :: _, _, h => by cases h
  | .tuple _ :: _, _, h => by cases h
  | .dict _ :: _, _, h => by cases h
def gAll : List D → Option D
  | [.list ds] => (asBls ds).map fun bs => .bool (bs.all id)
  | _ => none
def gAny : List D → Option D
  | [.list ds] => (asBls ds).map fun bs => .bool (bs.any id)
  | _ => none
theorem k_all : RCOk K (rAll K) gAll := fun A H xs ds z Q hf r hz q => by
  cases r with
  | nil => cases hz
  | cons r1 r2 =>
    cases r2 with
    | cons _ _ => cases r1 <;> cases hz
    | nil =>
      cases r1 with
      | lst a1 h1 l =>
        rename_i ds
        have hz : (asBls ds).map (fun ns => PyData.bool (ns.all id)) = some z := hz
        cases e1 : asBls ds with
        | none => rw [e1] at hz; cases hz
        | some ns =>
          rw [e1] at hz
          cases hz
          rw [asBls_eq e1] at l
          have v1 := repL_bls l
          subst v1
          exact ⟨_, ns, rfl, .inl (.inl h1), q _ H (Same.refl H) (.bl _)⟩
      | _ => cases hz
theorem k_any : RCOk K (rAny K) gAny := fun A H xs ds z Q hf r hz q => by
  cases r with
  | nil => cases hz
  | cons r1 r2 =>
    cases r2 with
    | cons _ _ => cases r1 <;> cases hz
    | nil =>
      cases r1 with
      | lst a1 h1 l =>
        rename_i ds
        have hz : (asBls ds).map (fun ns => PyData.bool (ns.any id)) = some z := hz
        cases e1 : asBls ds with
        | none => rw [e1] at hz; cases hz
        | some ns =>
          rw [e1] at hz
          cases hz
          rw [asBls_eq e1] at l
          have v1 := repL_bls l
          subst v1
          exact ⟨_, ns, rfl, .inl (.inl h1), q _ H (Same.refl H) (.bl _)⟩
      | _ => cases hz
/-- list(x), tuple(x) -/
@[simp] def gList : List D → Option (List D)
  | [.list ds] => some ds
  | [.tuple ds] => some ds
  | _ => none
@[simp] def gTuple : List D → Option D
  | [.list ds] => some (.tuple ds)
  | [.tuple ds] => some (.tuple ds)
  | _ => none
def rListC (K : Fg) : List V → Hp → VK → Prop := fun xs H Q => ∃ p ys, xs = [.ref p] ∧ (SqL K H p ys ∨ SqT K H p ys) ∧ ∀ l, H l = none → Q (.ref l) (upd H l (.lst ys))
def rTupleC (K : Fg) : List V → Hp → VK → Prop := fun xs H Q => ∃ p ys, xs = [.ref p] ∧ ((SqL K H p ys ∧ ∀ l, H l = none → Q (.ref l) (upd H l (.tup ys))) ∨ (SqT K H p ys ∧ Q (.ref p) H))
theorem k_list : RCFk K (rListC K) gList := fun A H xs ds z Q hf r hz q => by
  cases r with
  | nil => cases hz
  | cons r1 r2 =>
    cases r2 with
    | cons _ _ => cases r1 <;> cases hz
    | nil =>
      cases r1 with
      | lst a1 h1 l =>
        cases hz
        exact ⟨_, _, rfl, .inl (.inl (.inl h1)), fun p hp => q p _ _ hp (same_new hp) upd_same ((l.avoid (np_none hp)).keep (same_keep (same_new hp)))⟩
      | tup h1 l =>
        cases hz
        exact ⟨_, _, rfl, .inr h1, fun p hp => q p _ _ hp (same_new hp) upd_same ((l.avoid (np_none hp)).keep (same_keep (same_new hp)))⟩
      | _ => cases hz
theorem k_tuple : RCOk K (rTupleC K) gTuple := fun A H xs ds z Q hf r hz q => by
  cases r with
  | nil => cases hz
  | cons r1 r2 =>
    cases r2 with
    | cons _ _ => cases r1 <;> cases hz
    | nil =>
      cases r1 with
      | lst a1 h1 l =>
        cases hz
        exact ⟨_, _, rfl, .inl ⟨.inl (.inl h1), fun p hp => q _ _ (same_new hp) (.tup (.inl (.inl upd_same)) (l.keep (same_keep (same_new hp))))⟩⟩
      | tup h1 l =>
        cases hz
        exact ⟨_, _, rfl, .inr ⟨h1, q _ H (Same.refl H) (.tup h1 l)⟩⟩
      | _ => cases hz
end
end G8

set_option Elab.async false
set_option linter.all false
set_option maxRecDepth 100000
set_option maxHeartbeats 1000000
namespace G8
open PySem L2 LamX
/-! ### statements -/
inductive Fl where
  | nx (ρ : Rho) | ret (d : D) | brk (ρ : Rho) | ct (ρ : Rho) | exc (x : String)
abbrev RS := Option (Fl × Dl)
abbrev DS := Rho → Dl → RS
/-- from one state to a later one: what was not owned stands; what is owned was owned or is new -/
structure Step (C : Ct) (σ : L2.St) (ρ : Rho) (H : Hp) (σ' : L2.St) (ρ' : Rho) (H' : Hp) : Prop where
  keep : Keep (Av C σ ρ) H H'
  own : ∀ a, Own σ' ρ' a → Own σ ρ a ∨ Np H a
  dom : ∀ a, Np H' a → Np H a
section
variable {C : Ct} {H H' H1 H2 : Hp} {σ σ' σ1 σ2 : L2.St} {ρ ρ' ρ1 ρ2 : Rho} {δ δ' δ1 : Dl}
theorem Step.refl : Step C σ ρ H σ ρ H := ⟨Keep.refl, fun _ h => .inl h, fun _ h => h⟩
theorem Step.trans (a : Step C σ ρ H σ1 ρ1 H1) (b : Step C σ1 ρ1 H1 σ2 ρ2 H2) : Step C σ ρ H σ2 ρ2 H2 where
  keep := fun c o p n h => by
    have h1 := a.keep c o p n h
    refine b.keep c o ?_ n h1
    rcases p with p | p
    · refine .inl ⟨p.1, fun q => ?_⟩
      rcases a.own c q with z | z
      · exact p.2 z
      · exact z o h n
    · exact .inr p
  own := fun c h => by
    rcases b.own c h with z | z
    · exact a.own c z
    · exact .inr (a.dom c z)
  dom := fun c h => a.dom c (b.dom c h)
theorem Step.of_ext (E : EnvOk C H σ ρ δ) (x : Ext C H H1) (E1 : EnvOk C H1 σ ρ δ1) : Step C σ ρ H σ ρ H1 := ⟨E.keep x, fun _ h => .inl h, fun _ h => ext_same_none E x E1 h⟩
theorem own_set {i : Nat} {ov : Option V} {s : Sl} (hs : s.isOwn = false) {a : Addr} (h : Own (σ.set i ov) (ρ.set i s) a) : Own σ ρ a := by
  obtain ⟨j, t, h1, h2, h3⟩ := h
  by_cases hj : i = j
  · subst hj
    rw [List.getElem?_set_self'] at h1
    cases e : ρ[i]? with
    | none => rw [e] at h1; cases h1
    | some u =>
      rw [e] at h1
      have h1 : some s = some t := h1
      cases h1
      rw [hs] at h2
      cases h2
  · rw [List.getElem?_set_ne hj] at h1 h3
    exact ⟨j, t, h1, h2, h3⟩
theorem SlotOk.widen {A B : Addr → Prop} {s : Sl} {ov : Option V} (h : SlotOk C H A s ov) (hs : ∀ a, A a → B a) : SlotOk C H B s ov := by
  cases s with
  | un => trivial
  | val d =>
    cases ov with
    | none => exact h
    | some v => exact Rep.widen h hs
  | own ds =>
    cases ov with
    | none => exact h
    | some v =>
      obtain ⟨p, vs, rfl, h1, h2, h3⟩ := h
      exact ⟨p, vs, rfl, h1, h2, h3.widen hs⟩
  | ownd ds =>
    cases ov with
    | none => exact h
    | some v =>
      obtain ⟨p, vs, rfl, h1, h2, h3⟩ := h
      exact ⟨p, vs, rfl, h1, h2, h3.mono Keep.refl hs⟩
  | dice =>
    cases ov with
    | none => exact h
    | some v => exact h
/-- a slot gets something that is not owned -/
theorem EnvOk.set (E : EnvOk C H σ ρ δ) {i : Nat} {ov : Option V} {s : Sl} (hs : s.isOwn = false) (hk : SlotOk C H (Av C σ ρ) s ov) : EnvOk C H (σ.set i ov) (ρ.set i s) δ where
  len := by rw [List.length_set, List.length_set]; exact E.len
  slot := fun j t h => by
    have av : ∀ a, Av C σ ρ a → Av C (σ.set i ov) (ρ.set i s) a := fun a z => ⟨z.1, fun q => z.2 (own_set hs q)⟩
    by_cases hj : i = j
    · subst hj
      have hl : i < ρ.length := by
        have := (List.getElem?_eq_some_iff.mp h).1
        rwa [List.length_set] at this
      rw [List.getElem?_set_self hl] at h
      cases h
      exact ⟨ov, List.getElem?_set_self (by rw [E.len]; exact hl), hk.widen av⟩
    · rw [List.getElem?_set_ne hj] at h
      obtain ⟨o, e, k⟩ := E.slot j t h
      exact ⟨o, by rw [List.getElem?_set_ne hj]; exact e, k.widen av⟩
  dis := fun j k s1 t1 v h1 h2 o1 o2 e1 e2 => by
    by_cases hj : i = j
    · subst hj
      have hl : i < ρ.length := by
        have := (List.getElem?_eq_some_iff.mp h1).1
        rwa [List.length_set] at this
      rw [List.getElem?_set_self hl] at h1
      cases h1
      rw [hs] at o1
      cases o1
    · by_cases hk : i = k
      · subst hk
        have hl : i < ρ.length := by
          have := (List.getElem?_eq_some_iff.mp h2).1
          rwa [List.length_set] at this
        rw [List.getElem?_set_self hl] at h2
        cases h2
        rw [hs] at o2
        cases o2
      · rw [List.getElem?_set_ne hj] at h1 e1
        rw [List.getElem?_set_ne hk] at h2 e2
        exact E.dis j k s1 t1 v h1 h2 o1 o2 e1 e2
  ext := E.ext
  dc := E.dc
  fr := E.fr
  tb := E.tb
theorem Step.set (E : EnvOk C H σ ρ δ) {i : Nat} {ov : Option V} {s : Sl} (hs : s.isOwn = false) : Step C σ ρ H (σ.set i ov) (ρ.set i s) H := ⟨Keep.refl, fun _ h => .inl (own_set hs h), fun _ h => h⟩
theorem own_setO {i : Nat} {p : Addr} {s : Sl} {a : Addr} (h : Own (σ.set i (some (.ref p))) (ρ.set i s) a) : Own σ ρ a ∨ a = p := by
  obtain ⟨j, t, h1, h2, h3⟩ := h
  by_cases hj : i = j
  · subst hj
    rw [List.getElem?_set_self'] at h3
    cases e : σ[i]? with
    | none => rw [e] at h3; cases h3
    | some u =>
      rw [e] at h3
      have h3 : some (some (V.ref p)) = some (some (V.ref a)) := h3
      cases h3
      exact .inr rfl
  · rw [List.getElem?_set_ne hj] at h1 h3
    exact .inl ⟨j, t, h1, h2, h3⟩
theorem SlotOk.avoid {A : Addr → Prop} {s : Sl} {ov : Option V} {p : Addr} (h : SlotOk C H A s ov) (n : Np H p) : SlotOk C H (fun a => A a ∧ a ≠ p) s ov := by
  cases s with
  | un => trivial
  | val d =>
    cases ov with
    | none => exact h
    | some v => exact Rep.avoid n h
  | own ds =>
    cases ov with
    | none => exact h
    | some v =>
      obtain ⟨q, vs, rfl, h1, h2, h3⟩ := h
      exact ⟨q, vs, rfl, h1, h2, h3.avoid n⟩
  | ownd ds =>
    cases ov with
    | none => exact h
    | some v =>
      obtain ⟨q, vs, rfl, h1, h2, h3⟩ := h
      exact ⟨q, vs, rfl, h1, h2, h3.avoid n⟩
  | dice =>
    cases ov with
    | none => exact h
    | some v => exact h
/-- a slot gets a new list (dict) of its own: p is new against the heap of the statement's beginning -/
theorem EnvOk.setO (E : EnvOk C H σ ρ δ) {i : Nat} {p : Addr} {s : Sl} (hp : Np H p) (x : Ext C H H1) (E1 : EnvOk C H1 σ ρ δ1) (hk : SlotOk C H1 (fun a => Av C σ ρ a ∧ a ≠ p) s (some (.ref p))) :
    EnvOk C H1 (σ.set i (some (.ref p))) (ρ.set i s) δ1 where
  len := by rw [List.length_set, List.length_set]; exact E.len
  slot := fun j t h => by
    have av : ∀ a, (Av C σ ρ a ∧ a ≠ p) → Av C (σ.set i (some (.ref p))) (ρ.set i s) a := fun a z => ⟨z.1.1, fun q => (own_setO q).elim z.1.2 z.2⟩
    by_cases hj : i = j
    · subst hj
      have hl : i < ρ.length := by
        have := (List.getElem?_eq_some_iff.mp h).1
        rwa [List.length_set] at this
      rw [List.getElem?_set_self hl] at h
      cases h
      exact ⟨_, List.getElem?_set_self (by rw [E.len]; exact hl), hk.widen av⟩
    · rw [List.getElem?_set_ne hj] at h
      obtain ⟨o, e, k⟩ := E.slot j t h
      refine ⟨o, by rw [List.getElem?_set_ne hj]; exact e, SlotOk.widen ((k.avoid hp).keep ((E.keep x).sub fun a z => z.1) fun q hs hq => ?_) av⟩
      have ho : Own σ ρ q := ⟨j, t, h, hs, by rw [e, hq]⟩
      obtain ⟨u, hu, n⟩ := E.own_there ho
      rw [hu]
      exact x q u (E.own_ndc ho) n hu
  dis := fun j k s1 t1 v h1 h2 o1 o2 e1 e2 => by
    have hi : ∀ {j : Nat} {t : Sl} {q : Addr}, i ≠ j → ρ[j]? = some t → t.isOwn = true → σ[j]? = some (some (V.ref q)) → q ≠ p := fun hj hr ho hs z => by
      subst z
      exact E.none_own hp ⟨_, _, hr, ho, hs⟩
    have hv : ∀ {j : Nat} {t : Sl}, ρ[j]? = some t → t.isOwn = true → ∃ q, σ[j]? = some (some (V.ref q)) := fun {j t} hr ho => by
      obtain ⟨o, e, k⟩ := E.slot j t hr
      cases t with
      | own ds =>
        cases o with
        | none => exact k.elim
        | some v =>
          obtain ⟨q, vs, rfl, _⟩ := k
          exact ⟨q, e⟩
      | ownd ds =>
        cases o with
        | none => exact k.elim
        | some v =>
          obtain ⟨q, vs, rfl, _⟩ := k
          exact ⟨q, e⟩
      | _ => cases ho
    have here : ∀ {v : Option V} {t : Sl}, (ρ.set i s)[i]? = some t → (σ.set i (some (V.ref p)))[i]? = some v → v = some (V.ref p) := fun {v t} hr hs => by
      have hl : i < σ.length := by
        have := (List.getElem?_eq_some_iff.mp hs).1
        rwa [List.length_set] at this
      rw [List.getElem?_set_self hl] at hs
      cases hs
      rfl
    by_cases hj : i = j
    · by_cases hk : i = k
      · rw [← hj, ← hk]
      · subst hj
        have ev := here h1 e1
        rw [List.getElem?_set_ne hk] at h2 e2
        subst ev
        exact absurd rfl (hi hk h2 o2 e2)
    · by_cases hk : i = k
      · subst hk
        have ev := here h2 e2
        rw [List.getElem?_set_ne hj] at h1 e1
        subst ev
        exact absurd rfl (hi hj h1 o1 e1)
      · rw [List.getElem?_set_ne hj] at h1 e1
        rw [List.getElem?_set_ne hk] at h2 e2
        exact E.dis j k s1 t1 v h1 h2 o1 o2 e1 e2
  ext := E1.ext
  dc := E1.dc
  fr := E1.fr
  tb := E1.tb
theorem Step.setO (E : EnvOk C H σ ρ δ) {i : Nat} {p : Addr} {s : Sl} (hp : Np H p) (x : Ext C H H1) (E1 : EnvOk C H1 σ ρ δ1) : Step C σ ρ H (σ.set i (some (.ref p))) (ρ.set i s) H1 :=
  ⟨E.keep x, fun a h => (own_setO h).imp id fun e => by rw [e]; exact hp, fun a h => ext_same_none E x E1 h⟩
/-- the list of an own slot is changed -/
theorem EnvOk.mut (E : EnvOk C H σ ρ δ) {i : Nat} {p : Addr} {s t : Sl} {o o' : HO} (hs : ρ[i]? = some s) (so : s.isOwn = true) (to : t.isOwn = true) (hσ : σ[i]? = some (some (.ref p))) (hp : H p = some o) (ho : ¬ imm o)
    (hk : SlotOk C (upd H p o') (Av C σ ρ) t (some (.ref p))) : EnvOk C (upd H p o') σ (ρ.set i t) δ ∧ Step C σ ρ H σ (ρ.set i t) (upd H p o') := by
  have hop : Own σ ρ p := ⟨i, s, hs, so, hσ⟩
  have hl : i < ρ.length := (List.getElem?_eq_some_iff.mp hs).1
  have oeq : ∀ a, Own σ (ρ.set i t) a ↔ Own σ ρ a := fun a => by
    constructor
    · rintro ⟨j, u, h1, h2, h3⟩
      by_cases hj : i = j
      · subst hj
        exact ⟨i, s, hs, so, h3⟩
      · rw [List.getElem?_set_ne hj] at h1
        exact ⟨j, u, h1, h2, h3⟩
    · rintro ⟨j, u, h1, h2, h3⟩
      by_cases hj : i = j
      · subst hj
        exact ⟨i, t, List.getElem?_set_self hl, to, h3⟩
      · exact ⟨j, u, by rw [List.getElem?_set_ne hj]; exact h1, h2, h3⟩
  have av : ∀ a, Av C σ ρ a → Av C σ (ρ.set i t) a := fun a z => ⟨z.1, fun q => z.2 ((oeq a).mp q)⟩
  have kp : Keep (Av C σ ρ) H (upd H p o') := fun a u q _ h => by
    rw [upd_ne]
    · exact h
    · rintro rfl
      rcases q with q | q
      · exact q.2 hop
      · rw [hp] at h
        cases h
        exact ho q
  have h0 : Np C.H0 p ∧ pl o := by
    obtain ⟨ov, e, k⟩ := E.slot i s hs
    rw [hσ] at e
    cases e
    cases s with
    | own ds => obtain ⟨q, vs, e, h4, hq, _⟩ := k; cases e; rw [hp] at h4; cases h4; exact ⟨hq.1, pl_lst⟩
    | ownd ds => obtain ⟨q, vs, e, h4, hq, _⟩ := k; cases e; rw [hp] at h4; cases h4; exact ⟨hq.1, pl_dK⟩
    | _ => cases so
  have npp : ¬ Np H p := fun z => z o hp h0.2.1
  have no' : nt o' := by
    cases t with
    | own ds => obtain ⟨q, vs, e, h4, _⟩ := hk; cases e; rw [upd_same] at h4; cases h4; exact nt_lst
    | ownd ds => obtain ⟨q, vs, e, h4, _⟩ := hk; cases e; rw [upd_same] at h4; cases h4; exact nt_dK
    | _ => cases to
  refine ⟨⟨by rw [List.length_set]; exact E.len, fun j u h => ?_, fun j k s1 t1 v h1 h2 o1 o2 e1 e2 => ?_, fun a u hd n h => ?_, fun a h => ⟨?_, (E.dc a h).2⟩, fun a h => ?_, tabs_upd E.tb hp h0.2⟩, ⟨kp, fun a h => .inl ((oeq a).mp h), fun a h => ?_⟩⟩
  · by_cases hj : i = j
    · subst hj
      rw [List.getElem?_set_self hl] at h
      cases h
      exact ⟨_, hσ, hk.widen av⟩
    · rw [List.getElem?_set_ne hj] at h
      obtain ⟨ov, e, k⟩ := E.slot j u h
      refine ⟨ov, e, (k.keep kp fun q hu hq => ?_).widen av⟩
      refine upd_ne fun z => ?_
      subst z
      exact hj (E.dis i j s u _ hs h so hu hσ (by rw [e, hq]))
  · have fix : ∀ {j : Nat} {u : Sl}, (ρ.set i t)[j]? = some u → u.isOwn = true → ∃ u', ρ[j]? = some u' ∧ u'.isOwn = true := fun {j u} h ho => by
      by_cases hj : i = j
      · subst hj
        exact ⟨s, hs, so⟩
      · rw [List.getElem?_set_ne hj] at h
        exact ⟨u, h, ho⟩
    obtain ⟨u1, a1, b1⟩ := fix h1 o1
    obtain ⟨u2, a2, b2⟩ := fix h2 o2
    exact E.dis j k u1 u2 v a1 a2 b1 b2 e1 e2
  · rw [upd_ne]
    · exact E.ext a u hd n h
    · rintro rfl
      exact h0.1 u h n
  · rw [upd_ne]
    · exact (E.dc a h).1
    · rintro rfl
      exact E.own_ndc hop h
  · obtain ⟨u, n, e⟩ := E.fr a h
    by_cases e' : a = p
    · exact ⟨o', no', by rw [e', upd_same]⟩
    · exact ⟨u, n, by rw [upd_ne e']; exact e⟩
  · by_cases e : a = p
    · rw [e] at h
      exact absurd no' (h o' upd_same)
    · exact fun u hu => h u (by rw [upd_ne e]; exact hu)
/-- an own list is owned no more -/
theorem EnvOk.freeze (E : EnvOk C H σ ρ δ) {i : Nat} {ds : List D} (h : ρ[i]? = some (.own ds)) : EnvOk C H σ (ρ.set i (.val (.list ds))) δ ∧ Step C σ ρ H σ (ρ.set i (.val (.list ds))) H := by
  have hl : i < ρ.length := (List.getElem?_eq_some_iff.mp h).1
  obtain ⟨ov, e, k⟩ := E.slot i _ h
  cases ov with
  | none => exact k.elim
  | some v =>
    obtain ⟨p, vs, rfl, h1, h2, h3⟩ := k
    have hσ : σ.set i (some (V.ref p)) = σ := by
      apply List.ext_getElem?
      intro j
      by_cases hj : i = j
      · subst hj
        rw [List.getElem?_set_self (by rw [E.len]; exact hl), e]
      · rw [List.getElem?_set_ne hj]
    have np : ¬ Own σ (ρ.set i (.val (.list ds))) p := by
      rintro ⟨j, u, a1, a2, a3⟩
      by_cases hj : i = j
      · subst hj
        rw [List.getElem?_set_self hl] at a1
        cases a1
        cases a2
      · rw [List.getElem?_set_ne hj] at a1
        exact hj (E.dis i j _ u _ h a1 rfl a2 e a3)
    have om : ∀ a, Own σ (ρ.set i (.val (.list ds))) a → Own σ ρ a := fun a q => own_set (i := i) (ov := some (V.ref p)) rfl (by rw [hσ]; exact q)
    have av : ∀ a, Av C σ ρ a → Av C σ (ρ.set i (.val (.list ds))) a := fun a z => ⟨z.1, fun q => z.2 (om a q)⟩
    refine ⟨⟨by rw [List.length_set]; exact E.len, fun j u hu => ?_, fun j k s1 t1 v b1 b2 o1 o2 e1 e2 => ?_, E.ext, E.dc, E.fr, E.tb⟩, ⟨Keep.refl, fun a q => .inl (om a q), fun _ q => q⟩⟩
    · by_cases hj : i = j
      · subst hj
        rw [List.getElem?_set_self hl] at hu
        cases hu
        exact ⟨_, e, Rep.lst ⟨h2.2, np⟩ h1 (h3.widen av)⟩
      · rw [List.getElem?_set_ne hj] at hu
        obtain ⟨o, e', k'⟩ := E.slot j u hu
        exact ⟨o, e', k'.widen av⟩
    · have fix : ∀ {j : Nat} {u : Sl}, (ρ.set i (.val (.list ds)))[j]? = some u → u.isOwn = true → ρ[j]? = some u := fun {j u} q ho => by
        by_cases hj : i = j
        · subst hj
          rw [List.getElem?_set_self hl] at q
          cases q
          cases ho
        · rw [List.getElem?_set_ne hj] at q
          exact q
      exact E.dis j k s1 t1 v (fix b1 o1) (fix b2 o2) o1 o2 e1 e2
end

/-! ### the readings of statements -/
def PostS (C : Ct) (W : Wx) (D : Ends) (σ : L2.St) (ρ : Rho) (H : Hp) : RS → Prop
  | none => False
  | some (.nx ρ', δ') => ∀ σ' H', EnvOk C H' σ' ρ' δ' → Step C σ ρ H σ' ρ' H' → D.nx σ' H'
  | some (.brk ρ', δ') => ∀ σ' H', EnvOk C H' σ' ρ' δ' → Step C σ ρ H σ' ρ' H' → D.bk σ' H'
  | some (.ct ρ', δ') => ∀ σ' H', EnvOk C H' σ' ρ' δ' → Step C σ ρ H σ' ρ' H' → D.ct σ' H'
  | some (.ret d, δ') => ∀ v H', Ext C C.H0 H' → (∀ a, C.dc = some a → H' a = some (diceO δ')) → Tabs C.T H' → Rep C.K H' C.S d v → D.rt v H'
  | some (.exc x, δ') => ∀ σ' H', Ext C C.H0 H' → (∀ a, C.dc = some a → H' a = some (diceO δ')) → Tabs C.T H' → W x σ' H'
def rdS (C : Ct) (W : Wx) (g : DS) : TS := fun D σ H => ∃ ρ δ, EnvOk C H σ ρ δ ∧ PostS C W D σ ρ H (g ρ δ)
section
variable {C : Ct} {W : Wx} {D D' : Ends} {H H' H1 H2 : Hp} {σ σ' σ1 σ2 : L2.St} {ρ ρ' ρ1 ρ2 : Rho} {δ δ' δ1 : Dl}
/-- the same from a later state -/
theorem PostS.later {r : RS} (p : PostS C W D σ ρ H r) (st : Step C σ ρ H σ1 ρ1 H1) : PostS C W D σ1 ρ1 H1 r := by
  cases r with
  | none => exact p
  | some r =>
    obtain ⟨r, δ'⟩ := r
    cases r with
    | nx ρ' => exact fun σ' H' E s => p σ' H' E (st.trans s)
    | brk ρ' => exact fun σ' H' E s => p σ' H' E (st.trans s)
    | ct ρ' => exact fun σ' H' E s => p σ' H' E (st.trans s)
    | ret d => exact p
    | exc x => exact p
theorem PostS.mono {r : RS} (p : PostS C W D σ ρ H r) (h1 : ∀ ρ' δ' σ' H', EnvOk C H' σ' ρ' δ' → Step C σ ρ H σ' ρ' H' → D.nx σ' H' → D'.nx σ' H') (h2 : ∀ σ H, D.bk σ H → D'.bk σ H) (h3 : ∀ σ H, D.ct σ H → D'.ct σ H) (h4 : ∀ v H, D.rt v H → D'.rt v H) : PostS C W D' σ ρ H r := by
  cases r with
  | none => exact p
  | some r =>
    obtain ⟨r, δ'⟩ := r
    cases r with
    | nx ρ' => exact fun σ' H' E s => h1 _ _ _ _ E s (p σ' H' E s)
    | brk ρ' => exact fun σ' H' E s => h2 _ _ (p σ' H' E s)
    | ct ρ' => exact fun σ' H' E s => h3 _ _ (p σ' H' E s)
    | ret d => exact fun v H' a b c t => h4 _ _ (p v H' a b c t)
    | exc x => exact p
/-- an expression, then a statement -/
@[reducible, simp] def bndS {α : Type} (x : RR α) (k : α → Dl → RS) : RS :=
  match x with
  | none => none
  | some (.ok a, δ) => k a δ
  | some (.error e, δ) => some (.exc e, δ)
theorem PostS.seqE {α : Type} {x : RR α} {k : α → Dl → RS} (E : EnvOk C H σ ρ δ) (p : PostS C W D σ ρ H (bndS x k)) : Post C W σ ρ (fun _ a δ1 H1 => PostS C W D σ ρ H1 (k a δ1) ∧ PostS C W D σ ρ H (k a δ1)) H x := by
  cases x with
  | none => exact p
  | some r =>
    obtain ⟨r, δ'⟩ := r
    cases r with
    | error x => exact fun H1 x1 E1 => p σ H1 E1.ext (fun a h => (E1.dc a h).1) E1.tb
    | ok a => exact fun H1 x1 E1 => ⟨PostS.later p (Step.of_ext E x1 E1), p⟩
end
end G8

set_option Elab.async false
set_option linter.all false
set_option maxRecDepth 100000
set_option maxHeartbeats 1000000
namespace G8
open PySem L2
/-! ### statements by their data -/
@[simp] def sSeq (g h : DS) : DS := fun ρ δ => match g ρ δ with
  | some (.nx ρ', δ') => h ρ' δ'
  | r => r
@[simp] def sNil : DS := fun ρ δ => some (.nx ρ, δ)
@[simp] def sDrop (f : DE) : DS := fun ρ δ => bndS (f ρ δ) fun _ δ => some (.nx ρ, δ)
@[simp] def sRet (f : DE) : DS := fun ρ δ => bndS (f ρ δ) fun d δ => some (.ret d, δ)
@[simp] def sRetN : DS := fun _ δ => some (.ret .none, δ)
@[simp] def sSet (i : Nat) (f : DE) : DS := fun ρ δ => bndS (f ρ δ) fun d δ => some (.nx (ρ.set i (.val d)), δ)
@[simp] def sSetF (i : Nat) (f : DL) : DS := fun ρ δ => bndS (f ρ δ) fun ds δ => some (.nx (ρ.set i (.own ds)), δ)
@[simp] def sIf (t : DE) (g h : DS) : DS := fun ρ δ => bndS (t ρ δ) fun d δ => match d with
  | .bool true => g ρ δ
  | .bool false => h ρ δ
  | _ => none
/-- an own list's end: what is told is owned no more -/
@[simp] def sFrz (i : Nat) (g : DS) : DS := fun ρ δ => match ρ[i]? with
  | some (.own ds) => g (ρ.set i (.val (.list ds))) δ
  | _ => g ρ δ
@[simp] def sApp (i : Nat) (f : DE) : DS := fun ρ δ => match ρ[i]? with
  | some (.own ds) => bndS (f ρ δ) fun d δ => if ds.length < 100000 then some (.nx (ρ.set i (.own (ds ++ [d]))), δ) else none
  | _ => none
@[simp] def setAll : List Nat → List D → Rho → Rho
  | i :: is, d :: ds, ρ => setAll is ds (ρ.set i (.val d))
  | _, _, ρ => ρ
/-- a, b = .. -/
@[simp] def sPar (is : List Nat) (f : DL) : DS := fun ρ δ => bndS (f ρ δ) fun ds δ => if ds.length = is.length then some (.nx (setAll is ds ρ), δ) else none
@[simp] def sUnp (is : List Nat) (f : DE) : DS := fun ρ δ => bndS (f ρ δ) fun d δ => match d with
  | .tuple ds => if ds.length = is.length then some (.nx (setAll is ds ρ), δ) else none
  | _ => none
def sWhile : Nat → DE → DS → DS
  | 0, _, _ => fun _ _ => none
  | n + 1, t, g => fun ρ δ => bndS (t ρ δ) fun d δ => match d with
    | .bool false => some (.nx ρ, δ)
    | .bool true => (match g ρ δ with
      | some (.nx ρ', δ') => sWhile n t g ρ' δ'
      | some (.ct ρ', δ') => sWhile n t g ρ' δ'
      | some (.brk ρ', δ') => some (.nx ρ', δ')
      | r => r)
    | _ => none
abbrev TgD := D → Rho → Option Rho
@[simp] def tgN (i : Nat) : TgD := fun d ρ => some (ρ.set i (.val d))
@[simp] def tgT (is : List Nat) : TgD := fun d ρ => match d with
  | .tuple ds => if ds.length = is.length then some (setAll is ds ρ) else none
  | _ => none
def forD (tg : TgD) (body : DS) : List D → Rho → Dl → RS
  | [], ρ, δ => some (.nx ρ, δ)
  | d :: ds, ρ, δ => match tg d ρ with
    | none => none
    | some ρ1 => match body ρ1 δ with
      | some (.nx ρ2, δ2) => forD tg body ds ρ2 δ2
      | some (.ct ρ2, δ2) => forD tg body ds ρ2 δ2
      | some (.brk ρ2, δ2) => some (.nx ρ2, δ2)
      | r => r
@[simp] def sFor (fi : DL) (tg : TgD) (body : DS) : DS := fun ρ δ => bndS (fi ρ δ) fun ds δ => forD tg body ds ρ δ
section
variable {X : Cx} {C : Ct} {W : Wx} {e a b : Expr} {es : List Expr} {f t : DE} {fl : DL} {g h : DS} {pos : Pos} {D D' : Ends} {H H' H1 H2 : Hp} {σ σ' σ1 σ2 : L2.St} {ρ ρ' ρ1 ρ2 : Rho} {δ δ' δ1 : Dl} {st : Stmt} {rest : List Stmt}
theorem Rep.toS {d : G8.D} {v : V} (r : Rep C.K H (Av C σ ρ) d v) : Rep C.K H C.S d v := r.widen fun _ z => z.1
theorem q_nil : PSs X [] (rdS C W sNil) := pss_nil.imp fun D σ H ⟨ρ, δ, E, p⟩ => p σ H E Step.refl
theorem q_cons (h1 : PS X st (rdS C W g)) (h2 : PSs X rest (rdS C W h)) : PSs X (st :: rest) (rdS C W (sSeq g h)) := (pss_cons h1 h2).imp fun D σ H ⟨ρ, δ, E, p⟩ => by
  refine ⟨ρ, δ, E, ?_⟩
  unfold sSeq at p
  revert p
  cases g ρ δ with
  | none => exact fun p => p
  | some r =>
    obtain ⟨r, δ'⟩ := r
    cases r with
    | nx ρ' => exact fun p σ' H' E' s => ⟨ρ', δ', E', p.later s⟩
    | brk ρ' => exact fun p => p
    | ct ρ' => exact fun p => p
    | ret d => exact fun p => p
    | exc x => exact fun p => p
theorem q_frz (i : Nat) (h : PSs X rest (rdS C W g)) : PSs X rest (rdS C W (sFrz i g)) := h.imp fun D σ H ⟨ρ, δ, E, p⟩ => by
  unfold sFrz at p
  cases e : ρ[i]? with
  | none => rw [e] at p; exact ⟨ρ, δ, E, p⟩
  | some s =>
    rw [e] at p
    cases s with
    | own ds => exact ⟨_, δ, (E.freeze e).1, p.later (E.freeze e).2⟩
    | _ => exact ⟨ρ, δ, E, p⟩
theorem s_drop (he : PE X e (rdE C W f)) (hs : swapsWith e none pos.line X.env = pure false := by rfl) : PS X (.Expr e pos) (rdS C W (sDrop f)) := (ps_expr he hs).imp fun D σ H ⟨ρ, δ, E, p⟩ =>
  ⟨ρ, δ, E, (p.seqE E).mono fun d δ1 H1 x1 E1 q v _ => q.2 σ H1 E1 (Step.of_ext E x1 E1)⟩
theorem s_ret (he : PE X e (rdE C W f)) : PS X (.Return (some e) pos) (rdS C W (sRet f)) := (ps_ret he).imp fun D σ H ⟨ρ, δ, E, p⟩ =>
  ⟨ρ, δ, E, (p.seqE E).mono fun d δ1 H1 x1 E1 q v r => q.2 v H1 E1.ext (fun a h => (E1.dc a h).1) E1.tb r.toS⟩
/-- return x -/
theorem s_retB (i : Nat) {x : Str} {p1 : Pos} (hN : X.N[i]? = some x := by rfl) (hv : Vis X.env.scope x := by first | exact Or.inl rfl | exact Or.inr (Or.inl rfl) | exact Or.inr (Or.inr rfl))
    (hd : (x == ("__debug__" : Str)) = false := by decide) (hcd : (x == ("__classdict__" : Str)) = false := by decide) : PS X (.Return (some (.Name x p1)) pos) (rdS C W (sRet (dB i))) := (ps_ret (pe_var hN hv hd hcd)).imp fun D σ H ⟨ρ, δ, E, p⟩ => by
  unfold sRet at p
  cases e : dB i ρ δ with
  | none => rw [e] at p; exact p.elim
  | some r =>
    obtain ⟨r, δ'⟩ := r
    cases r with
    | error x => unfold dB at e; split at e <;> cases e
    | ok d =>
      rw [e] at p
      obtain ⟨rfl, v, hv, hr, _⟩ := E.look e
      exact ⟨v, hv, p v H E.ext (fun a h => (E.dc a h).1) E.tb hr⟩
theorem s_retN : PS X (.Return none pos) (rdS C W sRetN) := ps_retN.imp fun D σ H ⟨ρ, δ, E, p⟩ => p .non H E.ext (fun a h => (E.dc a h).1) E.tb .non
theorem s_if {c : Expr} {x y : List Stmt} (hc : PT X c (rdT C W t)) (ha : PSs X x (rdS C W g)) (hb : PSs X y (rdS C W h)) : PS X (.If c x y pos) (rdS C W (sIf t g h)) := (ps_if hc ha hb).imp fun D σ H ⟨ρ, δ, E, p⟩ =>
  ⟨ρ, δ, E, (p.seqE E).mono fun d δ1 H1 x1 E1 q => by
    cases d with
    | bool b =>
      refine ⟨b, rfl, ?_⟩
      cases b with
      | true => rw [if_pos rfl]; exact ⟨ρ, δ1, E1, q.1⟩
      | false => rw [if_neg Bool.false_ne_true]; exact ⟨ρ, δ1, E1, q.1⟩
    | _ => exact q.1.elim⟩
/-- x = e -/
theorem s_set {i : Nat} {x : Str} {px : Pos} (nd : X.N.Nodup) (he : PE X e (rdE C W f)) (hi : X.N[i]? = some x := by rfl) (hx : Loc X.env.scope x := by first | exact Or.inl rfl | exact Or.inr rfl)
    (hs : swapsWithSole [.Name x px] e pos.line X.env = pure false := by rfl) (hw : swappedStores [.Name x px] e X.env = pure none := by rfl)
    (hf : X.fn x = true ∨ X.env.scope.names.lookup x = some .local := by first | exact .inl rfl | exact .inr rfl | assumption) : PS X (.Assign [.Name x px] e pos) (rdS C W (sSet i f)) :=
  (ps_asg he (pg_name nd hi hx hf) hs hw).imp fun D σ H ⟨ρ, δ, E, p⟩ => ⟨ρ, δ, E, (p.seqE E).mono fun d δ1 H1 x1 E1 q v r =>
    q.1 _ H1 (E1.set rfl r) (Step.set E1 rfl)⟩
theorem oF_set {i : Nat} {Q : L2.St → Hp → Prop} (E : EnvOk C H σ ρ δ) (p : PostS C W D σ ρ H (sSetF i fl ρ δ)) : Post C W σ ρ (oF C σ ρ fun v H1 => D.nx (σ.set i (some v)) H1) H (fl ρ δ) := by
  refine (PostS.seqE E p).mono fun ds δ1 H1 x1 E1 q p' vs hp hv r => ?_
  refine q.2 _ H1 (E.setO hp x1 E1 ⟨p', vs, rfl, hv, ⟨E.none_h0 hp, E.frN hp⟩, r⟩) (Step.setO E hp x1 E1)
/-- x = a new list -/
theorem s_setF {i : Nat} {x : Str} {px : Pos} (nd : X.N.Nodup) (he : PE X e (rdF C W fl)) (hi : X.N[i]? = some x := by rfl) (hx : Loc X.env.scope x := by first | exact Or.inl rfl | exact Or.inr rfl)
    (hs : swapsWithSole [.Name x px] e pos.line X.env = pure false := by rfl) (hw : swappedStores [.Name x px] e X.env = pure none := by rfl)
    (hf : X.fn x = true ∨ X.env.scope.names.lookup x = some .local := by first | exact .inl rfl | exact .inr rfl | assumption) : PS X (.Assign [.Name x px] e pos) (rdS C W (sSetF i fl)) :=
  (ps_asg he (pg_name nd hi hx hf) hs hw).imp fun D σ H ⟨ρ, δ, E, p⟩ => ⟨ρ, δ, E, oF_set (Q := D.nx) E p⟩
/-! ### several names -/
theorem EnvOk.setAll : ∀ {is : List Nat} {ds : List G8.D} {vs : List V} {σ : L2.St} {ρ : Rho}, EnvOk C H σ ρ δ → RepL C.K H (Av C σ ρ) ds vs → ds.length = is.length →
    EnvOk C H ((is.zip vs).foldl (fun σ p => σ.set p.1 (some p.2)) σ) (setAll is ds ρ) δ ∧ Step C σ ρ H ((is.zip vs).foldl (fun σ p => σ.set p.1 (some p.2)) σ) (G8.setAll is ds ρ) H
  | [], [], _, _, _, E, .nil, _ => ⟨E, Step.refl⟩
  | i :: is, d :: ds, _, σ, ρ, E, .cons (v := v) r rs, hl => by
    have E1 : EnvOk C H (σ.set i (some v)) (ρ.set i (.val d)) δ := E.set rfl r
    have av : ∀ a, Av C σ ρ a → Av C (σ.set i (some v)) (ρ.set i (.val d)) a := fun a z => ⟨z.1, fun q => z.2 (own_set rfl q)⟩
    obtain ⟨h1, h2⟩ := EnvOk.setAll E1 (rs.widen av) (by simpa using hl)
    exact ⟨h1, (Step.set E rfl).trans h2⟩
  | [], _ :: _, _, _, _, _, _, hl => by simp at hl
  | _ :: _, [], _, _, _, _, _, hl => by simp at hl
/-- a, b = e1, e2: plain locals -/
theorem s_par2 {i j : Nat} {x y : Str} {px py pt : Pos} {kt k2 pt2} (nd : X.N.Nodup) (hij : i ≠ j) (ha : PA X [a, b] (rdA C W fl)) (hc : X.calm = true) (hi : X.N[i]? = some x := by rfl) (hj : X.N[j]? = some y := by rfl)
    (hx : X.env.scope.names.lookup x = some .local := by rfl) (hy : X.env.scope.names.lookup y = some .local := by rfl)
    (hw : swappedStores [.Tuple [.Name x px, .Name y py] kt pt] (.Tuple [a, b] k2 pt2) X.env = pure (some [x, y]) := by rfl)
    (hs : swapsWithSole [.Tuple [.Name x px, .Name y py] kt pt] (.Tuple [a, b] k2 pt2) pos.line X.env = pure false := by rfl) :
    PS X (.Assign [.Tuple [.Name x px, .Name y py] kt pt] (.Tuple [a, b] k2 pt2) pos) (rdS C W (sPar [i, j] fl)) :=
  (ps_par hc nd hi hj hij hx hy ha hw hs).imp fun D σ H ⟨ρ, δ, E, p⟩ => ⟨ρ, δ, E, (p.seqE E).mono fun ds δ1 H1 x1 E1 q vs r => by
    by_cases hl : ds.length = 2
    · have hl' : ds.length = [i, j].length := hl
      rw [if_pos hl'] at q
      obtain ⟨h1, h2⟩ := E1.setAll r hl'
      have hv : vs.length = 2 := by rw [← r.length]; exact hl
      match vs, hv with
      | [v, w], _ => exact ⟨v, w, rfl, q.1 _ H1 h1 h2⟩
    · have q := q.1
      rw [if_neg (show ¬ ds.length = [i, j].length from hl)] at q
      exact q.elim⟩
theorem s_par3 {c : Expr} {i j l : Nat} {x y z : Str} {px py pz pt : Pos} {kt k2 pt2} (nd : X.N.Nodup) (hij : i ≠ j) (hil : i ≠ l) (hjl : j ≠ l) (ha : PA X [a, b, c] (rdA C W fl)) (hc : X.calm = true) (hi : X.N[i]? = some x := by rfl) (hj : X.N[j]? = some y := by rfl) (hl : X.N[l]? = some z := by rfl)
    (hx : X.env.scope.names.lookup x = some .local := by rfl) (hy : X.env.scope.names.lookup y = some .local := by rfl) (hz : X.env.scope.names.lookup z = some .local := by rfl)
    (hw : swappedStores [.Tuple [.Name x px, .Name y py, .Name z pz] kt pt] (.Tuple [a, b, c] k2 pt2) X.env = pure (some [x, y, z]) := by rfl)
    (hs : swapsWithSole [.Tuple [.Name x px, .Name y py, .Name z pz] kt pt] (.Tuple [a, b, c] k2 pt2) pos.line X.env = pure false := by rfl) :
    PS X (.Assign [.Tuple [.Name x px, .Name y py, .Name z pz] kt pt] (.Tuple [a, b, c] k2 pt2) pos) (rdS C W (sPar [i, j, l] fl)) :=
  (ps_par3 hc nd hi hj hl hij hil hjl hx hy hz ha hw hs).imp fun D σ H ⟨ρ, δ, E, p⟩ => ⟨ρ, δ, E, (p.seqE E).mono fun ds δ1 H1 x1 E1 q vs r => by
    by_cases hl : ds.length = 3
    · have hl' : ds.length = [i, j, l].length := hl
      rw [if_pos hl'] at q
      obtain ⟨h1, h2⟩ := E1.setAll r hl'
      have hv : vs.length = 3 := by rw [← r.length]; exact hl
      match vs, hv with
      | [u, v, w], _ => exact ⟨u, v, w, rfl, q.1 _ H1 h1 h2⟩
    · have q := q.1
      rw [if_neg (show ¬ ds.length = [i, j, l].length from hl)] at q
      exact q.elim⟩
/-! ### targets -/
/-- but at is nothing changes -/
def Chg (is : List Nat) (σ σ' : L2.St) : Prop := σ'.length = σ.length ∧ ∀ j, j ∉ is → σ'[j]? = σ[j]?
theorem Chg.foldl : ∀ {is : List Nat} {vs : List V} {σ : L2.St}, Chg is σ ((is.zip vs).foldl (fun σ p => σ.set p.1 (some p.2)) σ)
  | [], _, σ => ⟨rfl, fun _ _ => rfl⟩
  | _ :: _, [], σ => ⟨rfl, fun _ _ => rfl⟩
  | i :: is, v :: vs, σ => by
    obtain ⟨h1, h2⟩ := Chg.foldl (is := is) (vs := vs) (σ := σ.set i (some v))
    refine ⟨h1.trans (List.length_set ..), fun j hj => ?_⟩
    simp only [List.mem_cons, not_or] at hj
    have h3 := h2 j hj.2
    rw [List.getElem?_set_ne (Ne.symm hj.1)] at h3
    exact h3
def rdG (C : Ct) (is : List Nat) (tg : TgD) : TG := fun v σ H Q => ∃ ρ δ d, EnvOk C H σ ρ δ ∧ Rep C.K H (Av C σ ρ) d v ∧ ∃ ρ', tg d ρ = some ρ' ∧ ∀ σ', EnvOk C H σ' ρ' δ → Step C σ ρ H σ' ρ' H → Chg is σ σ' → Q σ' H
theorem _root_.L2.PG.imp {tg : Expr} {u u' : TG} (p : PG X tg u) (h : ∀ v σ H Q, u' v σ H Q → u v σ H Q) : PG X tg u' := ⟨fun pins s σ H v w Q I r q => p.run pins s σ H v w Q I r (h v σ H Q q)⟩
theorem g_name (i : Nat) {x : Str} (nd : X.N.Nodup) (hi : X.N[i]? = some x := by rfl) (hx : Loc X.env.scope x := by first | exact Or.inl rfl | exact Or.inr rfl) (hf : X.fn x = true ∨ X.env.scope.names.lookup x = some .local := by first | exact .inl rfl | exact .inr rfl | assumption) :
    PG X (.Name x pos) (rdG C [i] (tgN i)) := (pg_name nd hi hx hf).imp fun v σ H Q ⟨ρ, δ, d, E, r, ρ', e, q⟩ => by
  cases e
  exact q _ (E.set rfl r) (Step.set E rfl) (Chg.foldl (is := [i]) (vs := [v]))
/-- names in a row -/
inductive Nms (X : Cx) : List Expr → List Nat → Prop
  | nil : Nms X [] []
  | cons {x : Str} {p : Pos} {i : Nat} {ts : List Expr} {is : List Nat} (hi : X.N[i]? = some x) (hx : Loc X.env.scope x) (hf : X.fn x = true ∨ X.env.scope.names.lookup x = some .local) : Nms X ts is → Nms X (.Name x p :: ts) (i :: is)
theorem nms_nil : Nms X [] [] := .nil
theorem nms (i : Nat) {x : Str} {p : Pos} {ts : List Expr} {is : List Nat} (r : Nms X ts is) (hi : X.N[i]? = some x := by rfl) (hx : Loc X.env.scope x := by first | exact Or.inl rfl | exact Or.inr rfl) (hf : X.fn x = true ∨ X.env.scope.names.lookup x = some .local := by first | exact .inl rfl | exact .inr rfl | assumption) :
    Nms X (.Name x p :: ts) (i :: is) := .cons hi hx hf r
def gAllN : List Nat → TGs
  | [] => gNil
  | i :: is => gCons (gName i) (gAllN is)
theorem Nms.pgs (nd : X.N.Nodup) : ∀ {ts : List Expr} {is : List Nat}, Nms X ts is → PGs X ts (gAllN is)
  | _, _, .nil => pgs_nil
  | _, _, .cons hi hx hf r => pgs_cons (pg_name nd hi hx hf) (Nms.pgs nd r)
theorem Nms.len : ∀ {ts : List Expr} {is : List Nat}, Nms X ts is → (assignEach ts X.env).length = is.length ∧ (assignEach ts X.env).findIdx? (·.1) = none
  | _, _, .nil => ⟨rfl, rfl⟩
  | _, _, .cons (x := x) (p := p) (ts := ts) hi hx hf r => by
    obtain ⟨h1, h2⟩ := Nms.len r
    have e : assignEach (.Name x p :: ts) X.env = (false, assign (.Name x p) X.env) :: assignEach ts X.env := rfl
    rw [e]
    refine ⟨by rw [List.length_cons, List.length_cons, h1], ?_⟩
    rw [List.findIdx?_cons, h2]
    rfl
theorem gAll_run : ∀ {is : List Nat} {vs : List V} {σ : L2.St} {Q : L2.St → Hp → Prop}, vs.length = is.length → Q ((is.zip vs).foldl (fun σ p => σ.set p.1 (some p.2)) σ) H → gAllN is vs σ H Q
  | [], [], _, _, _, q => ⟨rfl, q⟩
  | i :: is, v :: vs, σ, Q, hl, q => ⟨v, vs, rfl, gAll_run (by simpa using hl) q⟩
  | [], _ :: _, _, _, hl, _ => by simp at hl
  | _ :: _, [], _, _, hl, _ => by simp at hl
theorem g_tup {ts : List Expr} {is : List Nat} {k : Nat} (nd : X.N.Nodup) (hc : X.calm = true) (n : Nms X ts is) (hK : X.K = C.K) : PG X (.Tuple ts k pos) (rdG C is (tgT is)) :=
  (pg_tup hc (n.pgs nd) n.len.1 n.len.2).imp fun v σ H Q ⟨ρ, δ, d, E, r, ρ', e, q⟩ => by
    rw [hK]
    cases r with
    | tup h1 r1 =>
      obtain ⟨hl, rfl⟩ := ite_some e
      obtain ⟨a1, a2⟩ := E.setAll r1 hl
      have hv := r1.length
      exact ⟨_, _, rfl, h1, by omega, gAll_run (by omega) (q _ a1 a2 Chg.foldl)⟩
    | _ => cases e
theorem s_unp {ts : List Expr} {is : List Nat} {k : Nat} {tp : Pos} (nd : X.N.Nodup) (hc : X.calm = true) (n : Nms X ts is) (hK : X.K = C.K) (he : PE X e (rdE C W f)) (hs : swapsWithSole [.Tuple ts k tp] e pos.line X.env = pure false := by rfl) (hw : swappedStores [.Tuple ts k tp] e X.env = pure none := by rfl) :
    PS X (.Assign [.Tuple ts k tp] e pos) (rdS C W (sUnp is f)) := (ps_asg he (g_tup nd hc n hK) hs hw).imp fun D σ H ⟨ρ, δ, E, p⟩ => ⟨ρ, δ, E, (p.seqE E).mono fun d δ1 H1 x1 E1 q v r => by
    have q := q.1
    cases d with
    | tuple ds =>
      have q : PostS C W D σ ρ H1 (if ds.length = is.length then some (Fl.nx (setAll is ds ρ), δ1) else none) := q
      by_cases hl : ds.length = is.length
      · rw [if_pos hl] at q
        exact ⟨ρ, δ1, .tuple ds, E1, r, _, if_pos hl, fun σ' E' s _ => q σ' H1 E' s⟩
      · rw [if_neg hl] at q
        exact q.elim
    | _ => exact q.elim⟩
/-- a, b = e1, e2 by a tuple (a name that is captured is among them) -/
theorem s_parT {ts : List Expr} {is : List Nat} {k k2 : Nat} {tp tp2 : Pos} (nd : X.N.Nodup) (hc : X.calm = true) (n : Nms X ts is) (hK : X.K = C.K) (ha : PA X es (rdA C W fl)) (h4 : is.length ≤ 10000 := by decide)
    (hs : swapsWithSole [.Tuple ts k tp] (.Tuple es k2 tp2) pos.line X.env = pure false := by rfl) (hw : swappedStores [.Tuple ts k tp] (.Tuple es k2 tp2) X.env = pure none := by rfl) :
    PS X (.Assign [.Tuple ts k tp] (.Tuple es k2 tp2) pos) (rdS C W (sPar is fl)) := (ps_asg (pd_tup ha) (g_tup nd hc n hK) hs hw).imp fun D σ H ⟨ρ, δ, E, p⟩ => ⟨ρ, δ, E, by
    unfold dTup
    unfold sPar at p
    cases e : fl ρ δ with
    | none => rw [e] at p; exact p.elim
    | some r =>
      obtain ⟨r, δ'⟩ := r
      rw [e] at p
      cases r with
      | error x => exact fun H1 x1 E1 => p σ H1 E1.ext (fun a h => (E1.dc a h).1) E1.tb
      | ok ds =>
        have p : PostS C W D σ ρ H (if ds.length = is.length then some (Fl.nx (setAll is ds ρ), δ') else none) := p
        show Post C W σ ρ _ H (if ds.length ≤ 10000 then some (.ok (PyData.tuple ds), δ') else none)
        by_cases hl : ds.length = is.length
        · rw [if_pos hl] at p
          rw [if_pos (by rw [hl]; exact h4)]
          exact fun H1 x1 E1 v r => ⟨ρ, δ', .tuple ds, E1, r, _, if_pos hl, fun σ' E' s _ => p σ' H1 E' ((Step.of_ext E x1 E1).trans s)⟩
        · rw [if_neg hl] at p
          exact p.elim⟩
/-- x.append(e) -/
theorem s_app (i : Nat) {x : Str} {p1 p2 p3 : Pos} (he : PE X e (rdE C W f)) (hK : X.K = C.K) (hN : X.N[i]? = some x := by rfl) (hv : Vis X.env.scope x := by first | exact Or.inl rfl | exact Or.inr (Or.inl rfl) | exact Or.inr (Or.inr rfl))
    (hd : (x == ("__debug__" : Str)) = false := by decide) (hcd : (x == ("__classdict__" : Str)) = false := by decide)
    (hs : swapsWith (.Call (.Attribute (.Name x p1) "append" p2) [e] [] p3) none pos.line X.env = pure false := by rfl) (hst : starEach [e] X.env = (false, eval e X.env) :: starEach [] X.env := by rfl)
    (hb : attributeBase (.Name x p1) "append" X.env (eval (.Name x p1) X.env) = eval (.Name x p1) X.env := by rfl)
    (hfew : ((backTo p3 (starEach [e] X.env)).all (fun x => !x.1) && (backToKw p3 (keywordEach [] X.env)).all (fun x => x.1.isSome)
      && decide ([e].length + ([] : List Keyword).length + (if ([] : List Keyword).isEmpty then 0 else 1) < 30)) = true := by rfl) (hl : (p2.endLine == p3.line) = true := by rfl) :
    PS X (.Expr (.Call (.Attribute (.Name x p1) "append" p2) [e] [] p3) pos) (rdS C W (sApp i f)) := by
  refine (ps_expr (pe_bm PySem.F.plainAttrs_list PySem.F.slot_list_append PySem.F.type_list_append mt_append (pe_var hN hv hd hcd) (pa_cons he pa_nil hst) hb hfew hl hst) hs).imp fun D σ H ⟨ρ, δ, E, p⟩ => ?_
  rw [hK]
  unfold sApp at p
  cases e : ρ[i]? with
  | none => rw [e] at p; exact p.elim
  | some s =>
    rw [e] at p
    cases s with
    | own ds =>
      have p : PostS C W D σ ρ H (bndS (f ρ δ) fun d δ => if ds.length < 100000 then some (.nx (ρ.set i (.own (ds ++ [d]))), δ) else none) := p
      obtain ⟨ov, eσ, k⟩ := E.slot i _ e
      cases ov with
      | none => exact k.elim
      | some v =>
        obtain ⟨q, vs, rfl, h1, h2, h3⟩ := k
        refine ⟨_, eσ, .inl ⟨rfl, vs, .inl (.inl h1)⟩, ρ, δ, E, (p.seqE E).mono fun d δ1 H1 x1 E1 r v rv => ?_⟩
        have ho : Own σ ρ q := ⟨i, _, e, rfl, eσ⟩
        have h1' : H1 q = some (.lst vs) := x1 q _ (E.own_ndc ho) nt_lst h1
        have r := r.1
        by_cases hl : ds.length < 100000
        · rw [if_pos hl] at r
          have h3' := h3.keep (E.keep x1)
          refine ⟨q, vs, v, rfl, rfl, h1', by rw [← h3.length]; exact Nat.lt_of_lt_of_le hl (by decide), ?_⟩
          have hr : RepL C.K (upd H1 q (.lst (vs ++ [v]))) (Av C σ ρ) (ds ++ [d]) (vs ++ [v]) := by
            refine RepL.keep (h3'.append (.one rv)) fun a u pa _ ha => ?_
            rw [upd_ne]
            · exact ha
            · rintro rfl
              rcases pa with pa | pa
              · exact pa.2 ho
              · rw [h1'] at ha
                cases ha
                exact pa
          obtain ⟨E2, s2⟩ := E1.mut (t := .own (ds ++ [d])) (o' := .lst (vs ++ [v])) e rfl rfl eσ h1' (fun z => z) ⟨q, vs ++ [v], rfl, upd_same, h2, hr⟩
          exact r σ _ E2 s2
        · rw [if_neg hl] at r
          exact r.elim
    | _ => exact p.elim
/-! ### loops -/
theorem s_while {c : Expr} {body : List Stmt} (n : Nat) (hp : PassesOwn (model X.prog X.w) X.A X.env X.xe) (hc : PT X c (rdT C W t)) (hb : PSs X body (rdS C W g)) : PS X (.While c body [] pos) (rdS C W (sWhile n t g)) := by
  refine (ps_while hp hc hb).imp fun D σ H ⟨ρ, δ, E, p⟩ => ?_
  refine ⟨fun m σ' H' => ∃ ρ' δ', EnvOk C H' σ' ρ' δ' ∧ PostS C W D σ' ρ' H' (sWhile m t g ρ' δ'), ⟨n, ρ, δ, E, p⟩, ?_⟩
  rintro m σ1 H1 ⟨ρ1, δ1, E1, p1⟩
  cases m with
  | zero => exact p1.elim
  | succ m =>
    refine ⟨ρ1, δ1, E1, (PostS.seqE E1 p1).mono fun d δ2 H2 x2 E2 q => ?_⟩
    cases d with
    | bool b =>
      refine ⟨b, rfl, ?_⟩
      cases b with
      | false =>
        rw [if_neg Bool.false_ne_true]
        exact q.1 σ1 H2 E2 Step.refl
      | true =>
        rw [if_pos rfl]
        refine ⟨fun σ3 H3 => ∃ ρ' δ', EnvOk C H3 σ3 ρ' δ' ∧ PostS C W D σ3 ρ' H3 (sWhile m t g ρ' δ'), fun σ3 H3 z => ⟨m, Nat.lt_succ_self m, z⟩, ρ1, δ2, E2, ?_⟩
        have q := q.1
        revert q
        show PostS C W D σ1 ρ1 H2 (match g ρ1 δ2 with
          | some (.nx ρ', δ') => sWhile m t g ρ' δ'
          | some (.ct ρ', δ') => sWhile m t g ρ' δ'
          | some (.brk ρ', δ') => some (.nx ρ', δ')
          | r => r) → _
        cases g ρ1 δ2 with
        | none => exact fun q => q
        | some r =>
          obtain ⟨r, δ3⟩ := r
          cases r with
          | nx ρ3 => exact fun q σ3 H3 E3 s3 => ⟨ρ3, δ3, E3, q.later s3⟩
          | ct ρ3 => exact fun q σ3 H3 E3 s3 => ⟨ρ3, δ3, E3, q.later s3⟩
          | brk ρ3 => exact fun q => q
          | ret d => exact fun q => q
          | exc x => exact fun q => q
    | _ => exact q.1.elim
/-- what a loop walks: items of data -/
structure WalkD (C : Ct) (A : Addr → Prop) (J : It) (n : Nat) (items : List G8.D) (G : Hp → Prop) : Prop where
  w : ∃ Y, Walk J n G Y ∧ ∀ i H1 x H2, i < n → G H1 → Y i H1 x H2 → Same H1 H2 ∧ ∃ d, items[i]? = some d ∧ Rep C.K H2 A d x
  keep : ∀ H1 H2, Keep A H1 H2 → G H1 → G H2
  len : n = items.length
def oI (C : Ct) (σ : L2.St) (ρ : Rho) (R : It → Hp → Prop) : PR (List G8.D) := fun _ items _ H' => ∀ J n G, WalkD C (fun a => Av C σ ρ a ∧ ¬ Np H' a) J n items G → G H' → R J H'
def rdI (C : Ct) (W : Wx) (fi : DL) : TI := fun σ H R => ∃ ρ δ, EnvOk C H σ ρ δ ∧ Post C W σ ρ (oI C σ ρ R) H (fi ρ δ)
theorem _root_.L2.PI.imp {tg iter : Expr} {u u' : TI} (p : PI X tg iter u) (h : ∀ σ H R, u' σ H R → u σ H R) : PI X tg iter u' := ⟨fun pins s σ H R I q => p.run pins s σ H R I (h σ H R q)⟩
theorem s_for {tg iter : Expr} {body : List Stmt} {td : TgD} {is : List Nat} {fi : DL} (hp : PassesOwn (model X.prog X.w) X.A X.env X.xe) (hc : X.calm = true) (hi : PI X tg iter (rdI C W fi)) (hg : PG X tg (rdG C is td)) (hb : PSs X body (rdS C W g))
    (hs : ∀ x, foldedSetIterable iter X.env x = pure x := by intro _; rfl) : PS X (.For tg iter body [] pos) (rdS C W (sFor fi td g)) := by
  refine (ps_for hp hc hi hg hb hs).imp fun D σ H ⟨ρ, δ, E, p⟩ => ⟨ρ, δ, E, (p.seqE E).mono fun items δ1 H1 x1 E1 q J n G wd hG => ?_⟩
  have q := q.1
  obtain ⟨⟨Y, w, hY⟩, kp, rfl⟩ := wd
  have turn : ∀ {ρ2 : Rho} {δ2 : Dl} {i : Nat} {d : G8.D} {ρ3 : Rho}, items[i]? = some d → td d ρ2 = some ρ3 → forD td g (items.drop i) ρ2 δ2 = (match g ρ3 δ2 with
      | some (.nx ρ4, δ4) => forD td g (items.drop (i + 1)) ρ4 δ4
      | some (.ct ρ4, δ4) => forD td g (items.drop (i + 1)) ρ4 δ4
      | some (.brk ρ4, δ4) => some (.nx ρ4, δ4)
      | r => r) := fun {ρ2 δ2 i d ρ3} hd ht => by
    obtain ⟨hl, he⟩ := List.getElem?_eq_some_iff.mp hd
    rw [List.drop_eq_getElem_cons hl, he]
    show (match td d ρ2 with
      | none => none
      | some ρ1 => _) = _
    rw [ht]
  have miss : ∀ {ρ2 : Rho} {δ2 : Dl} {i : Nat} {d : G8.D}, items[i]? = some d → td d ρ2 = none → forD td g (items.drop i) ρ2 δ2 = none := fun {ρ2 δ2 i d} hd ht => by
    obtain ⟨hl, he⟩ := List.getElem?_eq_some_iff.mp hd
    rw [List.drop_eq_getElem_cons hl, he]
    show (match td d ρ2 with
      | none => none
      | some ρ1 => _) = _
    rw [ht]
  refine for_it w (fun i σ' H' => ∃ ρ' δ', EnvOk C H' σ' ρ' δ' ∧ Step C σ ρ H1 σ' ρ' H' ∧ PostS C W D σ' ρ' H' (forD td g (items.drop i) ρ' δ')) ⟨ρ, δ1, E1, Step.refl, q⟩
    (fun i σ' H' hi z => ?_) (fun i x σ' H' H'' hi z y => ?_) (fun σ' H' z => ?_)
  · obtain ⟨ρ', δ', E', s', _⟩ := z
    exact kp _ _ (s'.keep.sub fun a b => b.1) hG
  · obtain ⟨ρ', δ', E', s', q'⟩ := z
    have hG' : G H' := kp _ _ (s'.keep.sub fun a b => b.1) hG
    obtain ⟨sm, d, hd, r⟩ := hY i H' x H'' hi hG' y
    have E'' : EnvOk C H'' σ' ρ' δ' := E'.grow0 sm
    have s'' : Step C σ' ρ' H' σ' ρ' H'' := Step.of_ext E' (same_ext sm) E''
    have av : ∀ a, (Av C σ ρ a ∧ ¬ Np H1 a) → Av C σ' ρ' a := fun a z => ⟨z.1.1, fun o => (s'.own a o).elim z.1.2 z.2⟩
    cases ht : td d ρ' with
    | none =>
      rw [miss hd ht] at q'
      exact q'.elim
    | some ρ3 =>
      rw [turn hd ht] at q'
      refine ⟨ρ', δ', d, E'', r.widen av, ρ3, ht, fun σ3 E3 s3 _ => ⟨ρ3, δ', E3, ?_⟩⟩
      have s13 : Step C σ ρ H1 σ3 ρ3 H'' := s'.trans (s''.trans s3)
      have q3 := q'.later (s''.trans s3)
      revert q3
      cases g ρ3 δ' with
      | none => exact fun q => q
      | some r =>
        obtain ⟨r, δ4⟩ := r
        cases r with
        | nx ρ4 => exact fun q σ4 H4 E4 s4 => ⟨ρ4, δ4, E4, s13.trans s4, q.later s4⟩
        | ct ρ4 => exact fun q σ4 H4 E4 s4 => ⟨ρ4, δ4, E4, s13.trans s4, q.later s4⟩
        | brk ρ4 => exact fun q => q
        | ret d => exact fun q => q
        | exc x => exact fun q => q
  · obtain ⟨ρ', δ', E', s', q'⟩ := z
    rw [List.drop_length] at q'
    exact q' σ' H' E' Step.refl
end
end G8

set_option Elab.async false
set_option linter.all false
set_option maxRecDepth 100000
set_option maxHeartbeats 1000000
namespace G8
open PySem PySem.Spec PyProof.Rows L2
/-! ### zip of two things, each a list or a tuple -/
def SqK (κ : Bool) (K : Fg) (H : Hp) (a : Addr) (xs : List V) : Prop := match κ with
  | true => SqL K H a xs
  | false => SqT K H a xs
def itAt (κ : Bool) (h : Heap) (it a : Addr) (i : Nat) : Prop := match κ with
  | true => h.IsListIter it a i
  | false => h.IsTupleIter it a i
def isSq (κ : Bool) (h : Heap) (a : Addr) (its : Array Value) : Prop := match κ with
  | true => h.IsList a its
  | false => h.IsTuple a its
def itO (κ : Bool) (a : Addr) : Obj := match κ with
  | true => { cls := .type "list_iterator", data := .fields #[.ref a, .int 0 0] }
  | false => { cls := .type "tuple_iterator", data := .fields #[.ref a, .int 0 0] }
theorem begins_k (κ : Bool) (a : Addr) (its : Array Value) : Begins (.ref a) (itO κ a) fun h => isSq κ h a its := by
  cases κ
  · exact begins_tuple a its
  · exact begins_list a its
theorem draws_k {prog : Program} {w : World} {A : Around} (κ : Bool) (hh : A.handled = none) (it l : Addr) (hne : l ≠ it) (its : Array Value) : Draws prog w A it [it, l] its.size (fun i v => its[i]? = some v) (fun i h => itAt κ h it l i ∧ isSq κ h l its) := by
  cases κ
  · exact Draws.tuple hh it l hne its
  · exact Draws.list hh it l hne its
theorem inv_sq {X : Cx} {pins : List (Addr × Obj)} {σ : L2.St} {H : Hp} {s : Shared} {a : Addr} {xs : List V} (κ : Bool) (I : L2.Inv X pins σ H s) (h : SqK κ X.K H a xs) : ∃ its : List Value, Vals xs its ∧ isSq κ s.heap a its.toArray ∧ ∃ o, s.heap.get? a = some o := by
  cases κ
  · obtain ⟨its, rv, p, _⟩ := I.tuple h
    obtain ⟨o, ho, _⟩ := id p
    exact ⟨its, rv, p, o, ho⟩
  · obtain ⟨its, rv, p, _⟩ := I.list h
    obtain ⟨o, n, ho, _⟩ := id p
    exact ⟨its, rv, p.isList, o, ho⟩
theorem sq_inj {X : Cx} {pins : List (Addr × Obj)} {σ : L2.St} {H : Hp} {s : Shared} {a : Addr} {xs ys : List V} (κ : Bool) (I : L2.Inv X pins σ H s) (h : SqK κ X.K H a xs) (h' : SqK κ X.K H a ys) : xs = ys := by
  cases κ
  · exact I.tuple_inj h h'
  · exact I.list_inj h h'
theorem itAt_fields {κ : Bool} {h : Heap} {it a : Addr} {i : Nat} (x : itAt κ h it a i) : ∃ o, h.get? it = some o ∧ ∀ v, o.data ≠ .cell v := by
  cases κ
  · obtain ⟨o, e, _, d⟩ := x
    exact ⟨o, e, fun v q => by rw [d] at q; cases q⟩
  · obtain ⟨o, e, _, d⟩ := x
    exact ⟨o, e, fun v q => by rw [d] at q; cases q⟩
theorem itAt_keep {κ : Bool} {h h' : Heap} {it a : Addr} {i : Nat} (x : itAt κ h it a i) (k : ∀ o, h.get? it = some o → h'.get? it = some o) : itAt κ h' it a i := by
  cases κ
  · exact Heap.IsTupleIter.at x k
  · exact Heap.IsListIter.at x k
def ItzM (κ1 κ2 : Bool) (K : Fg) (a b : Addr) : It :=
  ⟨fun i H => ∃ (xs ys : List V) (x y : V), SqK κ1 K H a xs ∧ SqK κ2 K H b ys ∧ xs[i]? = some x ∧ ys[i]? = some y,
    fun i H v H' => ∃ T x y, v = .ref T ∧ H T = none ∧ H' = upd H T (.tup [x, y]) ∧ (∀ xs, SqK κ1 K H a xs → xs[i]? = some x) ∧ ∀ ys, SqK κ2 K H b ys → ys[i]? = some y,
    fun i H => ∃ xs ys : List V, SqK κ1 K H a xs ∧ SqK κ2 K H b ys ∧ i = min xs.length ys.length⟩
theorem turn_zipM {P : Program} {w : World} {K : Fg} {elts : List Expr} {kk : Nat} {tpos : Pos} {κ1 κ2 : Bool} {a b z TI TO i1 i2 : Addr} (S : ZipSep2 z TI TO i1 i2 [i1, a] [i2, b]) (ha : a ≠ i1) (hb : b ≠ i2) :
    Turn P w K (.Tuple elts kk tpos) (ItzM κ1 κ2 K a b) [z, TI, TO, i1, i2] z (fun i h => IsZip h z TI TO .none ∧ IsTupOf2 h TI (.ref i1) (.ref i2) ∧ (∃ x y, IsTupOf2 h TO x y) ∧ itAt κ1 h i1 a i ∧ itAt κ2 h i2 b i) where
  mem := by simp
  obj := fun i h st c hc => by
    obtain ⟨hz, hTI, ⟨x, y, hTO⟩, h1, h2⟩ := st
    have e' : c = z ∨ c = TI ∨ c = TO ∨ c = i1 ∨ c = i2 := by simpa using hc
    rcases e' with q | q | q | q | q
    · rw [q]; exact ⟨_, hz, fun v q => nomatch q⟩
    · rw [q]; exact ⟨_, hTI, fun v q => nomatch q⟩
    · rw [q]; exact ⟨_, hTO, fun v q => nomatch q⟩
    · rw [q]; exact itAt_fields h1
    · rw [q]; exact itAt_fields h2
  keep := fun i h h' st k => by
    obtain ⟨hz, hTI, ⟨x, y, hTO⟩, h1, h2⟩ := st
    exact ⟨k z (by simp) _ hz, k TI (by simp) _ hTI, ⟨x, y, k TO (by simp) _ hTO⟩, itAt_keep h1 fun o q => k i1 (by simp) o q, itAt_keep h2 fun o q => k i2 (by simp) o q⟩
  item := by
    intro X hP hw hK hc i pins s σ H E I hf st hg
    subst hP hw hK
    obtain ⟨hz, hTI, hTO, h1, h2⟩ := st
    obtain ⟨xs, ys, x, y, hqx, hqy, hx, hy⟩ := hg
    obtain ⟨its, rv, p, _⟩ := inv_sq κ1 I hqx
    obtain ⟨its2, rv2, p2, _⟩ := inv_sq κ2 I hqy
    obtain ⟨u, hu, ru⟩ := rv.get hx
    obtain ⟨u2, hu2, ru2⟩ := rv2.get hy
    have l1 : i < its.length := (List.getElem?_eq_some_iff.mp hu).1
    have l2 : i < its2.length := (List.getElem?_eq_some_iff.mp hu2).1
    have hh : X.A.in1.handled = none := I.ok.hd hc
    have G := GoesN.zip2 (prog := X.prog) (w := X.w) (A := X.A) (elts := elts) (x1 := kk) (pos := tpos) S (draws_k κ1 hh i1 a ha its.toArray) (draws_k κ2 hh i2 b hb its2.toArray)
    refine G.goes i s (fun v s2 => ∃ x H', L2.Inv X pins σ H' s2 ∧ RelV x v ∧ (ItzM κ1 κ2 X.K a b).yld i H x H' ∧ _ ∧ ∀ b ∈ [z, TI, TO, i1, i2], H' b = none) E (by simp; omega) ⟨hz, hTI, hTO, ⟨h1, p⟩, ⟨h2, p2⟩⟩ fun v h' tk hY st' hk htk => ?_
    obtain ⟨T, x', y', rfl, hT, hx', hy', htup⟩ := hY
    have ex : x' = u := by
      have : its[i]? = some x' := by simpa using hx'
      rw [hu] at this; exact (Option.some.inj this).symm
    have ey : y' = u2 := by
      have : its2[i]? = some y' := by simpa using hy'
      rw [hu2] at this; exact (Option.some.inj this).symm
    subst ex ey
    have new : ObjOk X.prog X.w (upd H T (.tup [x, y])) h' T (.tup [x, y]) := ⟨by show 2 ≤ sizeLine; decide, [x', y'], .cons ru (.cons ru2 .nil), htup⟩
    have hsub : ∀ c, c ∈ [z, TO, i1, i2] → c ∈ [z, TI, TO, i1, i2] := fun c hc => by
      simp only [List.mem_cons, List.not_mem_nil, or_false] at hc ⊢
      rcases hc with h | h | h | h
      · exact .inl h
      · exact .inr (.inr (.inl h))
      · exact .inr (.inr (.inr (.inl h)))
      · exact .inr (.inr (.inr (.inr h)))
    have I1 : L2.Inv X pins σ (upd H T (.tup [x, y])) { s with heap := h', toks := tk } :=
      I.turnedNew (t' := tk) (ch := [z, TI, TO, i1, i2]) (fun c o hb q => hk c o (fun q' => hb (hsub c q')) q) hf hT new
    obtain ⟨z1, z2, z3, ⟨z4, _⟩, ⟨z5, _⟩⟩ := st'
    refine ⟨.ref T, _, I1, rfl, ⟨_, x, y, rfl, I.hok.fresh hT, rfl, fun l hl => by rw [sq_inj κ1 I hl hqx]; exact hx, fun l hl => by rw [sq_inj κ2 I hl hqy]; exact hy⟩, ⟨z1, z2, z3, z4, z5⟩, fun c hcm => ?_⟩
    have hlt : c < s.heap.objs.size := by
      have e' : c = z ∨ c = TI ∨ c = TO ∨ c = i1 ∨ c = i2 := by simpa using hcm
      rcases e' with q | q | q | q | q
      · rw [q]; exact Heap.lt_size hz
      · rw [q]; exact Heap.lt_size hTI
      · obtain ⟨_, _, hTO⟩ := hTO
        rw [q]; exact Heap.lt_size hTO
      · obtain ⟨_, e1, _⟩ := itAt_fields h1
        rw [q]; exact Heap.lt_size e1
      · obtain ⟨_, e1, _⟩ := itAt_fields h2
        rw [q]; exact Heap.lt_size e1
    rw [upd_ne (Nat.ne_of_lt (Nat.lt_of_lt_of_le hlt hT))]
    exact (hf c hcm).1
  done := by
    intro X hP hw hK hc i pins s σ H E I hf st hg
    subst hP hw hK
    obtain ⟨hz, hTI, hTO, h1, h2⟩ := st
    obtain ⟨xs, ys, hqx, hqy, hend⟩ := hg
    obtain ⟨its, rv, p, _⟩ := inv_sq κ1 I hqx
    obtain ⟨its2, rv2, p2, _⟩ := inv_sq κ2 I hqy
    have hh : X.A.in1.handled = none := I.ok.hd hc
    have G := GoesN.zip2 (prog := X.prog) (w := X.w) (A := X.A) (elts := elts) (x1 := kk) (pos := tpos) S (draws_k κ1 hh i1 a ha its.toArray) (draws_k κ2 hh i2 b hb its2.toArray)
    have hn : min its.toArray.size its2.toArray.size = i := by
      rw [List.size_toArray, List.size_toArray, ← rv.length, ← rv2.length, hend]
    rw [hn] at G
    have hsub : ∀ c, c ∈ [z, TO, i1, i2] → c ∈ [z, TI, TO, i1, i2] := fun c hc => by
      simp only [List.mem_cons, List.not_mem_nil, or_false] at hc ⊢
      rcases hc with h | h | h | h
      · exact .inl h
      · exact .inr (.inr (.inl h))
      · exact .inr (.inr (.inr (.inl h)))
      · exact .inr (.inr (.inr (.inr h)))
    exact G.stops s (fun s1 => L2.Inv X pins σ H s1) E ⟨hz, hTI, hTO, ⟨h1, p⟩, ⟨h2, p2⟩⟩ fun h' tk hk _ => I.turnedL (t' := tk) (ch := [z, TI, TO, i1, i2]) (fun c o hb q => hk c o (fun q' => hb (hsub c q')) q) hf
  self := fun A i s Q E st h => wpAny_pyIter_zip st.1 h
def iZipM (K : Fg) (ta : TA) : TI := fun σ H R => ta σ H fun vs H1 => ∃ κ1 κ2 a b xs ys, vs = [.ref a, .ref b] ∧ SqK κ1 K H1 a xs ∧ SqK κ2 K H1 b ys ∧ R (ItzM κ1 κ2 K a b) H1
theorem pi_zipM {X : Cx} {e e2 : Expr} {ta : TA} {p pos tpos : Pos} {elts : List Expr} {kk : Nat} (hm : X.mg "zip" = none) (ha : PA X [e, e2] ta) (hg : Gl X "zip" := by rfl)
    (hs : starEach [e, e2] X.env = (false, eval e X.env) :: starEach [e2] X.env := by rfl) (hpl : (backTo pos (starEach [e2] X.env)).any (·.1) = false := by rfl) :
    PI X (.Tuple elts kk tpos) (.Call (.Name "zip" p) [e, e2] [] pos) (iZipM X.K ta) := by
  refine ⟨fun pins s σ H R I h => ?_⟩
  refine Call_ (ld_blt I hg hm PyProof.Rows.boot_zip (PyProof.Rows.callWith_type1 (thn (ha.run pos pins s σ H _ I h) fun us s1 ⟨vs, H1, I1, r1, q1⟩ => ?_) hs hpl))
  obtain ⟨κ1, κ2, a, b, xs, ys, ex, hqx, hqy, q⟩ := q1
  subst ex
  cases r1 with
  | cons r rr =>
    cases rr with
    | cons r' rr =>
      cases rr
      cases r
      cases r'
      obtain ⟨its, rv, p1, oa, hoa⟩ := inv_sq κ1 I1 hqx
      obtain ⟨its2, rv2, p2, ob, hob⟩ := inv_sq κ2 I1 hqy
      have la := Heap.lt_size hoa
      have lb := Heap.lt_size hob
      have fresh5 : ∀ c, c ∈ [s1.heap.objs.size + 4, s1.heap.objs.size + 2, s1.heap.objs.size + 3, s1.heap.objs.size, s1.heap.objs.size + 1] → FpOk X pins H1 c := fun c hcm => by
        have e' : c = s1.heap.objs.size + 4 ∨ c = s1.heap.objs.size + 2 ∨ c = s1.heap.objs.size + 3 ∨ c = s1.heap.objs.size ∨ c = s1.heap.objs.size + 1 := by simpa using hcm
        have hle : s1.heap.objs.size ≤ c := by
          rcases e' with z | z | z | z | z
          · rw [z]; exact Nat.le_add_right _ _
          · rw [z]; exact Nat.le_add_right _ _
          · rw [z]; exact Nat.le_add_right _ _
          · rw [z]; exact Nat.le_refl _
          · rw [z]; exact Nat.le_add_right _ _
        exact I1.fpOk hle (I1.hok.fresh hle)
      refine zip_begins2 (begins_k κ1 a its.toArray) (begins_k κ2 b its2.toArray) p1 p2 fun h' hz hTI hTO h1 h2 hsz hk => wpAny_pyIter_zip hz ?_
      have I2 : L2.Inv X pins σ H1 { s1 with heap := h' } := I1.kept (t' := s1.toks) hk
      have sep := zip_sep2 (N := s1.heap.objs.size) (fp1 := [a]) (fp2 := [b]) (fun c hc => by simp at hc; rw [hc]; exact la) (fun c hc => by simp at hc; rw [hc]; exact lb)
      have lb' : b ≠ s1.heap.objs.size + 1 := Nat.ne_of_lt (Nat.lt_succ_of_lt lb)
      refine ⟨s1.heap.objs.size + 4, [s1.heap.objs.size + 4, s1.heap.objs.size + 2, s1.heap.objs.size + 3, s1.heap.objs.size, s1.heap.objs.size + 1], _, _, H1, rfl, I2, turn_zipM (κ1 := κ1) (κ2 := κ2) sep (Nat.ne_of_lt la) lb', ⟨hz, hTI, ⟨_, _, hTO⟩, ?_, ?_⟩, fresh5, q⟩
      · cases κ1
        · exact ⟨_, h1, rfl, rfl⟩
        · exact ⟨_, h1, rfl, rfl⟩
      · cases κ2
        · exact ⟨_, h2, rfl, rfl⟩
        · exact ⟨_, h2, rfl, rfl⟩
/-- a list or a tuple, walked -/
def iSeq (K : Fg) (tl : TE) : TI := fun σ H R => tl σ H fun x H1 => ∃ a, x = .ref a ∧ (((∃ xs, SqL K H1 a xs) ∧ R (Itl K a) H1) ∨ ((∃ xs, SqT K H1 a xs) ∧ R (Itt K a) H1))
theorem pi_seq {X : Cx} {tg l : Expr} {tl : TE} (hl : PE X l tl) : PI X tg l (iSeq X.K tl) := by
  refine ⟨fun pins s σ H R I h => ?_⟩
  refine thn (hl.run pins s σ H _ I h) fun v s1 ⟨x, H1, I1, r1, q1⟩ => ?_
  obtain ⟨a, e, q⟩ := q1
  subst e
  cases r1
  have hfp : ∀ b ∈ [s1.heap.objs.size], FpOk X pins H1 b := fun b hb => by
    have e : b = s1.heap.objs.size := by simpa using hb
    subst e
    exact I1.fpOk (Nat.le_refl _) (I1.hok.fresh (Nat.le_refl _))
  rcases q with ⟨⟨xs, hq⟩, q⟩ | ⟨⟨xs, hq⟩, q⟩
  · obtain ⟨its, rv, p, hz⟩ := I1.list hq
    refine wpAny_pyIter_list p.isList ?_
    exact ⟨s1.heap.objs.size, [s1.heap.objs.size], _, _, H1, rfl, I1.kept (t' := s1.toks) fun b o e => Heap.get?_push_of_some _ e, turn_list a _, ⟨_, Heap.get?_push_size _ rfl, rfl, rfl⟩, hfp, q⟩
  · obtain ⟨its, rv, p, hz⟩ := I1.tuple hq
    refine wpAny_pyIter_tuple (show s1.heap.IsTuple a its.toArray from p) ?_
    exact ⟨s1.heap.objs.size, [s1.heap.objs.size], _, _, H1, rfl, I1.kept (t' := s1.toks) fun b o e => Heap.get?_push_of_some _ e, turn_tuple a _, ⟨_, Heap.get?_push_size _ rfl, rfl, rfl⟩, hfp, q⟩
end G8

set_option Elab.async false
set_option linter.all false
set_option maxRecDepth 100000
set_option maxHeartbeats 1000000
namespace G8
open PySem PySem.Spec PyProof.Rows L2
section
variable {K : Fg} {H H' : Hp} {S S' : Addr → Prop}
theorem rd_there {a : Addr} {u : HO} (h : Rd H a u) (n : nt u) : ¬ Np H a := fun z => by
  rcases h with h | ⟨o, h⟩
  · exact z _ h n
  · exact z _ h nt_frz
mutual
theorem Rep.dom : ∀ {d : D} {v : V}, Rep K H S d v → Rep K H (fun a => S a ∧ ¬ Np H a) d v
  | _, _, .non => .non
  | _, _, .bl b => .bl b
  | _, _, .int b => .int b
  | _, _, .str b => .str b
  | _, _, .tup h r => .tup h (RepL.dom r)
  | _, _, .lst a h r => .lst ⟨a, fun z => z _ h nt_lst⟩ h (RepL.dom r)
  | _, _, .dct a h r => .dct ⟨a, fun z => z _ h nt_frz⟩ h (RepD.dom r)
theorem RepL.dom : ∀ {d : List D} {v : List V}, RepL K H S d v → RepL K H (fun a => S a ∧ ¬ Np H a) d v
  | _, _, .nil => .nil
  | _, _, .cons h r => .cons (Rep.dom h) (RepL.dom r)
theorem RepD.dom : ∀ {d : List (D × D)} {v : List (Key × V)}, RepD K H S d v → RepD K H (fun a => S a ∧ ¬ Np H a) d v
  | _, _, .nil => .nil
  | _, _, .cons h r => .cons (Rep.dom h) (RepD.dom r)
end
end
/-! ### what is walked -/
@[simp] def gSeq : D → Option (List D)
  | .list ds => some ds
  | .tuple ds => some ds
  | _ => none
@[simp] def fSeq (f : DE) : DL := fun ρ δ => bnd (f ρ δ) fun d δ => lft (gSeq d) δ
def rng (lo hi : Int) : List D := (List.range (hi - lo).toNat).map fun i => .int (lo + (i : Nat))
theorem big62 : (4000000000000000000 : Int) < 2 ^ 62 := by decide +kernel
theorem lo62 {i : Int} (h : -4000000000000000000 ≤ i) : -(2 ^ 62) ≤ i := Int.le_trans (Int.le_of_lt (Int.neg_lt_neg big62)) h
theorem hi62 {i : Int} (h : i ≤ 4000000000000000000) : i < 2 ^ 62 := Int.lt_of_le_of_lt h big62
noncomputable def okR (i : Int) : Bool := cdec (-4000000000000000000 ≤ i ∧ i ≤ 4000000000000000000)
@[simp] noncomputable def gRng1 : D → Option (List D)
  | .int j => if okR j = true then some (rng 0 j) else none
  | _ => none
@[simp] noncomputable def gRng2 : D → D → Option (List D)
  | .int i, .int j => if okR i = true ∧ okR j = true then some (rng i j) else none
  | _, _ => none
def zipD (xs ys : List D) : List D := (xs.zip ys).map fun p => .tuple [p.1, p.2]
@[simp] def gZip (x y : D) : Option (List D) := match gSeq x, gSeq y with
    | some xs, some ys => some (zipD xs ys)
    | _, _ => none
def enumD (xs : List D) : List D := xs.zipIdx.map fun p => .tuple [.int (p.2 : Nat), p.1]
@[simp] def gEnum : D → Option (List D)
  | .list xs => some (enumD xs)
  | _ => none
@[simp] def f1 (g : D → Option (List D)) (f : DE) : DL := fun ρ δ => bnd (f ρ δ) fun a δ => lft (g a) δ
/-- a range with a step -/
def rngC (lo c : Int) (n : Nat) : List D := (List.range n).map fun i => .int (lo + (i : Nat) * c)
def stepsN (i j c : Int) : Nat := if 0 < c then ((j - i + c - 1) / c).toNat else ((i - j - c - 1) / (-c)).toNat
section
variable {X : Cx} {C : Ct} {W : Wx} {e a b tg : Expr} {es : List Expr} {f g h : DE} {pos p : Pos} {σ : L2.St} {ρ : Rho} {δ : Dl} {H H1 : Hp} {K : Fg}
theorem anti_I {R : It → Hp → Prop} : Anti C (oI C σ ρ R) := fun _ _ _ _ _ _ h => h
theorem walkD_list {A : Addr → Prop} {a : Addr} {xs : List V} {ds : List D} (hA : A a) (r : RepL C.K H A ds xs) : WalkD C A (Itl C.K a) xs.length ds (fun H => H a = some (.lst xs) ∧ RepL C.K H A ds xs) where
  w := ⟨YAt xs, walk_list.mono (fun H h => .inl (.inl h.1)) (fun i H x H' _ _ y => y), fun i H1 x H2 hi hG y => by
    obtain ⟨rfl, hx⟩ := y
    obtain ⟨d, h1, h2⟩ := hG.2.getV hx
    exact ⟨Same.refl _, d, h1, h2⟩⟩
  keep := fun H1 H2 k h => ⟨k _ _ (.inl hA) nt_lst h.1, h.2.keep k⟩
  len := r.length.symm
theorem walkD_tup {A : Addr → Prop} {a : Addr} {xs : List V} {ds : List D} (r : RepL C.K H A ds xs) : WalkD C A (Itt C.K a) xs.length ds (fun H => SqT C.K H a xs ∧ RepL C.K H A ds xs) where
  w := ⟨YAt xs, walk_tup.mono (fun H h => h.1) (fun i H x H' _ _ y => y), fun i H1 x H2 hi hG y => by
    obtain ⟨rfl, hx⟩ := y
    obtain ⟨d, h1, h2⟩ := hG.2.getV hx
    exact ⟨Same.refl _, d, h1, h2⟩⟩
  keep := fun H1 H2 k h => ⟨k.sqT h.1, h.2.keep k⟩
  len := r.length.symm
theorem rng_get {lo hi : Int} {i : Nat} (h : i < (hi - lo).toNat) : (rng lo hi)[i]? = some (.int (lo + (i : Nat))) := by
  unfold rng
  rw [List.getElem?_map, List.getElem?_range h]
  rfl
theorem walkD_rng {A : Addr → Prop} {lo hi : Int} : WalkD C A (Itr lo (hi - lo).toNat) (hi - lo).toNat (rng lo hi) (fun _ => True) where
  w := ⟨_, walk_range, fun i H1 x H2 hi hG y => by
    obtain ⟨rfl, rfl⟩ := y
    exact ⟨Same.refl _, _, rng_get hi, .int _⟩⟩
  keep := fun _ _ _ _ => trivial
  len := by unfold rng; rw [List.length_map, List.length_range]
theorem i_seq (he : PE X e (rdE C W f)) (hK : X.K = C.K) : PI X tg e (rdI C W (fSeq f)) := (pi_seq he).imp fun σ H R ⟨ρ, δ, E, p⟩ => by
  rw [hK]
  refine ⟨ρ, δ, E, (p.seq anti_I).mono fun d δ1 H1 x1 E1 q v rv => ?_⟩
  obtain ⟨ds, e, q⟩ := q.lft
  cases rv with
  | lst a1 h1 r1 =>
    cases e
    refine ⟨_, rfl, .inl ⟨⟨_, .inl (.inl h1)⟩, ?_⟩⟩
    exact q H1 Ext.refl E1 _ _ _ (walkD_list ⟨a1, fun z => z _ h1 nt_lst⟩ r1.dom) ⟨h1, r1.dom⟩
  | tup h1 r1 =>
    cases e
    refine ⟨_, rfl, .inr ⟨⟨_, h1⟩, ?_⟩⟩
    exact q H1 Ext.refl E1 _ _ _ (walkD_tup r1.dom) ⟨h1, r1.dom⟩
  | _ => cases e
theorem i_rng1 (hm : X.mg "range" = none) (ha : PE X a (rdE C W f)) (hg : Gl X "range" := by rfl) (hs : starEach [a] X.env = [(false, eval a X.env)] := by rfl) : PI X tg (.Call (.Name "range" p) [a] [] pos) (rdI C W (f1 gRng1 f)) :=
  (pi_range1 hg hm (pa_cons ha pa_nil hs) hs).imp fun σ H R ⟨ρ, δ, E, p⟩ => ⟨ρ, δ, E, (p.seq anti_I).mono fun d δ1 H1 x1 E1 q v rv => by
    obtain ⟨items, e, q⟩ := q.lft
    cases rv with
    | int j =>
      obtain ⟨hj, rfl⟩ := ite_some e
      have hj := cdec_iff.mp hj
      refine ⟨j, rfl, lo62 hj.1, hi62 hj.2, ?_⟩
      have := q H1 Ext.refl E1 _ _ _ (walkD_rng (C := C) (A := fun a => Av C σ ρ a ∧ ¬ Np H1 a) (lo := 0) (hi := j)) trivial
      rw [Int.sub_zero] at this
      exact this
    | _ => cases e⟩
theorem i_rng2 (hm : X.mg "range" = none) (ha : PE X a (rdE C W f)) (hb : PE X b (rdE C W h)) (hg : Gl X "range" := by rfl) (hs : starEach [a, b] X.env = [(false, eval a X.env), (false, eval b X.env)] := by rfl) (hs2 : starEach [b] X.env = [(false, eval b X.env)] := by rfl) :
    PI X tg (.Call (.Name "range" p) [a, b] [] pos) (rdI C W (f2 gRng2 f h)) :=
  (pi_range2 hg hm (pa_cons ha (pa_cons hb pa_nil hs2) (hs.trans (by rw [hs2]))) hs hs2).imp fun σ H R ⟨ρ, δ, E, p⟩ => ⟨ρ, δ, E, (p.seq anti_I).mono fun d δ1 H1 x1 E1 q v rv => ⟨ρ, δ1, E1, (q.seq anti_I).mono fun d2 δ2 H2 x2 E2 q2 w rw => by
    obtain ⟨items, e, q⟩ := q2.lft
    cases rv with
    | int i =>
      cases rw with
      | int j =>
        obtain ⟨hj, rfl⟩ := ite_some e
        have h1 := cdec_iff.mp hj.1
        have h2 := cdec_iff.mp hj.2
        exact ⟨i, j, rfl, ⟨lo62 h1.1, hi62 h1.2, lo62 h2.1, hi62 h2.2⟩, q H2 Ext.refl E2 _ _ _ walkD_rng trivial⟩
      | _ => cases e
    | _ => cases rw <;> cases e⟩⟩
theorem seq_of {A : Addr → Prop} {d : D} {v : V} {ds : List D} (r : Rep C.K H A d v) (h : gSeq d = some ds) : ∃ κ a xs, v = .ref a ∧ SqK κ C.K H a xs ∧ RepL C.K H A ds xs ∧ ∀ H', Keep A H H' → SqK κ C.K H' a xs := by
  cases r with
  | lst a1 h1 r1 =>
    cases h
    exact ⟨true, _, _, rfl, .inl (.inl h1), r1, fun H' k => .inl (.inl (k _ _ (.inl a1) nt_lst h1))⟩
  | tup h1 r1 =>
    cases h
    exact ⟨false, _, _, rfl, h1, r1, fun H' k => k.sqT h1⟩
  | _ => cases h
theorem walkD_zip {A : Addr → Prop} {κ1 κ2 : Bool} {a b : Addr} {xs ys : List V} {ds es : List D} (k1 : ∀ H1, Keep A H H1 → SqK κ1 C.K H1 a xs) (k2 : ∀ H1, Keep A H H1 → SqK κ2 C.K H1 b ys) (r1 : RepL C.K H A ds xs) (r2 : RepL C.K H A es ys) :
    WalkD C A (ItzM κ1 κ2 C.K a b) (min xs.length ys.length) (zipD ds es) (fun H1 => Keep A H H1) where
  w := by
    refine ⟨fun i H1 v H2 => ∃ T x y, v = .ref T ∧ H1 T = none ∧ H2 = upd H1 T (.tup [x, y]) ∧ xs[i]? = some x ∧ ys[i]? = some y, ⟨fun i H1 hi k => ?_, fun H1 k => ⟨xs, ys, k1 H1 k, k2 H1 k, rfl⟩, fun i H1 v H2 hi k y => ?_⟩, fun i H1 v H2 hi k y => ?_⟩
    · have h1 : i < xs.length := by omega
      have h2 : i < ys.length := by omega
      exact ⟨xs, ys, xs[i], ys[i], k1 H1 k, k2 H1 k, List.getElem?_eq_getElem h1, List.getElem?_eq_getElem h2⟩
    · obtain ⟨T, x, y, e1, e2, e3, e4, e5⟩ := y
      exact ⟨T, x, y, e1, e2, e3, e4 _ (k1 H1 k), e5 _ (k2 H1 k)⟩
    · obtain ⟨T, x, y, rfl, hT, rfl, hx, hy⟩ := y
      obtain ⟨d, g1, g2⟩ := r1.getV hx
      obtain ⟨d', g3, g4⟩ := r2.getV hy
      have sm := same_new (o := .tup [x, y]) hT
      refine ⟨sm, .tuple [d, d'], ?_, .tup (.inl (.inl upd_same)) (.cons ((g2.keep k).keep (same_keep sm)) (.cons ((g4.keep k).keep (same_keep sm)) .nil))⟩
      unfold zipD
      rw [List.getElem?_map, List.getElem?_zip_eq_some (z := (d, d')) |>.mpr ⟨g1, g3⟩]
      rfl
  keep := fun H1 H2 k h => h.trans k
  len := by
    unfold zipD
    rw [List.length_map, List.length_zip, r1.length, r2.length]
theorem i_zip {elts : List Expr} {kk : Nat} {tpos : Pos} (hm : X.mg "zip" = none) (ha : PE X a (rdE C W f)) (hb : PE X b (rdE C W h)) (hK : X.K = C.K) (hg : Gl X "zip" := by rfl)
    (hs : starEach [a, b] X.env = (false, eval a X.env) :: starEach [b] X.env := by rfl) (hs2 : starEach [b] X.env = (false, eval b X.env) :: starEach [] X.env := by rfl) (hpl : (backTo pos (starEach [b] X.env)).any (·.1) = false := by rfl) :
    PI X (.Tuple elts kk tpos) (.Call (.Name "zip" p) [a, b] [] pos) (rdI C W (f2 gZip f h)) :=
  (pi_zipM hm (pa_cons ha (pa_cons hb pa_nil hs2) hs) hg hs hpl).imp fun σ H R ⟨ρ, δ, E, p⟩ => by
    rw [hK]
    refine ⟨ρ, δ, E, (p.seq anti_I).mono fun d δ1 H1 x1 E1 q v rv => ⟨ρ, δ1, E1, (q.seq anti_I).mono fun d2 δ2 H2 x2 E2 q2 w rw => ?_⟩⟩
    obtain ⟨items, e, q⟩ := q2.lft
    unfold gZip at e
    cases g1 : gSeq d with
    | none => rw [g1] at e; cases e
    | some xs =>
      cases g2 : gSeq d2 with
      | none => rw [g1, g2] at e; cases e
      | some ys =>
        rw [g1, g2] at e
        cases e
        have rv' := (rv.keep (E1.keep x2)).dom
        have rw' := rw.dom
        obtain ⟨κ1, a1, vs1, rfl, s1, l1, k1⟩ := seq_of rv' g1
        obtain ⟨κ2, a2, vs2, rfl, s2, l2, k2⟩ := seq_of rw' g2
        exact ⟨κ1, κ2, a1, a2, vs1, vs2, rfl, s1, s2, q H2 Ext.refl E2 _ _ _ (walkD_zip k1 k2 l1 l2) Keep.refl⟩
theorem walkD_enum {A : Addr → Prop} {a : Addr} {xs : List V} {ds : List D} (hA : A a) (h0 : H a = some (.lst xs)) (r : RepL C.K H A ds xs) : WalkD C A (Ite C.K a) xs.length (enumD ds) (fun H1 => Keep A H H1) where
  w := by
    refine ⟨_, walk_enum.mono (fun H1 k => .inl (.inl (k _ _ (.inl hA) nt_lst h0))) (fun i H1 x H2 _ _ y => y), fun i H1 v H2 hi k y => ?_⟩
    obtain ⟨T, x, y, rfl, hT, rfl, hx, hy⟩ := y
    have hx : V.int ((i : Nat) : Int) = x := Option.some.inj hx
    subst hx
    obtain ⟨d', g3, g4⟩ := r.getV hy
    have sm := same_new (o := .tup [.int (i : Nat), y]) hT
    refine ⟨sm, .tuple [.int (i : Nat), d'], ?_, .tup (.inl (.inl upd_same)) (.cons (.int _) (.cons ((g4.keep k).keep (same_keep sm)) .nil))⟩
    unfold enumD
    rw [List.getElem?_map, List.getElem?_zipIdx, g3]
    simp
  keep := fun H1 H2 k h => h.trans k
  len := by
    unfold enumD
    rw [List.length_map, List.length_zipIdx, r.length]
theorem i_enum {elts : List Expr} {kk : Nat} {tpos : Pos} (hm : X.mg "enumerate" = none) (ha : PE X a (rdE C W f)) (hK : X.K = C.K) (hg : Gl X "enumerate" := by rfl) (hs : starEach [a] X.env = [(false, eval a X.env)] := by rfl) :
    PI X (.Tuple elts kk tpos) (.Call (.Name "enumerate" p) [a] [] pos) (rdI C W (f1 gEnum f)) :=
  (pi_enum hg hm (pa_cons ha pa_nil hs) hs).imp fun σ H R ⟨ρ, δ, E, p⟩ => by
    rw [hK]
    refine ⟨ρ, δ, E, (p.seq anti_I).mono fun d δ1 H1 x1 E1 q v rv => ?_⟩
    obtain ⟨items, e, q⟩ := q.lft
    cases rv with
    | lst a1 h1 r1 =>
      cases e
      exact ⟨_, _, rfl, .inl (.inl h1), q H1 Ext.refl E1 _ _ _ (walkD_enum ⟨a1, fun z => z _ h1 nt_lst⟩ h1 r1.dom) Keep.refl⟩
    | _ => cases e
/-- list(range(..)) -/
noncomputable def okRg (i j : Int) : Bool := cdec (-4000000000000000000 ≤ i ∧ i ≤ 4000000000000000000 ∧ -4000000000000000000 ≤ j ∧ j ≤ 4000000000000000000 ∧ j - i ≤ 10000)
@[simp] noncomputable def gLR1 : D → Option (List D)
  | .int j => if okRg 0 j = true then some (rng 0 j) else none
  | _ => none
@[simp] noncomputable def gLR2 : D → D → Option (List D)
  | .int i, .int j => if okRg i j = true then some (rng i j) else none
  | _, _ => none
theorem okRg_ok {i j : Int} (h : okRg i j = true) : RgOk i j := by
  have h := cdec_iff.mp h
  exact ⟨lo62 h.1, hi62 h.2.1, lo62 h.2.2.1, hi62 h.2.2.2.1, by omega⟩
theorem rng_rep {A : Addr → Prop} (i j : Int) : RepL K H A (rng i j) (rgV i j) := by
  have : ∀ l : List Nat, RepL K H A (l.map fun k => PyData.int (i + (k : Nat))) (l.map fun k => V.int (i + (k : Nat))) := fun l => by
    induction l with
    | nil => exact .nil
    | cons k l ih => exact .cons (.int _) ih
  exact this _
theorem anti_F {Q : VK} {H0 : Hp} : Anti C (fun _ ds _ H' => ∀ p vs, Np H0 p → H' p = some (.lst vs) → RepL C.K H' (fun a => Av C σ ρ a ∧ a ≠ p) ds vs → Q (.ref p) H') := fun _ _ _ _ _ _ h => h
theorem pd_lr1 {p2 pos2 : Pos} (hc : X.calm = true) (hm : X.mg "list" = none) (hmr : X.mg "range" = none) (ha : PE X a (rdE C W f)) (hg : Gl X "list" := by rfl) (hgr : Gl X "range" := by rfl)
    (na : starEach [a] X.env = (false, eval a X.env) :: starEach [] X.env := by rfl) : PE X (.Call (.Name "list" p) [.Call (.Name "range" p2) [a] [] pos2] [] pos) (rdF C W (f1 gLR1 f)) :=
  (pe_listRg hc hg hm (prg_1 hgr hmr ha na)).imp fun σ H Q ⟨ρ, δ, E, p⟩ => ⟨ρ, δ, E, (Post.seq (R := fun _ ds _ H' => ∀ p vs, Np H p → H' p = some (.lst vs) → RepL C.K H' (fun a => Av C σ ρ a ∧ a ≠ p) ds vs → Q (.ref p) H') p anti_F).mono fun d δ1 H1 x1 E1 q v rv => by
    obtain ⟨items, e, q⟩ := q.lft
    cases rv with
    | int j =>
      obtain ⟨hj, rfl⟩ := ite_some e
      exact ⟨j, rfl, okRg_ok hj, fun l hl => q _ (same_ext (same_new hl)) (E1.grow0 (same_new hl)) l _ (ext_same_none E x1 E1 (np_none hl)) upd_same (rng_rep 0 j)⟩
    | _ => cases e⟩
theorem pd_lr2 {p2 pos2 : Pos} (hc : X.calm = true) (hm : X.mg "list" = none) (hmr : X.mg "range" = none) (ha : PE X a (rdE C W f)) (hb : PE X b (rdE C W h)) (hg : Gl X "list" := by rfl) (hgr : Gl X "range" := by rfl)
    (na : starEach [a, b] X.env = (false, eval a X.env) :: starEach [b] X.env := by rfl) (nb : starEach [b] X.env = (false, eval b X.env) :: starEach [] X.env := by rfl) (hp : (backTo pos2 (starEach [b] X.env)).any (·.1) = false := by rfl) :
    PE X (.Call (.Name "list" p) [.Call (.Name "range" p2) [a, b] [] pos2] [] pos) (rdF C W (f2 gLR2 f h)) :=
  (pe_listRg hc hg hm (prg_2 hgr hmr ha hb na nb hp)).imp fun σ H Q ⟨ρ, δ, E, p⟩ => ⟨ρ, δ, E, (Post.seq (R := fun _ ds _ H' => ∀ p vs, Np H p → H' p = some (.lst vs) → RepL C.K H' (fun a => Av C σ ρ a ∧ a ≠ p) ds vs → Q (.ref p) H') p anti_F).mono fun d δ1 H1 x1 E1 q v rv => ⟨ρ, δ1, E1, (q.seq anti_F).mono fun d2 δ2 H2 x2 E2 q2 w rw => by
    obtain ⟨items, e, q⟩ := q2.lft
    cases rv with
    | int i =>
      cases rw with
      | int j =>
        obtain ⟨hj, rfl⟩ := ite_some e
        exact ⟨i, j, rfl, rfl, okRg_ok hj, fun l hl => q _ (same_ext (same_new hl)) (E2.grow0 (same_new hl)) l _ (ext_same_none E (x1.trans x2) E2 (np_none hl)) upd_same (rng_rep i j)⟩
      | _ => cases e
    | _ => cases rw <;> cases e⟩⟩
end
end G8

set_option Elab.async false
set_option linter.all false
set_option maxRecDepth 100000
set_option maxHeartbeats 1000000
namespace G8
open PySem PySem.Spec PyProof.Rows L2 LamX
/-! ### comprehensions -/
@[simp] def wipeR (ρ : Rho) : List Nat → Rho
  | [] => ρ
  | v :: vs => (wipeR ρ vs).set v .un
def lcD (td : TgD) (tst elt : DE) (ρ : Rho) : List D → Dl → RR (List D)
  | [], δ => some (.ok [], δ)
  | d :: ds, δ => match td d ρ with
    | none => none
    | some ρ1 => match tst ρ1 δ with
      | some (.ok (.bool true), δ1) => (match elt ρ1 δ1 with
        | some (.ok y, δ2) => bnd (lcD td tst elt ρ ds δ2) fun ys δ => some (.ok (y :: ys), δ)
        | _ => none)
      | some (.ok (.bool false), δ1) => lcD td tst elt ρ ds δ1
      | _ => none
@[simp] def noOwn (ρ : Rho) (vs : List Nat) : Bool := vs.all fun i => match ρ[i]? with
  | some s => !s.isOwn
  | none => true
@[simp] def fLc (fi : DL) (td : TgD) (tst elt : DE) (vs : List Nat) : DL := fun ρ δ => bnd (fi ρ δ) fun ds δ => if ds.length ≤ 100000 ∧ noOwn ρ vs = true then lcD td tst elt (wipeR ρ vs) ds δ else none
@[simp] def dYes : DE := fun _ δ => some (.ok (.bool true), δ)
abbrev W0 : Wx := fun _ _ _ => False
section
variable {X : Cx} {C : Ct} {W : Wx} {e a b tg iter elt : Expr} {es ifs : List Expr} {f t g h : DE} {fi : DL} {td : TgD} {pos p : Pos} {σ σ' : L2.St} {ρ : Rho} {δ δ1 : Dl} {H H1 : Hp} {K : Fg} {is vs : List Nat}
theorem EnvOk.wipe : ∀ {vs : List Nat}, EnvOk C H σ ρ δ → EnvOk C H (L2.wipe σ vs) (wipeR ρ vs) δ
  | [], E => E
  | v :: vs, E => (EnvOk.wipe (vs := vs) E).set rfl trivial
theorem own_wipe {a : Addr} : ∀ {vs : List Nat}, Own (L2.wipe σ vs) (wipeR ρ vs) a → Own σ ρ a
  | [], h => h
  | v :: vs, h => own_wipe (vs := vs) (own_set rfl h)
theorem wipe_get {j : Nat} : ∀ {vs : List Nat}, (L2.wipe σ vs)[j]? = if j ∈ vs then (σ[j]?).map (fun _ => none) else σ[j]?
  | [] => by simp [L2.wipe]
  | v :: vs => by
    unfold L2.wipe
    by_cases hj : v = j
    · subst hj
      rw [List.getElem?_set_self', wipe_get, if_pos (List.mem_cons_self ..)]
      split <;> cases σ[v]? <;> rfl
    · rw [List.getElem?_set_ne hj, wipe_get]
      have : (j ∈ v :: vs) ↔ j ∈ vs := by
        rw [List.mem_cons]
        exact ⟨fun z => z.elim (fun q => absurd q.symm hj) id, .inr⟩
      simp only [this]
theorem wipe_chg (hs : ∀ i ∈ is, i ∈ vs) (c : Chg is (L2.wipe σ vs) σ') : L2.wipe σ' vs = L2.wipe σ vs := by
  apply List.ext_getElem?
  intro j
  rw [wipe_get, wipe_get]
  by_cases hj : j ∈ vs
  · rw [if_pos hj, if_pos hj]
    have hl : σ'.length = σ.length := c.1.trans (wipe_length σ vs)
    by_cases h : j < σ.length
    · rw [List.getElem?_eq_getElem h, List.getElem?_eq_getElem (by omega)]
      rfl
    · rw [List.getElem?_eq_none (by omega), List.getElem?_eq_none (by omega)]
  · rw [if_neg hj, if_neg hj, c.2 j fun z => hj (hs j z), wipe_get, if_neg hj]
/-- with an address put aside -/
abbrev Ct.less (C : Ct) (D : Addr) : Ct := { C with S := fun a => C.S a ∧ a ≠ D }
theorem SlotOk.less {A : Addr → Prop} {s : Sl} {ov : Option V} {D : Addr} (h : SlotOk C H A s ov) (hn : ∀ p, s.isOwn = true → ov = some (.ref p) → p ≠ D) : SlotOk (C.less D) H A s ov := by
  cases s with
  | un => trivial
  | val d =>
    cases ov with
    | none => exact h
    | some v => exact h
  | own ds =>
    cases ov with
    | none => exact h
    | some v =>
      obtain ⟨q, vs, rfl, h1, h2, h3⟩ := h
      exact ⟨q, vs, rfl, h1, ⟨h2.1, h2.2, hn q rfl rfl⟩, h3⟩
  | ownd ds =>
    cases ov with
    | none => exact h
    | some v =>
      obtain ⟨q, vs, rfl, h1, h2, h3⟩ := h
      exact ⟨q, vs, rfl, h1, ⟨h2.1, h2.2, hn q rfl rfl⟩, h3⟩
  | dice =>
    cases ov with
    | none => exact h
    | some v => exact h
/-- what came up behind H may be put aside -/
theorem EnvOk.hide {D : Addr} (E : EnvOk C H σ ρ δ) (hD : Np H D) (x : Ext C H H1) (E1 : EnvOk C H1 σ ρ δ1) (hD1 : ∃ o, nt o ∧ H1 D = some o) : EnvOk (C.less D) H1 σ ρ δ1 where
  len := E.len
  slot := fun i s h => by
    obtain ⟨ov, e, k⟩ := E.slot i s h
    have ho : ∀ p, s.isOwn = true → ov = some (.ref p) → Own σ ρ p := fun p hs hp => ⟨i, s, h, hs, by rw [e, hp]⟩
    refine ⟨ov, e, SlotOk.widen (SlotOk.less ((k.avoid hD).keep ((E.keep x).sub fun a z => z.1) fun p hs hp => ?_) fun p hs hp z => ?_) fun a z => ⟨⟨z.1.1, z.2⟩, z.1.2⟩⟩
    · obtain ⟨u, hu, n⟩ := E.own_there (ho p hs hp)
      rw [hu]
      exact x p u (E.own_ndc (ho p hs hp)) n hu
    · subst z
      exact E.none_own hD (ho _ hs hp)
  dis := E.dis
  ext := E1.ext
  dc := fun a h => ⟨(E1.dc a h).1, fun z => (E1.dc a h).2.1 z.1, (E1.dc a h).2.2⟩
  fr := fun a h => by
    by_cases e : a = D
    · rw [e]; exact hD1
    · exact E1.fr a fun z => h ⟨z, e⟩
  tb := E1.tb
/-- its list changes: nothing that is told does -/
theorem EnvOk.mutD {D : Addr} {o : HO} {xs : List V} (no : nt o) (hp : H D = some (.lst xs)) (E : EnvOk (C.less D) H σ ρ δ) (h0 : Np C.H0 D) (ndc : C.dc ≠ some D) (hi : ∀ u, H D = some u → ¬ imm u) : EnvOk (C.less D) (upd H D o) σ ρ δ where
  len := E.len
  slot := fun i s h => by
    obtain ⟨ov, e, k⟩ := E.slot i s h
    refine ⟨ov, e, k.keep (fun a u p _ q => ?_) fun p hs hp => ?_⟩
    · rw [upd_ne]
      · exact q
      · rintro rfl
        rcases p with p | p
        · exact p.1.2 rfl
        · exact hi _ q p
    · refine upd_ne fun z => ?_
      subst z
      cases s with
      | own ds =>
        cases ov with
        | none => cases hp
        | some v =>
          obtain ⟨q, vs, rfl, _, h2, _⟩ := k
          cases hp
          exact h2.2.2 rfl
      | ownd ds =>
        cases ov with
        | none => cases hp
        | some v =>
          obtain ⟨q, vs, rfl, _, h2, _⟩ := k
          cases hp
          exact h2.2.2 rfl
      | _ => cases hs
  dis := E.dis
  ext := fun a u hd n h => by
    rw [upd_ne]
    · exact E.ext a u hd n h
    · rintro rfl
      exact h0 u h n
  dc := fun a h => ⟨by
    rw [upd_ne]
    · exact (E.dc a h).1
    · rintro rfl
      exact ndc h, (E.dc a h).2⟩
  fr := fun a h => by
    by_cases e : a = D
    · exact ⟨o, no, by rw [e, upd_same]⟩
    · obtain ⟨u, n, q⟩ := E.fr a h
      exact ⟨u, n, by rw [upd_ne e]; exact q⟩
  tb := tabs_upd E.tb hp pl_lst
theorem wipeR_get {j : Nat} : ∀ {vs : List Nat}, j ∉ vs → (wipeR ρ vs)[j]? = ρ[j]?
  | [], _ => rfl
  | v :: vs, h => by
    simp only [List.mem_cons, not_or] at h
    unfold wipeR
    rw [List.getElem?_set_ne (Ne.symm h.1), wipeR_get h.2]
/-- a target changes its own names alone -/
def TgOk (is : List Nat) (td : TgD) : Prop := ∀ d ρ ρ', td d ρ = some ρ' → ∀ j, j ∉ is → ρ'[j]? = ρ[j]?
theorem tgOk_n (i : Nat) : TgOk [i] (tgN i) := fun d ρ ρ' e j hj => by
  cases e
  rw [List.getElem?_set_ne]
  intro z
  exact hj (by simp [z])
theorem setAll_get {j : Nat} : ∀ {is : List Nat} {ds : List D} {ρ : Rho}, j ∉ is → (setAll is ds ρ)[j]? = ρ[j]?
  | [], _, _, _ => rfl
  | _ :: _, [], _, _ => rfl
  | i :: is, d :: ds, ρ, h => by
    simp only [List.mem_cons, not_or] at h
    show (setAll is ds (ρ.set i (.val d)))[j]? = _
    rw [setAll_get h.2, List.getElem?_set_ne (Ne.symm h.1)]
theorem tgOk_t (is : List Nat) : TgOk is (tgT is) := fun d ρ ρ' e j hj => by
  cases d with
  | tuple ds =>
    obtain ⟨_, rfl⟩ := ite_some e
    exact setAll_get hj
  | _ => cases e
/-- whatever is put aside -/
def rdEx (C : Ct) (W : Wx) (f : DE) : TE := fun σ H Q => ∃ D, rdE (C.less D) W f σ H Q
def rdTx (C : Ct) (W : Wx) (f : DE) : TT := fun σ H Q => ∃ D, rdT (C.less D) W f σ H Q
def rdGx (C : Ct) (is : List Nat) (td : TgD) : TG := fun v σ H Q => ∃ D, rdG (C.less D) is td v σ H Q
/-- a comprehension's reading -/
theorem lc_rd {Q : VK} (hs : ∀ i ∈ is, i ∈ vs) (htd : TgOk is td) (p : rdF C W (fLc fi td t f vs) σ H Q) : tLc (rdI C W fi) (rdGx C is td) (rdTx C W0 t) (rdEx C W0 f) vs σ H Q := by
  obtain ⟨ρ, δ, E, p⟩ := p
  refine ⟨ρ, δ, E, (Post.seq (R := fun _ ds _ H' => ∀ p vs, Np H p → H' p = some (.lst vs) → RepL C.K H' (fun a => Av C σ ρ a ∧ a ≠ p) ds vs → Q (.ref p) H') p anti_F).mono fun items δ1 H1 x1 E1 q J n G wd hG => ?_⟩
  obtain ⟨⟨Y, w, hY⟩, kp, rfl⟩ := wd
  intro D hD
  by_cases hlen : items.length ≤ 100000 ∧ noOwn ρ vs = true
  · rw [if_pos hlen] at q
    obtain ⟨hlen, hno⟩ := hlen
    have hD0 : Np H D := ext_same_none E x1 E1 (np_none hD)
    have ndc : C.dc ≠ some D := fun z => by
      have := (E1.dc D z).1
      rw [hD] at this; cases this
    have h00 : Np C.H0 D := E1.none_h0 (np_none hD)
    let RR := fun (_ : Hp) (ds : List G8.D) (_ : Dl) (H' : Hp) => ∀ p vs, Np H p → H' p = some (.lst vs) → RepL C.K H' (fun a => Av C σ ρ a ∧ a ≠ p) ds vs → Q (.ref p) H'
    -- the state at turn i
    let Pv : Nat → Hp → Prop := fun i H' => ∃ δ' acc accV, EnvOk (C.less D) H' σ ρ δ' ∧ Keep (fun a => Av C σ ρ a ∧ ¬ Np H1 a) H1 H' ∧ (∀ a, C.dc = some a → H' a = some (diceO δ')) ∧ (∀ a o, C.dc ≠ some a → a ≠ D → nt o → H1 a = some o → H' a = some o) ∧ Tabs C.T H' ∧
      H' D = some (.lst accV) ∧ RepL C.K H' (Av (C.less D) σ ρ) acc accV ∧ acc.length ≤ i ∧ Post C W σ ρ RR H1 (bnd (lcD td t f (wipeR ρ vs) (items.drop i) δ') fun ys δ => some (.ok (acc ++ ys), δ))
    refine lc_it w Pv ?_ (fun i H' hi z => ?_) (fun i x H' H'' hi z y => ?_) (fun H' z => ?_)
    · have sm := same_new (o := .lst []) hD
      have E2 : EnvOk C (upd H1 D (.lst [])) σ ρ δ1 := E1.grow0 sm
      refine ⟨δ1, [], [], E1.hide (np_none hD) (same_ext sm) E2 ⟨_, nt_lst, upd_same⟩, same_keep sm, fun a h => (E2.dc a h).1, fun a o _ _ _ h => sm a o h, E2.tb, upd_same, .nil, Nat.le_refl _, ?_⟩
      rw [List.drop_zero]
      revert q
      cases lcD td t f (wipeR ρ vs) items δ1 with
      | none => exact fun q => q
      | some r =>
        obtain ⟨r, δ2⟩ := r
        cases r with
        | ok ys => exact fun q => q
        | error x => exact fun q => q
    · obtain ⟨δ', acc, accV, _, k', _⟩ := z
      exact kp _ _ k' hG
    · obtain ⟨δ', acc, accV, E', k', dk, ex, tb', hacc, racc, hal, q'⟩ := z
      have hG' : G H' := kp _ _ k' hG
      obtain ⟨sm, d, hd, r⟩ := hY i H' x H'' hi hG' y
      have E2 := E'.grow0 sm
      have hl := (List.getElem?_eq_some_iff.mp hd).1
      have he := (List.getElem?_eq_some_iff.mp hd).2
      have av : ∀ a, (Av C σ ρ a ∧ ¬ Np H1 a) → Av (C.less D) (L2.wipe σ vs) (wipeR ρ vs) a := fun a z => ⟨⟨z.1.1, fun q => z.2 (by rw [q]; exact np_none hD)⟩, fun o => z.1.2 (own_wipe o)⟩
      have avB : ∀ a, Av (C.less D) σ ρ a → Av (C.less D) (L2.wipe σ vs) (wipeR ρ vs) a := fun a z => ⟨z.1, fun o => z.2 (own_wipe o)⟩
      rw [List.drop_eq_getElem_cons hl, he] at q'
      cases ht : td d (wipeR ρ vs) with
      | none =>
        have q' : Post C W σ ρ RR H1 (bnd (match td d (wipeR ρ vs) with | none => none | some ρ1 => _) _) := q'
        rw [ht] at q'
        exact q'.elim
      | some ρ1 =>
        have q' : Post C W σ ρ RR H1 (bnd (match td d (wipeR ρ vs) with | none => none | some ρ1 => _) _) := q'
        rw [ht] at q'
        have q' : Post C W σ ρ RR H1 (bnd (match t ρ1 δ' with
          | some (.ok (.bool true), δ1) => (match f ρ1 δ1 with
            | some (.ok y, δ2) => bnd (lcD td t f (wipeR ρ vs) (items.drop (i + 1)) δ2) fun ys δ => some (.ok (y :: ys), δ)
            | _ => none)
          | some (.ok (.bool false), δ1) => lcD td t f (wipeR ρ vs) (items.drop (i + 1)) δ1
          | _ => none) fun ys δ => some (.ok (acc ++ ys), δ)) := q'
        refine ⟨D, wipeR ρ vs, δ', d, E2.wipe, r.widen av, ρ1, ht, fun σ3 E3 s3 c3 => ⟨wipe_chg hs c3, D, ρ1, δ', E3, ?_⟩⟩
        cases hT : t ρ1 δ' with
        | none => rw [hT] at q'; exact q'.elim
        | some rT =>
          obtain ⟨rT, δT⟩ := rT
          rw [hT] at q'
          cases rT with
          | error x => exact q'.elim
          | ok dT =>
            cases dT with
            | bool bT =>
              intro H4 x4 E4
              refine ⟨bT, rfl, ?_⟩
              have x4 : Ext C H'' H4 := x4
              have E4' : EnvOk (C.less D) H4 σ ρ δT := E2.grow x4 (fun a h => (E4.dc a h).1) E4.tb
              have D4 : H4 D = some (.lst accV) := x4 D _ ndc nt_lst (sm D _ hacc)
              have ex4 : ∀ a o, C.dc ≠ some a → a ≠ D → nt o → H1 a = some o → H4 a = some o := fun a o h1 h2 n h3 => x4 a o h1 n (sm a o (ex a o h1 h2 n h3))
              have k4 : Keep (fun a => Av C σ ρ a ∧ ¬ Np H1 a) H1 H4 := fun a o p n h => by
                refine ex4 a o (fun z => ?_) (fun z => by rw [z, hD] at h; cases h) n h
                rcases p with p | p
                · exact (E1.dc a z).2.1 p.1.1
                · have := (E1.dc a z).1
                  rw [h] at this
                  cases this
                  exact p
              have racc4 : RepL C.K H4 (Av (C.less D) σ ρ) acc accV := (racc.keep (same_keep sm)).keep (E2.keep x4)
              cases bT with
              | false =>
                refine iteF ?_
                exact ⟨δT, acc, accV, E4', k4, fun a h => (E4.dc a h).1, ex4, E4.tb, D4, racc4, by omega, q'⟩
              | true =>
                refine iteT ?_
                refine ⟨D, ρ1, δT, E4, ?_⟩
                cases hF : f ρ1 δT with
                | none =>
                  have q' : Post C W σ ρ RR H1 (bnd (match f ρ1 δT with | some (.ok y, δ2) => bnd (lcD td t f (wipeR ρ vs) (items.drop (i + 1)) δ2) fun ys δ => some (.ok (y :: ys), δ) | _ => none) fun ys δ => some (.ok (acc ++ ys), δ)) := q'
                  rw [hF] at q'
                  exact q'.elim
                | some rF =>
                  obtain ⟨rF, δF⟩ := rF
                  have q' : Post C W σ ρ RR H1 (bnd (match f ρ1 δT with | some (.ok y, δ2) => bnd (lcD td t f (wipeR ρ vs) (items.drop (i + 1)) δ2) fun ys δ => some (.ok (y :: ys), δ) | _ => none) fun ys δ => some (.ok (acc ++ ys), δ)) := q'
                  rw [hF] at q'
                  cases rF with
                  | error x => exact q'.elim
                  | ok y =>
                    intro H5 x5 E5 v rv
                    have x5 : Ext C H4 H5 := x5
                    have E5' : EnvOk (C.less D) H5 σ ρ δF := E4'.grow x5 (fun a h => (E5.dc a h).1) E5.tb
                    have D5 : H5 D = some (.lst accV) := x5 D _ ndc nt_lst D4
                    refine ⟨accV, D5, ?_, ?_⟩
                    · rw [← racc.length]
                      exact Nat.lt_of_le_of_lt hal (Nat.lt_of_lt_of_le hi (to_line hlen))
                    · have ki : ∀ u, H5 D = some u → ¬ imm u := fun u hu => by
                        rw [D5] at hu
                        cases hu
                        exact fun z => z
                      have kD : Keep (Av (C.less D) σ ρ) H5 (upd H5 D (.lst (accV ++ [v]))) := fun a u p _ h => by
                        rw [upd_ne]
                        · exact h
                        · rintro rfl
                          rcases p with p | p
                          · exact p.1.2 rfl
                          · exact ki u h p
                      have rvB : Rep C.K H5 (Av (C.less D) σ3 ρ1) y v := rv
                      have av3 : ∀ a, Av (C.less D) σ3 ρ1 a → Av (C.less D) σ ρ a := fun a z => ⟨z.1, fun o => z.2 (by
                        obtain ⟨j, s, o1, o2, o3⟩ := o
                        have hj : j ∉ vs := fun hm => by
                          have := List.all_eq_true.mp hno j hm
                          rw [o1] at this
                          simp only [o2] at this
                          cases this
                        have hji : j ∉ is := fun hm => hj (hs j hm)
                        refine ⟨j, s, ?_, o2, ?_⟩
                        · rw [htd d _ _ ht j hji, wipeR_get hj]
                          exact o1
                        · rw [c3.2 j hji, wipe_out hj]
                          exact o3)⟩
                      refine ⟨δF, acc ++ [y], accV ++ [v], E5'.mutD nt_lst D5 h00 ndc ki, ?_, fun a h => ?_, fun a o h1 h2 n h3 => ?_, tabs_upd E5.tb D5 pl_lst, upd_same, ?_, ?_, ?_⟩
                      · refine fun a o p n h => ?_
                        have hne : a ≠ D := fun z => by rw [z, hD] at h; cases h
                        rw [upd_ne hne]
                        exact x5 a o (fun z => by
                          rcases p with p | p
                          · exact (E1.dc a z).2.1 p.1.1
                          · have := (E1.dc a z).1
                            rw [h] at this
                            cases this
                            exact p) n (k4 a o p n h)
                      · rw [upd_ne (fun z => ndc (by rw [← z]; exact h))]
                        exact (E5.dc a h).1
                      · rw [upd_ne h2]
                        exact x5 a o h1 n (ex4 a o h1 h2 n h3)
                      · exact ((racc4.keep (E4'.keep x5)).append (.one (rvB.widen av3))).keep kD
                      · rw [List.length_append, List.length_singleton]
                        omega
                      · have q' : Post C W σ ρ RR H1 (bnd (bnd (lcD td t f (wipeR ρ vs) (items.drop (i + 1)) δF) fun ys δ => some (.ok (y :: ys), δ)) fun ys δ => some (.ok (acc ++ ys), δ)) := q'
                        revert q'
                        cases lcD td t f (wipeR ρ vs) (items.drop (i + 1)) δF with
                        | none => exact fun q => q
                        | some r =>
                          obtain ⟨r, δ2⟩ := r
                          cases r with
                          | ok ys =>
                            intro q
                            have q : Post C W σ ρ RR H1 (some (.ok (acc ++ y :: ys), δ2)) := q
                            rw [List.append_cons] at q
                            exact q
                          | error x => exact fun q => q
            | _ => exact q'.elim
    · obtain ⟨δ', acc, accV, E', k', dk, ex, tb', hacc, racc, hal, q'⟩ := z
      rw [List.drop_length] at q'
      have q' : Post C W σ ρ RR H1 (some (.ok (acc ++ []), δ')) := q'
      rw [List.append_nil] at q'
      have x' : Ext C H1 H' := fun a o h1 n h2 => ex a o h1 (fun z => by rw [z, hD] at h2; cases h2) n h2
      exact q' H' x' (E1.grow x' dk tb') D accV hD0 hacc (racc.widen fun a z => ⟨⟨z.1.1, z.2⟩, z.1.2⟩)
  · rw [if_neg hlen] at q
    exact q.elim
end
end G8

set_option Elab.async false
set_option linter.all false
set_option maxRecDepth 100000
set_option maxHeartbeats 1000000
namespace G8
open PySem PySem.Spec PyProof.Rows L2 LamX
section
variable {X : Cx} {C : Ct} {W : Wx} {e a b tg iter elt : Expr} {es ifs : List Expr} {f t g h : DE} {fi fl : DL} {td : TgD} {pos p : Pos} {σ σ' : L2.St} {ρ : Rho} {δ δ1 : Dl} {H H1 : Hp} {K : Fg} {is vs : List Nat}
theorem _root_.L2.PTs.imp {u u' : TT} (p : PTs X ifs u) (h : ∀ σ H Q, u' σ H Q → u σ H Q) : PTs X ifs u' := ⟨fun pins s σ H Q I q => p.run pins s σ H Q I (h σ H Q q)⟩
theorem ts_nil : PTs X [] (rdT C W dYes) := pts_nil.imp fun σ H Q ⟨ρ, δ, E, p⟩ => by
  obtain ⟨b, e, q⟩ := p.val E
  cases e
  exact q
theorem ts_one {c : Expr} (h : PT X c (rdT C W t)) : PTs X [c] (rdT C W t) := pts_one h
/-- [elt for target in iter if ..] -/
theorem pd_lc {scope : Scope} {own : List (Str × Nat)} (hc : X.calm = true) (nd : X.N.Nodup) (htd : TgOk is td) (hi : PI X tg iter (rdI C W fi)) (ok : blkC X.N X.env.scope scope own = true)
    (hg : ∀ (D : Addr) (s : Shared) (H : Hp) (A : Addr) (cl : List (Str × Addr)) (fp : List Addr), PG (X.blk s H scope (compEnvC scope cl A X.env) fp) tg (rdG (C.less D) is td))
    (ht : ∀ (D : Addr) (s : Shared) (H : Hp) (A : Addr) (cl : List (Str × Addr)) (fp : List Addr), PTs (X.blk s H scope (compEnvC scope cl A X.env) fp) ifs (rdT (C.less D) W0 t))
    (he : ∀ (D : Addr) (s : Shared) (H : Hp) (A : Addr) (cl : List (Str × Addr)) (fp : List Addr), PE (X.blk s H scope (compEnvC scope cl A X.env) fp) elt (rdE (C.less D) W0 f))
    (hs : ∀ i ∈ is, i ∈ own.map (·.2) := by decide) (hf : ∀ x, foldedSetIterable iter X.env x = pure x := by intro _; rfl) :
    PE X (.ListComp elt [⟨tg, iter, ifs, 0⟩] scope pos) (rdF C W (fLc fi td t f (own.map (·.2)))) :=
  (pe_lc hc nd hi (blkOk_by ok) (g := rdGx C is td) (tt := rdTx C W0 t) (te := rdEx C W0 f)
    (fun s H A cl fp => ⟨fun pins s1 σ H1 v u Q I r ⟨D, q⟩ => (hg D s H A cl fp).run pins s1 σ H1 v u Q I r q⟩)
    (fun s H A cl fp => ⟨fun pins s1 σ H1 Q I ⟨D, q⟩ => (ht D s H A cl fp).run pins s1 σ H1 Q I q⟩)
    (fun s H A cl fp => ⟨fun pins s1 σ H1 Q I ⟨D, q⟩ => (he D s H A cl fp).run pins s1 σ H1 Q I q⟩) hf).imp fun _ _ _ q => lc_rd hs htd q
/-- y = [..], y a plain local: owned -/
theorem s_setLc {i : Nat} {y : Str} {py spos : Pos} {scope : Scope} {own : List (Str × Nat)} (hc : X.calm = true) (nd : X.N.Nodup) (htd : TgOk is td) (hi : PI X tg iter (rdI C W fi)) (ok : blkC X.N X.env.scope scope own = true)
    (hg : ∀ (D : Addr) (s : Shared) (H : Hp) (A : Addr) (cl : List (Str × Addr)) (fp : List Addr), PG (X.blk s H scope (compEnvC scope cl A X.env) fp) tg (rdG (C.less D) is td))
    (ht : ∀ (D : Addr) (s : Shared) (H : Hp) (A : Addr) (cl : List (Str × Addr)) (fp : List Addr), PTs (X.blk s H scope (compEnvC scope cl A X.env) fp) ifs (rdT (C.less D) W0 t))
    (he : ∀ (D : Addr) (s : Shared) (H : Hp) (A : Addr) (cl : List (Str × Addr)) (fp : List Addr), PE (X.blk s H scope (compEnvC scope cl A X.env) fp) elt (rdE (C.less D) W0 f))
    (hy : X.N[i]? = some y := by rfl) (hyl : X.env.scope.names.lookup y = some .local := by rfl)
    (hsw : swapsWith (.ListComp elt [⟨tg, iter, ifs, 0⟩] scope pos) (some (.Name y py)) spos.line X.env = pure true := by exact sw_true rfl rfl rfl (by decide +kernel))
    (hs : ∀ i ∈ is, i ∈ own.map (·.2) := by decide) (hf : ∀ x, foldedSetIterable iter X.env x = pure x := by intro _; rfl) :
    PS X (.Assign [.Name y py] (.ListComp elt [⟨tg, iter, ifs, 0⟩] scope pos) spos) (rdS C W (sSetF i (fLc fi td t f (own.map (·.2))))) :=
  (ps_setLc hc nd hy hyl hsw hi (blkOk_by ok) (g := rdGx C is td) (tt := rdTx C W0 t) (te := rdEx C W0 f)
    (fun s H A cl fp => ⟨fun pins s1 σ H1 v u Q I r ⟨D, q⟩ => (hg D s H A cl fp).run pins s1 σ H1 v u Q I r q⟩)
    (fun s H A cl fp => ⟨fun pins s1 σ H1 Q I ⟨D, q⟩ => (ht D s H A cl fp).run pins s1 σ H1 Q I q⟩)
    (fun s H A cl fp => ⟨fun pins s1 σ H1 Q I ⟨D, q⟩ => (he D s H A cl fp).run pins s1 σ H1 Q I q⟩) hf).imp fun D σ H ⟨ρ, δ, E, p⟩ => lc_rd hs htd ⟨ρ, δ, E, oF_set (Q := D.nx) E p⟩
end
/-! ### defs -/
def WXof (cl : String → Addr) (W : Wx) : WX := fun cls d σ H => ∃ x, cls = .ref (cl x) ∧ d = none ∧ W x σ H
def PostP (K : Fg) (cl : String → Addr) (T : List (Addr × Str)) (S : Addr → Prop) (H : Hp) (Q : VK) (E : XK) : Option (Except String D) → Prop
  | none => False
  | some (.ok d) => ∀ v H', ExtN H H' → Tabs T H' → Rep K H' S d v → Q v H'
  | some (.error x) => ∀ H', ExtN H H' → Tabs T H' → E (.ref (cl x)) none H'
/-- a def's promise: it returns, or raises, what g says of its arguments -/
def spP (K : Fg) (cl : String → Addr) (T : List (Addr × Str)) (n : Nat) (g : Fs) : Sp := fun vs H Q E => ∃ ds S, ds.length = n ∧ (∀ a, ¬ S a → ∃ o, nt o ∧ H a = some o) ∧ Tabs T H ∧ RepL K H S ds vs ∧ PostP K cl T S H Q E (g ds)
abbrev Fd := List D → Dl → Option (D × Dl)
def PostD (K : Fg) (T : List (Addr × Str)) (S : Addr → Prop) (dc : Addr) (H : Hp) (Q : VK) : Option (D × Dl) → Prop
  | none => False
  | some (d, δ') => ∀ v H', (∀ a o, a ≠ dc → nt o → H a = some o → H' a = some o) → H' dc = some (diceO δ') → Tabs T H' → Rep K H' S d v → Q v H'
/-- .. of a def that throws the dice, its first argument -/
def spD (K : Fg) (T : List (Addr × Str)) (n : Nat) (g : Fd) : Sp := fun vs H Q _ => ∃ dc rest ds S δ, vs = .ref dc :: rest ∧ ds.length = n ∧ H dc = some (diceO δ) ∧ ¬ S dc ∧ (∀ a, ¬ S a → ∃ o, nt o ∧ H a = some o) ∧ Tabs T H ∧ RepL K H S ds rest ∧ PostD K T S dc H Q (g ds δ)
structure FnP (P : Program) (w : World) (K : Fg) (mg : Str → Option Value) (base : Heap) (cl : String → Addr) (T : List (Addr × Str)) (x : Str) (k n : Nat) (g : Fs) : Prop where
  ex : ∃ f fd ps, FnOk P w K mg base (L2N.CX P w) k f fd ps (spP K cl T n g) ∧ mg x = some (.ref f) ∧ PySem.W.keepIn K (.ref f) = true ∧ Binds K fd ps []
  len : ∀ ds r, g ds = some r → ds.length = n
structure FnD (P : Program) (w : World) (K : Fg) (mg : Str → Option Value) (base : Heap) (T : List (Addr × Str)) (x : Str) (k n : Nat) (g : Fd) : Prop where
  ex : ∃ f fd ps, FnOk P w K mg base (L2N.CX P w) k f fd ps (spD K T n g) ∧ mg x = some (.ref f) ∧ PySem.W.keepIn K (.ref f) = true ∧ Binds K fd ps []
  len : ∀ ds δ r, g ds δ = some r → ds.length = n
section
variable {P : Program} {w : World} {K : Fg} {mg : Str → Option Value} {base : Heap} {x : Str} {j k n : Nat} {cl : String → Addr} {T : List (Addr × Str)}
theorem FnP.mono {g : Fs} (F : FnP P w K mg base cl T x j n g) (h : j ≤ k) : FnP P w K mg base cl T x k n g := by
  obtain ⟨f, fd, ps, h1, h2⟩ := F.ex
  exact ⟨⟨f, fd, ps, h1.mono h, h2⟩, F.len⟩
theorem FnD.mono {g : Fd} (F : FnD P w K mg base T x j n g) (h : j ≤ k) : FnD P w K mg base T x k n g := by
  obtain ⟨f, fd, ps, h1, h2⟩ := F.ex
  exact ⟨⟨f, fd, ps, h1.mono h, h2⟩, F.len⟩
/-- another word for what it is worth -/
theorem FnP.imp {g g' : Fs} (F : FnP P w K mg base cl T x k n g) (h : ∀ ds r, g' ds = some r → g ds = some r) : FnP P w K mg base cl T x k n g' := by
  obtain ⟨f, fd, ps, h1, h2⟩ := F.ex
  refine ⟨⟨f, fd, ps, h1.imp fun vs H Q E ⟨ds, S, hl, hf, ht, r, q⟩ => ⟨ds, S, hl, hf, ht, r, ?_⟩, h2⟩, fun ds r e => F.len ds r (h ds r e)⟩
  cases e : g' ds with
  | none => rw [e] at q; exact q.elim
  | some z => rw [h ds z e, ← e]; exact q
theorem FnD.imp {g g' : Fd} (F : FnD P w K mg base T x k n g) (h : ∀ ds δ r, g' ds δ = some r → g ds δ = some r) : FnD P w K mg base T x k n g' := by
  obtain ⟨f, fd, ps, h1, h2⟩ := F.ex
  refine ⟨⟨f, fd, ps, h1.imp fun vs H Q E ⟨dc, rest, ds, S, δ, e1, hl, e2, e3, hf, ht, r, q⟩ => ⟨dc, rest, ds, S, δ, e1, hl, e2, e3, hf, ht, r, ?_⟩, h2⟩, fun ds δ r e => F.len ds δ r (h ds δ r e)⟩
  cases e : g' ds δ with
  | none => rw [e] at q; exact q.elim
  | some z => rw [h ds δ z e, ← e]; exact q
end
@[simp] def dCallD (i : Nat) (g : Fd) (f : DL) : DE := fun ρ δ => match ρ[i]? with
  | some .dice => bnd (f ρ δ) fun ds δ => (match g ds δ with
    | none => none
    | some (d, δ') => some (.ok d, δ'))
  | _ => none
section
variable {X : Cx} {C : Ct} {W : Wx} {e : Expr} {es : List Expr} {fa : DL} {pos p : Pos} {x : Str} {k n : Nat} {cl : String → Addr}
theorem av_fr {σ : L2.St} {ρ : Rho} {δ : Dl} {H : Hp} (E : EnvOk C H σ ρ δ) (a : Addr) (h : ¬ Av C σ ρ a) : ∃ o, nt o ∧ H a = some o := Classical.byContradiction fun z => h (E.freshN fun o e n => z ⟨o, n, e⟩)
theorem extN_ext {H H' : Hp} (s : ExtN H H') : Ext C H H' := fun a o _ n h => s a o h n
theorem EnvOk.growN {σ : L2.St} {ρ : Rho} {δ : Dl} {H H' : Hp} (E : EnvOk C H σ ρ δ) (s : ExtN H H') (t : Tabs C.T H') : EnvOk C H' σ ρ δ := E.grow (extN_ext s) (fun a h => s a _ (E.dc a h).1 nt_dice) t
theorem pd_call {g : Fs} (F : FnP X.prog X.w X.K X.mg X.base cl C.T x k n g) (hr : Room k X.A) (hK : X.K = C.K) (tk : L2N.Takes X (WXof cl W)) (ha : PA X (e :: es) (rdA C W fa)) (hg : Gl X x := by rfl) (hdb : (x == ("__debug__" : Str)) = false := by decide)
    (he : starEach (e :: es) X.env = (false, eval e X.env) :: starEach es X.env := by rfl) (hpl : (backTo pos (starEach es X.env)).any (·.1) = false := by rfl) :
    PE X (.Call (.Name x p) (e :: es) [] pos) (rdE C W (dCall g fa)) := by
  obtain ⟨f, fd, ps, h1, hm, hk, hb⟩ := F.ex
  refine (pe_callS h1 hr hg hm hk hb (fun σ => L2N.passAt tk σ) ha hdb he hpl).imp fun σ H Q ⟨ρ, δ, E, q⟩ => ?_
  unfold dCall at q
  refine ⟨ρ, δ, E, ?_⟩
  cases e1 : fa ρ δ with
  | none => rw [e1] at q; exact q.elim
  | some r =>
    obtain ⟨r, δ'⟩ := r
    rw [e1] at q
    cases r with
    | error x => exact q
    | ok ds =>
      intro H1 x1 E1 vs rv
      have q : Post C W σ ρ (oE C σ ρ Q) H (match g ds with | none => none | some r => some (r, δ')) := q
      cases e2 : g ds with
      | none => rw [e2] at q; exact q.elim
      | some z =>
        rw [e2] at q
        refine ⟨ds, Av C σ ρ, F.len ds z e2, av_fr E1, E1.tb, by rw [hK]; exact rv, ?_⟩
        rw [e2]
        cases z with
        | ok d =>
          intro v H' sm st r'
          rw [hK] at r'
          exact q H' (x1.trans (extN_ext sm)) (E1.growN sm st) v r'
        | error y => exact fun H' sm st => ⟨y, rfl, rfl, q H' (x1.trans (extN_ext sm)) (E1.growN sm st)⟩
/-- a def that throws the dice -/
theorem pd_callD (i : Nat) {g : Fd} {y : Str} {p1 : Pos} (F : FnD X.prog X.w X.K X.mg X.base C.T x k n g) (hr : Room k X.A) (hK : X.K = C.K) (tk : L2N.Takes X (WXof cl W)) (ha : PA X es (rdA C W fa)) (hg : Gl X x := by rfl) (hdb : (x == ("__debug__" : Str)) = false := by decide)
    (he : starEach (.Name y p1 :: es) X.env = (false, eval (.Name y p1) X.env) :: starEach es X.env := by rfl) (hpl : (backTo pos (starEach es X.env)).any (·.1) = false := by rfl)
    (hN : X.N[i]? = some y := by rfl) (hv : Vis X.env.scope y := by first | exact Or.inl rfl | exact Or.inr (Or.inl rfl) | exact Or.inr (Or.inr rfl)) (hd : (y == ("__debug__" : Str)) = false := by decide) (hcd : (y == ("__classdict__" : Str)) = false := by decide) :
    PE X (.Call (.Name x p) (.Name y p1 :: es) [] pos) (rdE C W (dCallD i g fa)) := by
  obtain ⟨f, fd, ps, h1, hm, hk, hb⟩ := F.ex
  refine (pe_callS h1 hr hg hm hk hb (fun σ => L2N.passAt tk σ) (pa_cons (pe_var hN hv hd hcd) ha he) hdb he hpl).imp fun σ H Q ⟨ρ, δ, E, q⟩ => ?_
  unfold dCallD at q
  cases e0 : ρ[i]? with
  | none => rw [e0] at q; exact q.elim
  | some s =>
    rw [e0] at q
    cases s with
    | dice =>
      obtain ⟨ov, e', k'⟩ := E.slot i _ e0
      cases ov with
      | none => exact k'.elim
      | some v0 =>
        obtain ⟨dc, hdc, rfl⟩ := k'
        refine ⟨_, e', ρ, δ, E, ?_⟩
        cases e1 : fa ρ δ with
        | none => rw [e1] at q; exact q.elim
        | some r =>
          obtain ⟨r, δ'⟩ := r
          rw [e1] at q
          cases r with
          | error x => exact q
          | ok ds =>
            intro H1 x1 E1 vs rv
            have q : Post C W σ ρ (oE C σ ρ Q) H (match g ds δ' with | none => none | some (d, δ') => some (.ok d, δ')) := q
            cases e2 : g ds δ' with
            | none => rw [e2] at q; exact q.elim
            | some z =>
              obtain ⟨d, δ''⟩ := z
              rw [e2] at q
              refine ⟨dc, vs, ds, Av C σ ρ, δ', rfl, F.len ds δ' _ e2, (E1.dc dc hdc).1, fun z => (E1.dc dc hdc).2.1 z.1, av_fr E1, E1.tb, by rw [hK]; exact rv, ?_⟩
              rw [e2]
              intro v H' sm hd' st r'
              rw [hK] at r'
              have x2 : Ext C H1 H' := fun a o h1 n h2 => sm a o (fun z => h1 (by rw [z]; exact hdc)) n h2
              exact q H' (x1.trans x2) (E1.grow x2 (fun a h => by
                rw [hdc] at h
                cases h
                exact hd') st) v r'
    | _ => exact q.elim
end
/-! ### from a body to a def -/
theorem okN {P : Program} {w : World} {K : Fg} {mg : Str → Option Value} {base : Heap} {x qual : Str} {st : Stmt} {f : Addr} {fd : FuncData} {N ps : List Str} {k : Nat} {sp : Sp} (F : Fun K x qual st f fd) (S : FnScope N ps (defScope st)) (hl : ∀ vs H Q E, sp vs H Q E → vs.length = ps.length)
    (hw : ∀ (cdv : Value) (A : Around) (outer : List Env) (s : Shared) (H : Hp) (vs : List V) (Q : VK) (E : XK), Room k (A.deeper (envOfC qual (defScope st) s.heap.objs.size f cdv)) → sp vs H Q E →
      ∃ t, PSs (cxOf (L2N.CX P w) P w K mg base N qual (defScope st) f cdv A outer s H E) (defBody st) t ∧ t { nx := fun _ H' => Q .non H', rt := Q } (L2.start N vs) H) : FnOk P w K mg base (L2N.CX P w) (k + 1) f fd ps sp := by
  obtain ⟨_, _, _, _, _, _, c, _, _, rfl, h1, h2⟩ := F.ex
  exact fn_of h1 h2 S hl fun A outer s H vs Q E r q => hw c A outer s H vs Q E r q
@[simp] def startR (N n : Nat) (ds : List D) : Rho := ds.map .val ++ List.replicate (N - n) .un
@[simp] def run (N n : Nat) (body : DS) : Fs := fun ds => if ds.length = n then (match body (startR N n ds) (0, 0) with
  | some (.ret d, _) => some (.ok d)
  | some (.nx _, _) => some (.ok .none)
  | some (.exc x, _) => some (.error x)
  | _ => none) else none
@[simp] def runD (N n : Nat) (body : DS) : Fd := fun ds δ => if ds.length = n then (match body (.dice :: startR (N - 1) n ds) δ with
  | some (.ret d, δ') => some (d, δ')
  | some (.nx _, δ') => some (.none, δ')
  | _ => none) else none
theorem run_len {N n : Nat} {body : DS} {ds : List D} {r : Except String D} (h : run N n body ds = some r) : ds.length = n := by
  unfold run at h
  by_cases hl : ds.length = n
  · exact hl
  · rw [if_neg hl] at h
    cases h
theorem runD_len {N n : Nat} {body : DS} {ds : List D} {δ : Dl} {r : D × Dl} (h : runD N n body ds δ = some r) : ds.length = n := by
  unfold runD at h
  by_cases hl : ds.length = n
  · exact hl
  · rw [if_neg hl] at h
    cases h
theorem start_slot {C : Ct} {H : Hp} {A : Addr → Prop} {N n : Nat} {ds : List D} {vs : List V} (r : RepL C.K H A ds vs) (hl : ds.length = n) {i : Nat} {s : Sl} (h : (startR N n ds)[i]? = some s) :
    ∃ ov, (vs.map some ++ List.replicate (N - vs.length) none)[i]? = some ov ∧ SlotOk C H A s ov ∧ s.isOwn = false := by
  have hv := r.length
  unfold startR at h
  by_cases hi : i < ds.length
  · rw [List.getElem?_append_left (by simpa using hi), List.getElem?_map, List.getElem?_eq_getElem hi] at h
    cases h
    obtain ⟨u, h1, h2⟩ := r.get (List.getElem?_eq_getElem hi)
    refine ⟨some u, ?_, h2, rfl⟩
    rw [List.getElem?_append_left (by rw [List.length_map]; omega), List.getElem?_map, h1]
    rfl
  · rw [List.getElem?_append_right (by simpa using hi), List.getElem?_replicate] at h
    split at h
    · cases h
      rename_i hh
      rw [List.length_map] at hh
      refine ⟨none, ?_, trivial, rfl⟩
      rw [List.getElem?_append_right (by rw [List.length_map]; omega), List.getElem?_replicate, List.length_map, if_pos (by omega)]
    · cases h
section
variable {P : Program} {w : World} {K : Fg} {mg : Str → Option Value} {base : Heap} {x qual : Str} {st : Stmt} {f : Addr} {fd : FuncData} {N ps : List Str} {k : Nat} {cl : String → Addr} {T : List (Addr × Str)} {body : DS}
theorem fnP (F : Fun K x qual st f fd) (S : FnScope N ps (defScope st)) (hm : mg x = some (.ref f)) (hb : Binds K fd ps []) (cl : String → Addr) (T : List (Addr × Str))
    (hbody : ∀ (cdv : Value) (A : Around) (outer : List Env) (s : Shared) (H : Hp) (E : XK) (S : Addr → Prop) (H0 : Hp) (dc : Option Addr) (W : Wx), Room k (A.deeper (envOfC qual (defScope st) s.heap.objs.size f cdv)) →
      L2N.Takes (cxOf (L2N.CX P w) P w K mg base N qual (defScope st) f cdv A outer s H E) (WXof cl W) → PSs (cxOf (L2N.CX P w) P w K mg base N qual (defScope st) f cdv A outer s H E) (defBody st) (rdS ⟨K, S, H0, dc, T⟩ W body)) :
    FnP P w K mg base cl T x (k + 1) ps.length (run N.length ps.length body) := by
  refine ⟨⟨f, fd, ps, okN F S (fun vs H Q E ⟨ds, _, hl, _, _, r, _⟩ => by rw [← r.length]; exact hl) (fun cdv A outer s H vs Q E hr ⟨ds, A0, hl, hf, ht, r, q⟩ => ?_), hm, F.kp, hb⟩, fun ds r e => run_len e⟩
  let C : Ct := ⟨K, A0, H, none, T⟩
  let W : Wx := fun x σ H' => E (.ref (cl x)) none H'
  have tk : L2N.Takes (cxOf (L2N.CX P w) P w K mg base N qual (defScope st) f cdv A outer s H E) (WXof cl W) := (L2N.takes_of (E := E) rfl rfl rfl rfl).imp fun c d σ H' ⟨y, e1, e2, z⟩ => by
    rw [e1, e2]
    exact z
  refine ⟨_, hbody cdv A outer s H E A0 H none W hr tk, startR N.length ps.length ds, (0, 0), ?_, ?_⟩
  · have hv := r.length
    have noown : ∀ a, ¬ Own (start N vs) (startR N.length ps.length ds) a := fun a ⟨i, s, h1, h2, h3⟩ => by
      obtain ⟨_, _, _, z⟩ := start_slot (C := C) (H := H) (A := A0) r hl h1
      rw [z] at h2
      cases h2
    refine ⟨?_, fun i s h => ?_, fun i j s t v h1 _ h3 _ _ _ => ?_, fun _ _ _ _ h => h, fun a h => (nomatch h), hf, ht⟩
    · unfold L2.start startR
      simp only [List.length_append, List.length_map, List.length_replicate]
      omega
    · obtain ⟨ov, h1, h2, _⟩ := start_slot (C := C) (H := H) (A := A0) r hl h
      exact ⟨ov, h1, h2.widen fun a z => ⟨z, noown a⟩⟩
    · obtain ⟨_, _, _, z⟩ := start_slot (C := C) (H := H) (A := A0) r hl h1
      rw [z] at h3
      cases h3
  · have hS : ∀ {H'}, Ext C C.H0 H' → ExtN H H' := fun x a o h n => x a o (fun z => nomatch z) n h
    unfold run at q
    rw [if_pos hl] at q
    revert q
    cases body (startR N.length ps.length ds) (0, 0) with
    | none => exact fun q => q
    | some r =>
      obtain ⟨r, δ'⟩ := r
      cases r with
      | nx ρ' => exact fun q σ' H' E' s' => q .non H' (hS E'.ext) E'.tb .non
      | ret d => exact fun q v H' x _ t r => q v H' (hS x) t r
      | exc y => exact fun q σ' H' x _ t => q H' (hS x) t
      | brk ρ' => exact fun q => q.elim
      | ct ρ' => exact fun q => q.elim
end
end G8

set_option Elab.async false
set_option linter.all false
set_option maxRecDepth 100000
set_option maxHeartbeats 1000000
namespace G8
open PySem PySem.Spec PyProof.Rows L2 LamX
section
variable {P : Program} {w : World} {K : Fg} {mg : Str → Option Value} {base : Heap} {x qual : Str} {st : Stmt} {f : Addr} {fd : FuncData} {N ps : List Str} {k : Nat} {cl : String → Addr} {body : DS}
theorem fnD (F : Fun K x qual st f fd) {y : Str} (S : FnScope N (y :: ps) (defScope st)) (hm : mg x = some (.ref f)) (hb : Binds K fd (y :: ps) []) (cl : String → Addr) (T : List (Addr × Str))
    (hbody : ∀ (cdv : Value) (A : Around) (outer : List Env) (s : Shared) (H : Hp) (E : XK) (S : Addr → Prop) (H0 : Hp) (dc : Option Addr) (W : Wx), Room k (A.deeper (envOfC qual (defScope st) s.heap.objs.size f cdv)) →
      L2N.Takes (cxOf (L2N.CX P w) P w K mg base N qual (defScope st) f cdv A outer s H E) (WXof cl W) → PSs (cxOf (L2N.CX P w) P w K mg base N qual (defScope st) f cdv A outer s H E) (defBody st) (rdS ⟨K, S, H0, dc, T⟩ W body)) :
    FnD P w K mg base T x (k + 1) ps.length (runD N.length ps.length body) := by
  have hNl : (y :: ps).length ≤ N.length := by
    have := congrArg List.length S.pre
    rw [List.length_take] at this
    omega
  refine ⟨⟨f, fd, y :: ps, okN F S (fun vs H Q E ⟨dc, rest, ds, _, δ, e, hl, _, _, _, _, r, _⟩ => by rw [e, List.length_cons, List.length_cons, ← r.length, hl]) (fun cdv A outer s H vs Q E hr ⟨dc, rest, ds, A0, δ, ev, hl, hdc, hT, hf, ht, r, q⟩ => ?_), hm, F.kp, hb⟩, fun ds δ r e => runD_len e⟩
  subst ev
  let C : Ct := ⟨K, A0, H, some dc, T⟩
  let W : Wx := fun _ _ _ => False
  have tk : L2N.Takes (cxOf (L2N.CX P w) P w K mg base N qual (defScope st) f cdv A outer s H E) (WXof cl W) := (L2N.takes_of (E := E) rfl rfl rfl rfl).imp fun c d σ H' ⟨y, e1, e2, z⟩ => z.elim
  have hv := r.length
  have eσ : L2.start N (.ref dc :: rest) = some (.ref dc) :: (rest.map some ++ List.replicate (N.length - 1 - rest.length) none) := by
    unfold L2.start
    rw [List.map_cons, List.cons_append, List.length_cons]
    congr 3
    omega
  refine ⟨_, hbody cdv A outer s H E A0 H (some dc) W hr tk, .dice :: startR (N.length - 1) ps.length ds, δ, ?_, ?_⟩
  · rw [eσ]
    have noown : ∀ a, ¬ Own (some (V.ref dc) :: (rest.map some ++ List.replicate (N.length - 1 - rest.length) none)) (.dice :: startR (N.length - 1) ps.length ds) a := fun a ⟨i, s, h1, h2, h3⟩ => by
      cases i with
      | zero =>
        cases h1
        cases h2
      | succ i =>
        obtain ⟨_, _, _, z⟩ := start_slot (C := C) (H := H) (A := A0) r hl h1
        rw [z] at h2
        cases h2
    refine ⟨?_, fun i s h => ?_, fun i j s t v h1 _ h3 _ _ _ => ?_, fun _ _ _ _ h => h, fun a h => ?_, hf, ht⟩
    · unfold startR
      simp only [List.length_cons, List.length_append, List.length_map, List.length_replicate]
      omega
    · cases i with
      | zero =>
        cases h
        exact ⟨_, rfl, dc, rfl, rfl⟩
      | succ i =>
        obtain ⟨ov, h1, h2, _⟩ := start_slot (C := C) (H := H) (A := A0) r hl h
        exact ⟨ov, h1, h2.widen fun a z => ⟨z, noown a⟩⟩
    · cases i with
      | zero =>
        cases h1
        cases h3
      | succ i =>
        obtain ⟨_, _, _, z⟩ := start_slot (C := C) (H := H) (A := A0) r hl h1
        rw [z] at h3
        cases h3
    · have h : some dc = some a := h
      cases h
      exact ⟨hdc, hT, _, nt_dice, hdc⟩
  · unfold runD at q
    rw [if_pos hl] at q
    have hS : ∀ {H'}, Ext C C.H0 H' → ∀ a o, a ≠ dc → nt o → H a = some o → H' a = some o := fun x a o hn n h => x a o (fun z => hn (Option.some.inj z).symm) n h
    revert q
    cases body (.dice :: startR (N.length - 1) ps.length ds) δ with
    | none => exact fun q => q
    | some r =>
      obtain ⟨r, δ'⟩ := r
      cases r with
      | nx ρ' => exact fun q σ' H' E' s' => q .non H' (hS E'.ext) (E'.dc dc rfl).1 E'.tb .non
      | ret d => exact fun q v H' x hd t r => q v H' (hS x) (hd dc rfl) t r
      | exc y => exact fun q => q.elim
      | brk ρ' => exact fun q => q.elim
      | ct ρ' => exact fun q => q.elim
end
/-! ### the dice -/
@[simp] def dDice (i : Nat) (j : Bool) : DE := fun ρ δ => match ρ[i]? with
  | some .dice => some (.ok (.int (if j then δ.2 else δ.1)), δ)
  | _ => none
@[simp] def sDice (i : Nat) (j : Bool) (f : DE) : DS := fun ρ δ => match ρ[i]? with
  | some .dice => bndS (f ρ δ) fun d δ => (match d with
    | .int n => some (.nx ρ, if j then (δ.1, n) else (n, δ.2))
    | _ => none)
  | _ => none
section
variable {X : Cx} {C : Ct} {W : Wx} {e a b : Expr} {es : List Expr} {f g h : DE} {pos p p1 p2 : Pos} {σ : L2.St} {ρ : Rho} {δ : Dl} {H H1 : Hp} {K : Fg}
theorem pd_dice (i : Nat) (j : Bool) {x : Str} {k : Nat} (hK : X.K = C.K) (hN : X.N[i]? = some x := by rfl) (hv : Vis X.env.scope x := by first | exact Or.inl rfl | exact Or.inr (Or.inl rfl) | exact Or.inr (Or.inr rfl)) (hd : (x == ("__debug__" : Str)) = false := by decide) (hcd : (x == ("__classdict__" : Str)) = false := by decide) :
    PE X (.Subscript (.Name x p1) (.Constant (.int (if j then 1 else 0)) k p2) pos) (rdE C W (dDice i j)) := (pe_ix ix_list (pe_var hN hv hd hcd) pe_int (fun _ _ => rfl)).imp fun σ H Q ⟨ρ, δ, E, q⟩ => by
  rw [hK]
  unfold dDice at q
  cases e0 : ρ[i]? with
  | none => rw [e0] at q; exact q.elim
  | some s =>
    rw [e0] at q
    cases s with
    | dice =>
      obtain ⟨ov, e', k'⟩ := E.slot i _ e0
      cases ov with
      | none => exact k'.elim
      | some v0 =>
        obtain ⟨dc, hdc, rfl⟩ := k'
        have h1 := (E.dc dc hdc).1
        cases j with
        | true => exact ⟨_, e', dc, _, 1, .int δ.2, rfl, rfl, .inl (.inl h1), rfl, q.val E _ (.int _)⟩
        | false => exact ⟨_, e', dc, _, 0, .int δ.1, rfl, rfl, .inl (.inl h1), rfl, q.val E _ (.int _)⟩
    | _ => exact q.elim
theorem s_dice (i : Nat) (j : Bool) {x : Str} {k : Nat} (he : PE X e (rdE C W f)) (hN : X.N[i]? = some x := by rfl) (hv : Vis X.env.scope x := by first | exact Or.inl rfl | exact Or.inr (Or.inl rfl) | exact Or.inr (Or.inr rfl)) (hd : (x == ("__debug__" : Str)) = false := by decide) (hcd : (x == ("__classdict__" : Str)) = false := by decide)
    (hs : swapsWithSole [.Subscript (.Name x p1) (.Constant (.int (if j then 1 else 0)) k p2) p] e pos.line X.env = pure false := by rfl) (hw : swappedStores [.Subscript (.Name x p1) (.Constant (.int (if j then 1 else 0)) k p2) p] e X.env = pure none := by rfl) :
    PS X (.Assign [.Subscript (.Name x p1) (.Constant (.int (if j then 1 else 0)) k p2) p] e pos) (rdS C W (sDice i j f)) := (ps_asg he (pg_sub (pe_var hN hv hd hcd) pe_int set_list) hs hw).imp fun D σ H ⟨ρ, δ, E, q⟩ => by
  unfold sDice at q
  cases e0 : ρ[i]? with
  | none => rw [e0] at q; exact q.elim
  | some s =>
    rw [e0] at q
    cases s with
    | dice =>
      obtain ⟨ov, e', k'⟩ := E.slot i _ e0
      cases ov with
      | none => exact k'.elim
      | some v0 =>
        obtain ⟨dc, hdc, rfl⟩ := k'
        have q : PostS C W D σ ρ H (bndS (f ρ δ) fun d δ => (match d with
          | .int n => some (.nx ρ, if j then (δ.1, n) else (n, δ.2))
          | _ => none)) := q
        refine ⟨ρ, δ, E, (q.seqE E).mono fun d δ1 H1 x1 E1 r v rv => ?_⟩
        have r := r.1
        have h1 := (E1.dc dc hdc).1
        cases rv with
        | int n =>
          have fin : ∀ δ2 : Dl, PostS C W D σ ρ H1 (some (.nx ρ, δ2)) → D.nx σ (upd H1 dc (diceO δ2)) := fun δ2 r => by
            have x2 : Ext C H1 (upd H1 dc (diceO δ2)) := fun a o hn _ h => by
              rw [upd_ne]
              · exact h
              · rintro rfl
                exact hn hdc
            have E2 : EnvOk C (upd H1 dc (diceO δ2)) σ ρ δ2 := E1.grow x2 (fun a h => by
              rw [hdc] at h
              cases h
              exact upd_same) (tabs_upd E1.tb h1 pl_lst)
            exact r σ _ E2 (Step.of_ext E1 x2 E2)
          cases j with
          | true => exact ⟨_, e', dc, _, 1, 1, rfl, rfl, h1, rfl, fin (δ1.1, n) r⟩
          | false => exact ⟨_, e', dc, _, 0, 0, rfl, rfl, h1, rfl, fin (n, δ1.2) r⟩
        | _ => exact r.elim
    | _ => exact q.elim
/-! ### sorted of ints, int(..) -/
def insI (x : Int) : List Int → List Int
  | [] => [x]
  | y :: r => if x ≤ y then x :: y :: r else y :: insI x r
def isort : List Int → List Int
  | [] => []
  | x :: r => insI x (isort r)
theorem insI_perm (x : Int) : ∀ l : List Int, (insI x l).Perm (x :: l)
  | [] => .refl _
  | y :: r => by
    unfold insI
    split
    · exact .refl _
    · exact ((insI_perm x r).cons y).trans (.swap x y r)
theorem isort_perm : ∀ l : List Int, (isort l).Perm l
  | [] => .refl _
  | x :: r => (insI_perm x (isort r)).trans ((isort_perm r).cons x)
theorem insI_sorted (x : Int) : ∀ {l : List Int}, l.Pairwise (· ≤ ·) → (insI x l).Pairwise (· ≤ ·)
  | [], _ => List.pairwise_singleton _ _
  | y :: r, h => by
    unfold insI
    rw [List.pairwise_cons] at h
    split
    · rename_i hx
      rw [List.pairwise_cons, List.pairwise_cons]
      refine ⟨fun z hz => ?_, h⟩
      rcases List.mem_cons.mp hz with e | hz
      · rw [e]; exact hx
      · exact Int.le_trans hx (h.1 z hz)
    · rename_i hx
      rw [List.pairwise_cons]
      refine ⟨fun z hz => ?_, insI_sorted x h.2⟩
      rcases List.mem_cons.mp ((insI_perm x r).mem_iff.mp hz) with e | hz
      · rw [e]; omega
      · exact h.1 z hz
theorem isort_sorted : ∀ l : List Int, (isort l).Pairwise (· ≤ ·)
  | [] => List.Pairwise.nil
  | x :: r => insI_sorted x (isort_sorted r)
def gSorted : List D → Option (List D)
  | [.list ds] => (asInts ds).map fun ns => (isort ns).map .int
  | [.tuple ds] => (asInts ds).map fun ns => (isort ns).map .int
  | _ => none
theorem c_sorted {X : Cx} : CallR X (.builtin "sorted") (fun xs H Q => rSortedI X.K xs H Q ∨ rSortedTI X.K xs H Q) := fun pins s σ H xs us Q I r h => h.elim (cr_sortedI pins s σ H xs us Q I r) (cr_sortedTI pins s σ H xs us Q I r)
theorem k_sorted : RCFk K (fun xs H Q => rSortedI K xs H Q ∨ rSortedTI K xs H Q) gSorted := fun A H xs ds z Q hf r hz q => by
  cases r with
  | nil => cases hz
  | cons r1 r2 =>
    cases r2 with
    | cons _ _ => cases r1 <;> cases hz
    | nil =>
      cases r1 with
      | lst a1 h1 l =>
        rename_i ds
        have hz : (asInts ds).map (fun ns => (isort ns).map PyData.int) = some z := hz
        cases e1 : asInts ds with
        | none => rw [e1] at hz; cases hz
        | some ns =>
          rw [e1] at hz
          cases hz
          rw [asInts_eq e1] at l
          have v1 := repL_ints l
          subst v1
          refine .inl ⟨_, ns, rfl, .inl (.inl h1), fun ns' p hp hs hn => ?_⟩
          have e : ns' = isort ns := PySem.W.ksm_same (hp.trans (isort_perm ns).symm) hs (isort_sorted ns)
          subst e
          exact q p _ _ hn (same_new hn) upd_same (repL_of_ints _)
      | tup h1 l =>
        rename_i ds
        have hz : (asInts ds).map (fun ns => (isort ns).map PyData.int) = some z := hz
        cases e1 : asInts ds with
        | none => rw [e1] at hz; cases hz
        | some ns =>
          rw [e1] at hz
          cases hz
          rw [asInts_eq e1] at l
          have v1 := repL_ints l
          subst v1
          refine .inr ⟨_, ns, rfl, h1, fun ns' p hp hs hn => ?_⟩
          have e : ns' = isort ns := PySem.W.ksm_same (hp.trans (isort_perm ns).symm) hs (isort_sorted ns)
          subst e
          exact q p _ _ hn (same_new hn) upd_same (repL_of_ints _)
      | _ => cases hz
@[simp] def gInt : List D → Option D
  | [.int i] => some (.int i)
  | [.bool b] => some (.int (if b then 1 else 0))
  | _ => none
theorem k_int : RCOk K (fun xs H Q => (∃ i, xs = [.int i] ∧ Q (.int i) H) ∨ ∃ k, xs = [.bl k] ∧ Q (.int (if k then 1 else 0)) H) gInt := fun A H xs ds z Q hf r hz q => by
  cases r with
  | nil => cases hz
  | cons r1 r2 =>
    cases r2 with
    | cons _ _ => cases r1 <;> cases hz
    | nil =>
      cases r1 with
      | int i =>
        cases hz
        exact .inl ⟨_, rfl, q _ H (Same.refl H) (.int _)⟩
      | bl b =>
        cases hz
        exact .inr ⟨_, rfl, q _ H (Same.refl H) (.int _)⟩
      | _ => cases hz
/-- isinstance(e, T), T a built-in class -/
@[simp] def gIsi (g : D → Bool) (d : D) : Option D := if d.plain = true then some (.bool (g d)) else none
def IsiOk (X : Cx) (T : String) (g : D → Bool) : Prop := ∀ (s : Shared) (v : Value) (d : D) (as : List Addr) (Q : Value → Shared → Prop), Reads s.heap v d as → (∀ tk, s.toks ≤ tk → Q (.bool (g d)) { s with toks := tk }) → wpAny (model X.prog X.w) X.A (call (.builtin "isinstance") [v, .type T]) Q X.xe s
theorem isi_int : IsiOk X "int" PyData.isInt := fun _ _ _ _ _ r h => PySem.W.isinstance_int_data r h
theorem isi_bool : IsiOk X "bool" PyData.isBool := fun _ _ _ _ _ r h => PySem.W.isinstance_bool_data r h
theorem isi_tuple : IsiOk X "tuple" PyData.isTuple := fun _ _ _ _ _ r h => PySem.W.isinstance_tuple_data r h
theorem isi_list : IsiOk X "list" PyData.isList := fun _ _ _ _ _ r h => PySem.W.isinstance_list_data r h
theorem isi_str : IsiOk X "str" PyData.isStr := fun _ _ _ _ _ r h => PySem.W.isinstance_str_data r h
def rIsi (K : Fg) (T : String) (g : D → Bool) : List V → Hp → VK → Prop := fun xs H Q => ∃ x d, xs = [x, .ty T] ∧ Dp K H x d ∧ Q (.bl (g d)) H
theorem c_isi {T : String} {g : D → Bool} (h : IsiOk X T g) : CallR X (.builtin "isinstance") (rIsi X.K T g) := by
  intro pins s σ H xs us Q I r q
  obtain ⟨x, d, rfl, hd, q⟩ := q
  cases r with
  | cons r1 r2 =>
    cases r2 with
    | cons r2 r3 =>
      cases r3
      cases r2
      obtain ⟨as, rd⟩ := Dp.reads I d x _ hd r1
      exact h s _ d as _ rd fun tk _ => ⟨.bl _, H, I.tok tk, rfl, q⟩
theorem pd_isi {T : String} {g : D → Bool} {y : Str} (h : IsiOk X T g) (hmi : X.mg "isinstance" = none) (hmT : X.mg y = none) (hv : bootBuiltins y = some (.type T)) (he : PE X e (rdE C W f)) (hK : X.K = C.K) (hgi : Gl X "isinstance" := by rfl) (hgT : Gl X y := by rfl) (hn : y ≠ "__name__" := by decide) (hdb : (y == ("__debug__" : Str)) = false := by decide)
    (hs : starEach [e, .Name y p1] X.env = (false, eval e X.env) :: starEach [.Name y p1] X.env := by rfl) :
    PE X (.Call (.Name "isinstance" p) [e, .Name y p1] [] pos) (rdE C W (d1 (gIsi g) f)) := by
  refine (pe_callB (c_isi h) hgi hmi PyProof.Rows.boot_isinstance (pa_cons he (pa_cons (pe_bltn (v := .ty T) hgT hmT hv rfl hn hdb) pa_nil) hs) (he := hs)).imp fun σ H Q ⟨ρ, δ, E, q⟩ => ?_
  rw [hK]
  refine ⟨ρ, δ, E, (q.seq anti_E).mono fun d δ1 H1 x1 E1 q v rv => ?_⟩
  obtain ⟨z, ez, q⟩ := q.lft
  obtain ⟨hp, rfl⟩ := ite_some ez
  exact ⟨v, d, rfl, rv.dpP hp, q H1 Ext.refl E1 _ (.bl _)⟩
end
/-! ### what the module leaves alone of the built-ins -/
structure Bt (mg : Str → Option Value) : Prop where
  len : mg "len" = none
  min : mg "min" = none
  max : mg "max" = none
  sum : mg "sum" = none
  all : mg "all" = none
  any : mg "any" = none
  sorted : mg "sorted" = none
  list : mg "list" = none
  tuple : mg "tuple" = none
  set : mg "set" = none
  int : mg "int" = none
  bool : mg "bool" = none
  str : mg "str" = none
  range : mg "range" = none
  zip : mg "zip" = none
  enumerate : mg "enumerate" = none
  isinstance : mg "isinstance" = none
theorem ru {k : Nat} {A : Around} (r : Room k A) : A.units + 65 < cLine := by
  have := r.un
  omega
theorem ru64 {k : Nat} {A : Around} (r : Room k A) : A.units + 64 < cLine := by
  have := r.un
  omega
theorem ru0 {k : Nat} {A : Around} (r : Room k A) : A.units < cLine := by
  have := r.un
  omega
theorem tk0 {X : Cx} {cl : String → Addr} (h : X.xe = fun _ _ => False) : L2N.Takes X (WXof cl W0) := fun u s' x => by
  obtain ⟨_, _, _, _, _, _, _, _, _, _, _, _, _, _, _, _, _, _, _, z⟩ := x
  exact z.elim
/-- a statement that is never come to -/
@[simp] def sNever : DS := fun _ _ => none
theorem s_never {X : Cx} {C : Ct} {W : Wx} {st : Stmt} : PS X st (rdS C W sNever) := ps_never.imp fun _ _ _ ⟨_, _, _, p⟩ => p
end G8

set_option Elab.async false
set_option linter.all false
set_option maxRecDepth 100000
set_option maxHeartbeats 3200000
namespace G8
open PySem PySem.Spec PyProof.Rows L2 LamX
section
variable {P : Program} {w : World} {A : Around} {E : Value → Shared → Prop} {s : Shared}
abbrev setObj (w : World) : Obj := { cls := .type "set", dict := none, data := .set #[] 0 (.fresh 0 0 (!w.params.followText "set-order")) }
/-- set(xs), xs a list of ints -/
theorem set_of_list {l : Addr} {items : Array Value} (ns : List Int) {Q : Value → Shared → Prop} (hh : A.handled = none) (hl : s.heap.IsList l items) (hit : IntsAre items.toList ns) (hb : ns.length + 1 < scanBound)
    (hQ : ∀ (h' : Heap) (tk c : Nat), SetR w h' s.heap.objs.size (fun j => decide (j ∈ ns)) c → c ≤ ns.length → (∀ b o, s.heap.get? b = some o → h'.get? b = some o) → Q (.ref s.heap.objs.size) { s with heap := h', toks := tk }) :
    wpAny (model P w) A (call (.type "set") [.ref l]) Q E s := by
  have len_eq : items.size = ns.length := by simpa using IntsAre.length hit
  obtain ⟨_, _, mro⟩ := F.called_set.mro
  have made := F.called_set.made
  have sub := F.called_set.sub
  have notT := F.called_set.notType
  have canC := F.called_set.canCreate
  have tcall := F.typeCall_set_1 (.ref l)
  refine wpAny_call (codeAny_of_tree ?_)
  show wpAny _ _ (callAny (.type "set") _) _ _ _
  refine wpAny_pure ⟨Code.quiet_builtin _ (by decide +kernel), codeAny_builtin F.entry_type_call ?_⟩
  rw [Around.under_plain (weight_type_call_type "set" [.ref l] []) rfl]
  repeat (any_goals (first | assumption | wp_step))
  refine codeAny_mono (code_set_led1 (.ref l) (E := E) (Q₁ := fun v t => v = .ref s.heap.objs.size ∧ t = { s with heap := s.heap.push (setObj w) }) ⟨rfl, rfl⟩) fun r t hr => ?_
  match r, hr with
  | .error _, hr => exact hr
  | .ok (.ret _), hr =>
    obtain ⟨rfl, rfl⟩ := hr
    have atS : (s.heap.push (setObj w)).get? s.heap.objs.size = some (setObj w) := Heap.get?_push_size _ rfl
    have tyS : Shared.TypeIs { s with heap := s.heap.push (setObj w) } (.ref s.heap.objs.size) "set" := ⟨_, atS, rfl⟩
    have ini := F.called_set.init.lookup
    have bnd' := F.called_set.init.bind (.ref s.heap.objs.size)
    repeat (any_goals (first | assumption | wp_step))
    refine codeAny_mono (codeAny_call_builtin (R := wants (fun v t => v = .none ∧ ∃ h' tk c, t = { s with heap := h', toks := tk } ∧ SetR w h' s.heap.objs.size (fun j => decide (j ∈ ns)) c ∧ c ≤ ns.length ∧
      (∀ b o, s.heap.get? b = some o → h'.get? b = some o)) E) F.called_set.init.plain F.entry_set_init (check_set_init_1 tyS ?_)) fun r2 t2 hr2 => ?_
    · obtain ⟨⟨oc, od, odt, osl⟩, hol, hcl, nl, hdl⟩ := hl
      simp only at hcl hdl
      subst hcl hdl
      have hol2 : (s.heap.push (setObj w)).get? l = some { cls := .type "list", dict := od, data := .seq items nl, slots := osl } := Heap.get?_push_of_some _ hol
      have ns1 := F.sub_list_set
      have ns2 := F.sub_list_frozenset
      have nd : (Value.type "list" == Value.type "dict") = false := by decide
      have hl1 : (s.heap.push (setObj w)).IsList l items := ⟨_, hol2, rfl, nl, rfl⟩
      unfold Builtin.«set.__init__» noKeywords Builtin.Frozenset.updateFrom
      generalize hPI : pyIter = PI
      wp_walk
      subst hPI
      refine wpAny_pyIter_list hl1 (wpAny_bind (wpAny_runValue ?_))
      have lt0 : l < s.heap.objs.size := Heap.lt_size hol
      have sz1 : (s.heap.push (setObj w)).objs.size = s.heap.objs.size + 1 := Heap.size_push ..
      have ne1 : l ≠ (s.heap.push (setObj w)).objs.size := by rw [sz1]; exact Nat.ne_of_lt (Nat.lt_succ_of_lt lt0)
      have nS : s.heap.objs.size ∉ [(s.heap.push (setObj w)).objs.size, l] := by
        rw [sz1]
        intro z
        rcases List.mem_cons.mp z with z | z
        · exact absurd z (Nat.ne_of_lt (Nat.lt_succ_self _))
        · exact absurd (List.mem_singleton.mp z) (Nat.ne_of_gt lt0)
      have vals : ∀ (i : Nat) (v : Value), items[i]? = some v → ∃ k t, ns[i]? = some k ∧ v = .int k t := fun i v hv => by
        have hi : i < ns.length := len_eq ▸ (Array.getElem?_eq_some_iff.mp hv).1
        obtain ⟨t, e⟩ := PyProof.Rows.IntsAre.int_at hit i v (by rw [Array.getElem?_toList]; exact hv)
        exact ⟨ns[i], t, List.getElem?_eq_getElem hi, by rw [e, List.getD_eq_getElem?_getD, List.getElem?_eq_getElem hi]; rfl⟩
      refine set_update_ints ((Walks.list (A := A.in1.in1.in1) (by simp [hh]) _ l ne1 items).toS) s.heap.objs.size nS ns len_eq hb vals (items.size - 0) 0 _ (by omega) (Nat.zero_le _) ⟨⟨_, Heap.get?_push_size _ rfl, rfl, rfl⟩, (hl1.push _)⟩ ⟨0, Nat.le_refl 0, setR_new_at (Heap.get?_push_of_some _ atS)⟩ fun t3 c3 mv hc3 hS3 => ?_
      obtain ⟨h3, g3, d3, k3, o3⟩ := t3
      obtain rfl : g3 = s.gens := mv.gens
      obtain rfl : d3 = s.drawn := mv.drawn
      obtain rfl : o3 = s.os := mv.os
      show wpAny _ _ _ _ _ _
      refine wpAny_pure ?_
      show wpAny _ _ (ret Value.none) _ _ _
      refine wpAny_pure ⟨rfl, h3, k3, c3, rfl, hS3, len_eq ▸ hc3, fun b o e => ?_⟩
      have lb : b < s.heap.objs.size := Heap.lt_size e
      refine mv.heap b o (fun z => ?_) (Heap.get?_push_of_some _ (Heap.get?_push_of_some _ e))
      rcases List.mem_cons.mp z with z | z
      · exact absurd z (Nat.ne_of_lt lb)
      · have z := List.mem_singleton.mp z
        rw [sz1] at z
        exact absurd z (Nat.ne_of_lt (Nat.lt_succ_of_lt lb))
    · match r2, hr2 with
      | .error _, hr2 => exact hr2
      | .ok (.ret _), hr2 =>
        obtain ⟨rfl, h', tk, c', rfl, hS', hc', hk'⟩ := hr2
        repeat (any_goals (first | assumption | wp_step))
        exact hQ _ _ _ hS' hc' hk'
      | .ok .next, hr2 => exact hr2.elim
      | .ok .brk, hr2 => exact hr2.elim
      | .ok .cont, hr2 => exact hr2.elim
  | .ok .next, hr => exact hr.elim
  | .ok .brk, hr => exact hr.elim
  | .ok .cont, hr => exact hr.elim
end
end G8

set_option Elab.async false
set_option linter.all false
set_option maxRecDepth 100000
set_option maxHeartbeats 3200000
namespace G8
open PySem PySem.Spec PyProof.Rows L2 LamX
/-- sorted(set(xs)): each once, rising -/
def insU (x : Int) : List Int → List Int
  | [] => [x]
  | y :: r => if x < y then x :: y :: r else if x = y then y :: r else y :: insU x r
def ssort : List Int → List Int
  | [] => []
  | x :: r => insU x (ssort r)
def gSS : List D → Option (List D)
  | [.list ds] => match asInts ds with
    | some ns => if ns.length < 64 then some ((ssort ns).map .int) else none
    | none => none
  | _ => none
section
variable {X : Cx} {C : Ct} {W : Wx} {e a b : Expr} {es : List Expr} {f : DE} {fa : DL} {pos p p1 p2 : Pos} {σ : L2.St} {ρ : Rho} {δ : Dl} {H H1 : Hp} {K : Fg}
theorem insU_mem (x k : Int) : ∀ l : List Int, k ∈ insU x l ↔ k = x ∨ k ∈ l
  | [] => by simp [insU]
  | y :: r => by
    unfold insU
    split
    · simp [List.mem_cons]
    · split
      · rename_i h
        subst h
        simp only [List.mem_cons]
        exact ⟨fun z => .inr z, fun z => z.elim .inl id⟩
      · simp only [List.mem_cons, insU_mem x k r]
        constructor
        · rintro (h | h | h)
          · exact .inr (.inl h)
          · exact .inl h
          · exact .inr (.inr h)
        · rintro (h | h | h)
          · exact .inr (.inl h)
          · exact .inl h
          · exact .inr (.inr h)
theorem insU_lt (x : Int) : ∀ {l : List Int}, l.Pairwise (· < ·) → (insU x l).Pairwise (· < ·)
  | [], _ => List.pairwise_singleton _ _
  | y :: r, h => by
    unfold insU
    rw [List.pairwise_cons] at h
    split
    · rename_i hx
      rw [List.pairwise_cons, List.pairwise_cons]
      refine ⟨fun z hz => ?_, h⟩
      rcases List.mem_cons.mp hz with e | hz
      · rw [e]; exact hx
      · exact Int.lt_trans hx (h.1 z hz)
    · split
      · rw [List.pairwise_cons]
        exact h
      · rw [List.pairwise_cons]
        refine ⟨fun z hz => ?_, insU_lt x h.2⟩
        rcases (insU_mem x z r).mp hz with e | hz
        · rw [e]; omega
        · exact h.1 z hz
theorem ssort_lt : ∀ ns : List Int, (ssort ns).Pairwise (· < ·)
  | [] => List.Pairwise.nil
  | x :: r => insU_lt x (ssort_lt r)
theorem ssort_mem : ∀ (ns : List Int) (k : Int), k ∈ ssort ns ↔ k ∈ ns
  | [], k => Iff.rfl
  | x :: r, k => by
    show k ∈ insU x (ssort r) ↔ _
    rw [insU_mem, ssort_mem r k, List.mem_cons]
theorem lt_unique {l m : List Int} (hl : l.Pairwise (· < ·)) (hm : m.Pairwise (· < ·)) (h : ∀ k, k ∈ l ↔ k ∈ m) : l = m := by
  have nl : l.Nodup := hl.imp fun h => Int.ne_of_lt h
  have nm : m.Nodup := hm.imp fun h => Int.ne_of_lt h
  have pm : l.Perm m := (List.perm_ext_iff_of_nodup nl nm).mpr h
  exact PySem.W.ksm_same pm (hl.imp fun h => Int.le_of_lt h) (hm.imp fun h => Int.le_of_lt h)
def rSSo (K : Fg) : V → Hp → VK → Prop := fun v H Q => ∃ (l : Addr) (ns : List Int), v = .ref l ∧ SqL K H l (ns.map V.int) ∧ ns.length < 64 ∧ ∀ p, H p = none → Q (.ref p) (upd H p (.lst ((ssort ns).map V.int)))
theorem pe_ss (hc : X.calm = true) (hm : X.mg "sorted" = none) (hm2 : X.mg "set" = none) {ta : TE} (ha : PE X a ta) (hg : Gl X "sorted" := by rfl) (hg2 : Gl X "set" := by rfl) (na : starEach [a] X.env = (false, eval a X.env) :: starEach [] X.env := by rfl) :
    PE X (.Call (.Name "sorted" p) [.Call (.Name "set" p1) [a] [] p2] [] pos) (tUn (rSSo X.K) ta) := by
  refine ⟨fun pins s σ H Q I h => ?_⟩
  refine Call_ (ld_blt I hg hm PyProof.Rows.boot_sorted ?_)
  refine PyProof.Rows.callWith_builtin1 (PyProof.Rows.args_cons ?_ rfl) rfl rfl
  refine Call_ (ld_blt I hg2 hm2 boot_set ?_)
  refine PyProof.Rows.callWith_type1 (PyProof.Rows.args_cons (thn (ha.run pins s σ H _ I h) fun v s1 ⟨x, H1, I1, r1, q1⟩ => PyProof.Rows.args_nil ?_) na) na rfl
  obtain ⟨l, ns, rfl, hq, hl, q⟩ := q1
  cases r1
  obtain ⟨its, r, pl, hz⟩ := I1.list hq
  refine set_of_list ns (I1.ok.hd hc) pl.isList (by simpa using r.ints) (by unfold scanBound; omega) fun h' tk c hS hc' hk => PyProof.Rows.args_nil ?_
  have I2 : L2.Inv X pins σ H1 { s1 with heap := h', toks := tk } := I1.kept hk
  refine sorted_set (s := { s1 with heap := h', toks := tk }) hS (I1.ok.hd hc) (by omega) fun s' p out cc ms k g o hp hg hi hs hmem hlen => ?_
  have em : ms = ssort ns := lt_unique hs (ssort_lt ns) fun j => by
    rw [hmem j, ssort_mem]
    simp
  subst em
  have hlen' : ((ssort ns).map V.int).length ≤ sizeLine := by rw [List.length_map, hlen, sizeLine_eq]; omega
  have hn : H1 p = none := I2.hok.fresh hp
  have J := I2.call (h' := s'.heap) (g' := s'.gens) (d' := s'.drawn) (t' := s'.toks) (H' := upd H1 p (.lst ((ssort ns).map V.int))) (ch := []) (Un.laid k hp hn) (I2.hok.laid k hp ⟨hlen', out.toList, cc, vals_of_ints hi, hg⟩) (by rw [g]; exact I2.bare) (fun _ z => nomatch z)
  have e : s' = { s1 with heap := s'.heap, gens := s'.gens, drawn := s'.drawn, toks := s'.toks } := by
    cases s'
    cases s1
    cases o
    rfl
  rw [e]
  exact ⟨.ref p, _, J, rfl, q p hn⟩
@[simp] def gSS1 : D → Option (List D)
  | .list ds => match asInts ds with
    | some ns => if ns.length < 64 then some ((ssort ns).map .int) else none
    | none => none
  | _ => none
theorem pd_ss (hc : X.calm = true) (hm : X.mg "sorted" = none) (hm2 : X.mg "set" = none) (ha : PE X a (rdE C W f)) (hK : X.K = C.K) (hg : Gl X "sorted" := by rfl) (hg2 : Gl X "set" := by rfl) (na : starEach [a] X.env = (false, eval a X.env) :: starEach [] X.env := by rfl) :
    PE X (.Call (.Name "sorted" p) [.Call (.Name "set" p1) [a] [] p2] [] pos) (rdF C W (f1 gSS1 f)) :=
  (pe_ss hc hm hm2 ha hg hg2 na).imp fun σ H Q ⟨ρ, δ, E, p⟩ => ⟨ρ, δ, E, (Post.seq (R := fun _ ds _ H' => ∀ p vs, Np H p → H' p = some (.lst vs) → RepL C.K H' (fun a => Av C σ ρ a ∧ a ≠ p) ds vs → Q (.ref p) H') p anti_F).mono fun d δ1 H1 x1 E1 q v rv => by
    obtain ⟨items, e, q⟩ := q.lft
    rw [hK]
    cases rv with
    | lst a1 h1 l =>
      rename_i ds
      unfold gSS1 at e
      cases e1 : asInts ds with
      | none => simp [e1] at e
      | some ns =>
        simp only [e1] at e
        obtain ⟨hl, rfl⟩ := ite_some e
        rw [asInts_eq e1] at l
        have v1 := repL_ints l
        subst v1
        exact ⟨_, ns, rfl, .inl (.inl h1), hl, fun l hl => q _ (same_ext (same_new hl)) (E1.grow0 (same_new hl)) l _ (ext_same_none E x1 E1 (np_none hl)) upd_same (repL_of_ints _)⟩
    | _ => cases e⟩
end
end G8

set_option Elab.async false
set_option linter.all false
set_option maxRecDepth 100000
set_option maxHeartbeats 1000000
namespace G8
open PySem PySem.Spec PyProof.Rows L2 LamX
/-- x.index(y) -/
def gIdx (ds : List D) (d : D) : Option D := if SeqAt.shaped (.list ds) = true ∧ SeqAt.shaped d = true then (ds.findIdx? fun z => PyData.eqv z d).map fun j => .int (j : Nat) else none
@[simp] def dIdx (f h : DE) : DE := fun ρ δ => bnd (f ρ δ) fun a δ => match a with
  | .list ds => bnd (h ρ δ) fun b δ => lft (gIdx ds b) δ
  | _ => none
section
variable {X : Cx} {C : Ct} {W : Wx} {e a b : Expr} {es : List Expr} {f g h : DE} {pos p1 p2 p3 : Pos} {σ : L2.St} {ρ : Rho} {δ : Dl} {H H1 : Hp} {K : Fg}
theorem pd_idx (hu : X.A.units + 65 < cLine) (ha : PE X a (rdE C W f)) (hb : PE X b (rdE C W h)) (hK : X.K = C.K) (hst : starEach [b] X.env = (false, eval b X.env) :: starEach [] X.env := by rfl)
    (hba : attributeBase a "index" X.env (eval a X.env) = eval a X.env := by rfl)
    (hfew : ((backTo p3 (starEach [b] X.env)).all (fun x => !x.1) && (backToKw p3 (keywordEach [] X.env)).all (fun x => x.1.isSome)
      && decide ([b].length + ([] : List Keyword).length + (if ([] : List Keyword).isEmpty then 0 else 1) < 30)) = true := by rfl) (hl : (p2.endLine == p3.line) = true := by rfl) :
    PE X (.Call (.Attribute a "index" p2) [b] [] p3) (rdE C W (dIdx f h)) := by
  refine (pe_bm PySem.F.plainAttrs_list PySem.F.slot_list_index PySem.F.type_list_index (mt_indexD hu) ha (pa_cons hb pa_nil hst) hba hfew hl hst).imp fun σ H Q ⟨ρ, δ, E, p⟩ => ?_
  rw [hK]
  refine ⟨ρ, δ, E, (p.seq anti_E).mono fun d δ1 H1 x1 E1 q v rv => ?_⟩
  cases rv with
  | lst s1 s2 s3 =>
    refine ⟨.inl ⟨rfl, _, .inl (.inl s2)⟩, ρ, δ1, E1, (Post.seq (R := oE C σ ρ Q) q anti_E).mono fun d2 δ2 H2 x2 E2 q2 w rw => ?_⟩
    rename_i ds
    obtain ⟨z, ez, q3⟩ := q2.lft
    unfold gIdx at ez
    by_cases hsh : SeqAt.shaped (.list ds) = true ∧ SeqAt.shaped d2 = true
    · rw [if_pos hsh] at ez
      cases ef : ds.findIdx? fun z => PyData.eqv z d2 with
      | none => rw [ef] at ez; cases ez
      | some j =>
        rw [ef] at ez
        cases ez
        obtain ⟨hj, h1, h2⟩ := List.findIdx?_eq_some_iff_getElem.mp ef
        refine ⟨_, w, d2, ds, j, ds[j], rfl, rfl, ((Rep.lst s1 s2 s3).keep (E1.keep x2)).dp hsh.1, rw.dp hsh.2, hsh.1, hsh.2, List.getElem?_eq_getElem hj, h1, fun m z' hm hz' => ?_, q3 H2 Ext.refl E2 _ (.int _)⟩
        have hm' : m < ds.length := by omega
        rw [List.getElem?_eq_getElem hm'] at hz'
        cases hz'
        have := h2 m hm
        simpa using this
    · rw [if_neg hsh] at ez
      cases ez
  | _ => exact q.elim
end
end G8

set_option Elab.async false
set_option linter.all false
set_option maxRecDepth 100000
set_option maxHeartbeats 1000000
namespace G8
open PySem PySem.Spec PyProof.Rows L2 LamX
/-- a, b = two new lists -/
@[simp] def sPar2F (i j : Nat) (f g : DL) : DS := fun ρ δ => bndS (f ρ δ) fun ds δ => bndS (g ρ δ) fun es δ => some (.nx ((ρ.set i (.own ds)).set j (.own es)), δ)
section
variable {X : Cx} {C : Ct} {W : Wx} {e a b : Expr} {es : List Expr} {f g h : DE} {fl gl : DL} {pos p1 p2 p3 : Pos} {σ : L2.St} {ρ : Rho} {δ δ1 : Dl} {H H1 : Hp} {K : Fg}
theorem EnvOk.unhide {D : Addr} (E : EnvOk (C.less D) H σ ρ δ) (hD : ¬ C.dc = some D) (hx : ∀ a, C.dc = some a → ¬ C.S a) : EnvOk C H σ ρ δ where
  len := E.len
  slot := fun i s h => by
    obtain ⟨ov, e, k⟩ := E.slot i s h
    have k' : SlotOk C H (Av (C.less D) σ ρ) s ov := by
      cases s with
      | un => trivial
      | val d =>
        cases ov with
        | none => exact k
        | some v => exact k
      | own ds =>
        cases ov with
        | none => exact k
        | some v =>
          obtain ⟨q, vs, rfl, h1, h2, h3⟩ := k
          exact ⟨q, vs, rfl, h1, ⟨h2.1, h2.2.1⟩, h3⟩
      | ownd ds =>
        cases ov with
        | none => exact k
        | some v =>
          obtain ⟨q, vs, rfl, h1, h2, h3⟩ := k
          exact ⟨q, vs, rfl, h1, ⟨h2.1, h2.2.1⟩, h3⟩
      | dice =>
        cases ov with
        | none => exact k
        | some v => exact k
    exact ⟨ov, e, k'.widen fun a z => ⟨z.1.1, z.2⟩⟩
  dis := E.dis
  ext := E.ext
  dc := fun a h => ⟨(E.dc a h).1, hx a h, (E.dc a h).2.2⟩
  fr := fun a h => E.fr a fun z => h z.1
  tb := E.tb
theorem s_par2F {i j : Nat} {x y : Str} {px py pt : Pos} {kt k2 pt2} (nd : X.N.Nodup) (hij : i ≠ j) (ha : PE X a (rdF C W fl)) (hb : ∀ D : Addr, PE X b (rdF (C.less D) W gl)) (hc : X.calm = true) (hi : X.N[i]? = some x := by rfl) (hj : X.N[j]? = some y := by rfl)
    (hx : X.env.scope.names.lookup x = some .local := by rfl) (hy : X.env.scope.names.lookup y = some .local := by rfl)
    (hw : swappedStores [.Tuple [.Name x px, .Name y py] kt pt] (.Tuple [a, b] k2 pt2) X.env = pure (some [x, y]) := by rfl)
    (hs : swapsWithSole [.Tuple [.Name x px, .Name y py] kt pt] (.Tuple [a, b] k2 pt2) pos.line X.env = pure false := by rfl)
    (h1 : starEach [a, b] X.env = (false, eval a X.env) :: starEach [b] X.env := by rfl) (h2 : starEach [b] X.env = (false, eval b X.env) :: starEach [] X.env := by rfl) :
    PS X (.Assign [.Tuple [.Name x px, .Name y py] kt pt] (.Tuple [a, b] k2 pt2) pos) (rdS C W (sPar2F i j fl gl)) := by
  have hb' : PE X b (fun σ H Q => ∃ D, rdF (C.less D) W gl σ H Q) := ⟨fun pins s σ H Q I ⟨D, q⟩ => (hb D).run pins s σ H Q I q⟩
  refine (ps_par hc nd hi hj hij hx hy (pa_cons ha (pa_cons hb' pa_nil h2) h1) hw hs).imp fun D σ H ⟨ρ, δ, E, p⟩ => ⟨ρ, δ, E, (p.seqE E).mono fun ds δ1 H1 x1 E1 q p vs hp hv r => ?_⟩
  have np : ∃ o, nt o ∧ H1 p = some o := ⟨_, nt_lst, hv⟩
  have Eh : EnvOk (C.less p) H1 σ ρ δ1 := E.hide hp x1 E1 np
  have ndc : ¬ C.dc = some p := fun z => hp _ (E.dc p z).1 nt_dice
  have q := q.2
  refine ⟨p, ρ, δ1, Eh, ?_⟩
  cases eg : gl ρ δ1 with
  | none => rw [eg] at q; exact q.elim
  | some rr =>
    obtain ⟨rr, δ2⟩ := rr
    rw [eg] at q
    cases rr with
    | error z => exact fun H2 x2 E2 => q σ H2 (E2.ext : Ext (C.less p) C.H0 H2) (fun a h => (E2.dc a h).1) E2.tb
    | ok es =>
      refine fun H2 x2 E2 p2 vs2 hp2 hv2 r2 => ⟨.ref p, .ref p2, rfl, ?_⟩
      have x2' : Ext C H1 H2 := x2
      have E2' : EnvOk C H2 σ ρ δ2 := E2.unhide ndc fun a h => (E.dc a h).2.1
      have k2 : Keep (fun a => Av C σ ρ a ∧ a ≠ p) H1 H2 := (E1.keep x2').sub fun a z => z.1
      have hp1 : H2 p = some (.lst vs) := x2' p _ ndc nt_lst hv
      have Ea : EnvOk C H2 (σ.set i (some (.ref p))) (ρ.set i (.own ds)) δ2 := E.setO hp (x1.trans x2') E2' ⟨p, vs, rfl, hp1, ⟨E.none_h0 hp, E.frN hp⟩, r.keep k2⟩
      have Eb : EnvOk C H1 (σ.set i (some (.ref p))) (ρ.set i (.own ds)) δ1 := E.setO hp x1 E1 ⟨p, vs, rfl, hv, ⟨E.none_h0 hp, E.frN hp⟩, r⟩
      refine q _ H2 (Eb.setO (i := j) hp2 x2' Ea ⟨p2, vs2, rfl, hv2, ⟨Eb.none_h0 hp2, Eb.frN hp2⟩, r2.widen fun a z => ⟨⟨z.1.1.1, fun o => (own_setO o).elim z.1.2 z.1.1.2⟩, z.2⟩⟩) ((Step.setO E hp x1 E1).trans (Step.setO Eb hp2 x2' Ea))
/-- a test whose right side is a name that is looked at -/
theorem pt_cmpBR (j : Nat) {x : Str} {op : CmpOp} {r : R2} {g : D → D → Option D} (ho : OpR X (compareOp op) r) (k : R2Ok C.K r g) (ha : PE X a (rdE C W f)) (hm : behindInMarks op (.Name x p1) = false := by first | exact nomark _ | rfl) (hN : X.N[j]? = some x := by rfl)
    (hv : Vis X.env.scope x := by first | exact Or.inl rfl | exact Or.inr (Or.inl rfl) | exact Or.inr (Or.inr rfl)) (hd : (x == ("__debug__" : Str)) = false := by decide) (hcd : (x == ("__classdict__" : Str)) = false := by decide) :
    PT X (.Compare a [op] [.Name x p1] pos) (rdT C W (d2 g f (dB j))) := by
  refine (pt_cmpR ho ha (pe_var hN hv hd hcd) hm).imp fun σ H Q ⟨ρ, δ, E, p⟩ => ⟨ρ, δ, E, (p.seq anti_T).mono fun d δ1 H1 x1 E1 q v rv => ?_⟩
  cases e : dB j ρ δ1 with
  | none => rw [e] at q; exact q.elim
  | some rr =>
    obtain ⟨rr, δ2⟩ := rr
    cases rr with
    | error z => unfold dB at e; split at e <;> cases e
    | ok d2 =>
      rw [e] at q
      obtain ⟨rfl, w, hw, hr, _⟩ := E1.look e
      have q : Post C W σ ρ (oT Q) H1 (lft (g d d2) δ2) := q
      obtain ⟨z, ez, q3⟩ := q.lft
      refine ⟨w, hw, k C.S H1 v w d d2 z _ (fun a h => E1.frN (np_none h)) rv.toS hr ez fun u H' sm r' => ?_⟩
      obtain ⟨b, rfl, qb⟩ := q3 H' (same_ext sm) (E1.grow0 sm)
      cases r'
      exact ⟨b, rfl, qb⟩
/-- tuple(range(n)) -/
noncomputable def gTR1 : D → Option D
  | .int j => if okRg 0 j = true then some (.tuple (rng 0 j)) else none
  | _ => none
theorem pd_tr1 {p q2 pos2 : Pos} (hc : X.calm = true) (hm : X.mg "tuple" = none) (hmr : X.mg "range" = none) (ha : PE X a (rdE C W f)) (hg : Gl X "tuple" := by rfl) (hgr : Gl X "range" := by rfl)
    (na : starEach [a] X.env = (false, eval a X.env) :: starEach [] X.env := by rfl) : PE X (.Call (.Name "tuple" p) [.Call (.Name "range" q2) [a] [] pos2] [] pos) (rdE C W (d1 gTR1 f)) :=
  (pe_tupRg hc hg hm (prg_1 hgr hmr ha na)).imp fun σ H Q ⟨ρ, δ, E, p⟩ => ⟨ρ, δ, E, (p.seq anti_E).mono fun d δ1 H1 x1 E1 q v rv => by
    obtain ⟨z, e, q⟩ := q.lft
    cases rv with
    | int j =>
      obtain ⟨hj, rfl⟩ := ite_some e
      exact ⟨j, rfl, okRg_ok hj, fun l hl => q _ (same_ext (same_new hl)) (E1.grow0 (same_new hl)) _ (.tup (.inl (.inl upd_same)) (rng_rep 0 j))⟩
    | _ => cases e⟩
end
end G8

set_option Elab.async false
set_option linter.all false
set_option maxRecDepth 100000
set_option maxHeartbeats 2000000
/-! while an exception is handled: the end of a list's iterator, sum(..), a comprehension over a list -/
namespace G8
open PySem PySem.Spec PyProof.Rows L2 L2H HotX
section
variable {prog : Program} {w : World} {A : Around} {E : Value → Shared → Prop} {s : Shared}
theorem next_end_hot {it l x1 : Addr} {i : Nat} {items : Array Value} {Q : Option Value → Shared → Prop} (hot : HotAt A x1 s.heap) (hne : x1 ≠ it) (hit : s.heap.IsListIter it l i) (hl : s.heap.IsList l items) (hx : items[i]? = none)
    (q : ∀ h', Heap.ExtBut it s.heap h' → Q none { s with heap := h' }) : wpAny (model prog w) A (pyNext (.ref it)) Q E s := by
  obtain ⟨oi, ei, ci, di⟩ := id hit
  obtain ⟨ol, el, _, n, dl⟩ := hl
  obtain ⟨hh, o1, v1, e1, d1, c1⟩ := hot
  unfold pyNext
  refine wpAny_bind (wpAny_attempt (wpAny_callSpecial?_slot (name := Str.ofString "__next__") hit.typeIs slot_listiter_next (wpAny_call_entry slot_listiter_next hit.typeIs entry_listiter_next ?_ (args_listiter_next _))))
  refine wpAny_bind (m := field (.ref it) 0) (wpAny_field ei di (x := .ref l) rfl ?_)
  show wpAny _ _ (ite ((Value.ref l == Value.none) = true) _ _) _ _ s; rw [if_neg (show ¬ ((Value.ref l == Value.none) = true) from Bool.false_ne_true)]
  refine wpAny_bind (m := field (.ref it) 1) (wpAny_field ei di (x := .int i 0) rfl ?_)
  refine wpAny_bind (m := seqItems? (.ref l)) (wpAny_seqItems el dl ?_)
  simp only [Int.toNat_natCast, hx]
  refine wpAny_bind (wpAny_rule (wpAny_bind (wpAny_setField ei di (by simp) ?_)))
  refine wpAny_bind (m := newExc (.type "StopIteration") []) ?_
  simp only [newExc, newTuple]
  refine wpAny_bind (wpAny_newObj_type (wpAny_bind (m := firstArgMember _ _) (wpAny_of_eq (a := Value.none) (by first | rfl | (simp only [firstArgMember]; rfl)) (wpAny_newObj_type ?_ (by size_fits)))) (by size_fits))
  have up : ∀ b o, b ≠ it → s.heap.get? b = some o → ∀ u v : Obj, (((s.heap.update it (Obj.mapFields (·.setIfInBounds 0 .none))).push u).push v).get? b = some o := fun b o hb e u v =>
    Heap.get?_push_of_some _ (Heap.get?_push_of_some _ ((Heap.get?_update_other _ _ (Ne.symm hb)).trans e))
  refine raiseNew_hot (x1 := x1) ⟨hh, o1, v1, up _ _ hne e1 _ _, d1, c1⟩ (Nat.ne_of_lt (Heap.lt_size (Heap.get?_push_of_some _ ((Heap.get?_update_other _ _ (Ne.symm hne)).trans e1)))) (Heap.get?_push_size _ rfl) rfl (by first | (simp; done) | (simp; omega) | (simp only [Array.size_append]; simp; omega)) ?_
  refine wpAny_bind (wpAny_isInstance (T := "StopIteration") (b := true) ⟨_, Heap.get?_update_self _ (Heap.get?_push_size _ rfl) rfl, rfl⟩ isSubtype_stop ?_)
  refine wpAny_pure (q _ fun b o hb e => ?_)
  have e2 := Heap.get?_push_of_some { cls := .type "tuple", data := .seq #[] } ((Heap.get?_update_other s.heap (Obj.mapFields (·.setIfInBounds 0 .none)) (Ne.symm hb)).trans e)
  rw [Heap.get?_update_other _ _ (Nat.ne_of_gt (Heap.lt_size e2))]
  exact Heap.get?_push_of_some _ e2
theorem hot_keep {x1 : Addr} {h h' : Heap} (z : HotAt A x1 h) (k : ∀ o, h.get? x1 = some o → h'.get? x1 = some o) : HotAt A x1 h' := by
  obtain ⟨a, o, vs, b, c⟩ := z
  exact ⟨a, o, vs, k o b, c⟩
/-- a list's iterator, walked while x1 is handled -/
theorem walks_hot {x1 : Addr} (I ax : Addr) (n1 : ax ≠ I) (n2 : x1 ≠ I) (items : Array Value) :
    Walks prog w A I [I, ax, x1] [I] items.size (fun i v => items[i]? = some v) (fun i h => h.IsListIter I ax i ∧ h.IsList ax items ∧ HotAt A x1 h) where
  sub := fun b hb => by simp at hb; simp [hb]
  frame := fun i h h' ⟨a, b, c⟩ k => ⟨a.at fun o e => k I (by simp) o e, b.at fun o e => k ax (by simp) o e, hot_keep c fun o e => k x1 (by simp) o e⟩
  item := fun i s Q E hi ⟨a, b, c⟩ q => wpAny_pyNext_list_item a b (x := items[i]) (by simp [hi]) fun h' a' sb =>
    q items[i] h' s.toks (by simp [hi]) ⟨a', b.at fun o e => (sb.2 _ n1).trans e, hot_keep c fun o e => (sb.2 _ n2).trans e⟩ fun d o hd e => (sb.2 d (by simpa using hd)).trans e
  done := fun s Q E ⟨a, b, c⟩ q => next_end_hot c n2 a b (by simp) fun h' x => q h' s.toks fun d o hd e => x d o (by simpa using hd) e
  self := fun i s Q E ⟨a, _, _⟩ q => wpAny_pyIter_listiter a q
theorem sum_hot {x1 l : Addr} {its : List Value} {ns : List Int} {Q : Value → Shared → Prop} (hot : HotAt A x1 s.heap) (hne : l ≠ x1) (hl : s.heap.IsList l its.toArray) (hi : IntsAre its ns)
    (q : ∀ h' tk t', (∀ b o, s.heap.get? b = some o → h'.get? b = some o) → Q (.int ns.sum t') { s with heap := h', toks := tk }) : wpAny (model prog w) A (call (.builtin "sum") [.ref l]) Q E s := by
  obtain ⟨xs, e⟩ := hi.allInts.items
  have hn : numsOf (intItems xs).toList = ns := by rw [← e]; exact hi.numsOf
  rw [nums_intItems] at hn
  rw [e] at hl
  have hs : x1 < s.heap.objs.size := by
    obtain ⟨_, o, _, h, _⟩ := hot
    exact Heap.lt_size h
  refine call_sum_walkG (iter_intList hl fun s₂ e2 st hfp hlI => ?_)
  subst e2
  refine ⟨_, _, _, _, _, _, numAt xs, rfl, walks_hot (A := A.in1) (x1 := x1) _ l hlI (Nat.ne_of_lt hs) (intItems xs), ⟨st.1, st.2, hot_keep (A := A.in1) hot fun o e => Heap.get?_push_of_some _ e⟩, fun b hb => ?_, fun _ _ => intItems_at, fun h' tk t' hk => ?_⟩
  · simp only [List.mem_cons, List.not_mem_nil, or_false] at hb
    rcases hb with h | h | h
    · rw [h]; exact hfp _ (by simp)
    · rw [h]; exact hfp _ (by simp)
    · rw [h]
      show x1 < (s.heap.push _).objs.size
      rw [Heap.size_push]
      exact Nat.lt_succ_of_lt hs
  · have z := q h' tk t' fun b o hb => hk b o (by simpa using Nat.ne_of_lt (Heap.lt_size hb)) (Heap.get?_push_of_some _ hb)
    have e3 : preSum (numAt xs) (intItems xs).size = ns.sum := by rw [← hn, preSum_eq, List.take_of_length_le (by simp [intItems])]
    rw [e3]
    exact z
end
end G8

set_option Elab.async false
set_option linter.all false
set_option maxRecDepth 100000
set_option maxHeartbeats 2000000
namespace G8
open PySem PySem.Spec PyProof.Rows L2 L2H HotX
/-- a comprehension over a list, each item by itself, while an exception is handled -/
theorem lc_hot {X : Cx} {pins : List (Addr × Obj)} {σ : L2.St} {H : Hp} {s : Shared} {Q : VK} {p : Addr × Obj} {j fl : Nat} {x y : Str} {a : Addr} {xs : List V} {g : V → V} {elt : Expr} {scope : Scope} {px py pos : Pos} {te : TE}
    (hot : Hot1 X.A p) (hp : p ∈ X.pn) (nd : X.N.Nodup) (J : Inv X pins σ H s) (hy : X.N[j]? = some y) (hv : Vis X.env.scope y) (ok : BlkOk X.N X.env.scope scope [(x, fl)]) (hx : X.N[fl]? = some x)
    (he : ∀ (s : Shared) (H : Hp) (C : Addr) (cl : List (Str × Addr)) (fp : List Addr), PG (X.blk s H scope (compEnvC scope cl C X.env) fp) (.Name x px) (gName fl) ∧ PE (X.blk s H scope (compEnvC scope cl C X.env) fp) elt te)
    (ht : ∀ σ H Q v, v ∈ xs → σ[fl]? = some (some v) → Q (g v) H → te σ H Q) (hσ : σ[j]? = some (some (.ref a))) (ha : H a = some (.lst xs)) (hlen : xs.length ≤ 1000)
    (q : ∀ D, H D = none → Q (.ref D) (upd H D (.lst (xs.map g)))) (hd : (y == ("__debug__" : Str)) = false := by decide) (hcd : (y == ("__classdict__" : Str)) = false := by decide)
    (hs : ∀ v, foldedSetIterable (.Name y py) X.env v = pure v := by intro _; rfl) :
    wpAny (model X.prog X.w) X.A (eval (.ListComp elt [⟨.Name x px, .Name y py, [], 0⟩] scope pos) X.env) (EP X pins σ Q) X.xe s := by
  rw [eval_ListComp]
  have cells : ∀ z ∈ scope.names, z.2 = .free → ∃ c, X.env.cells.lookup z.1 = some c := fun z hz e => (ok.free z hz e).elim (fun k => J.ok.has _ (.inl k)) fun k => J.ok.has _ (.inr k)
  refine wpAny_comprehension_free (use := none) rfl hs (closure_ok cells) ok.kind (fun z hz e => (ok.uniq z hz).trans (congrArg some e)) ?_
  refine thn ((pe_var (pos := py) hy hv hd hcd).run pins s σ H (fun v H1 => v = .ref a ∧ H1 = H) J ⟨.ref a, hσ, rfl, rfl⟩) fun u s1 ⟨v, H1, J1, r1, ev, eH⟩ => ?_
  subst ev
  rw [eH] at J1
  obtain rfl : u = Value.ref a := r1
  obtain ⟨its, rv, pl, hz⟩ := J1.list (.inl (.inl ha))
  refine wpAny_pyIter_list pl.isList ?_
  generalize hit : s1.heap.objs.size = it
  generalize hs2 : ({ s1 with heap := s1.heap.push { cls := .type "list_iterator", data := .fields #[.ref a, .int 0 0] } } : Shared) = s2
  have h2 : s2.heap = s1.heap.push { cls := .type "list_iterator", data := .fields #[.ref a, .int 0 0] } := by rw [← hs2]
  have J2 : Inv X pins σ H s2 := by rw [← hs2]; exact J1.kept (t' := s1.toks) fun b o e => Heap.get?_push_of_some _ e
  have st2 : s2.heap.IsListIter it a 0 := by rw [h2, ← hit]; exact ⟨_, Heap.get?_push_size _ rfl, rfl, rfl⟩
  have nit : H it = none := J1.hok.fresh (Nat.le_of_eq hit)
  have fit : FpOk X pins H it := J1.fpOk (Nat.le_of_eq hit) nit
  have lit : it < s2.heap.objs.size := by rw [h2, Heap.size_push, hit]; exact Nat.lt_succ_self _
  refine wpAny_newObj_type (newEnv_comp ?_) (by show 0 ≤ sizeLine; decide)
  generalize hD : s2.heap.objs.size = D
  have nD : H D = none := J2.hok.fresh (Nat.le_of_eq hD)
  have nDit : it ≠ D := by rw [← hD]; exact Nat.ne_of_lt lit
  generalize hs3 : ({ s2 with heap := s2.heap.push { cls := .type "list", data := .seq ([] : List Value).toArray } } : Shared) = s3
  have h3 : s3.heap = s2.heap.push { cls := .type "list", data := .seq ([] : List Value).toArray } := by rw [← hs3]
  have J3 : Inv X pins σ (upd H D (.lst [])) s3 := by
    rw [← hs3]
    exact J2.laid (t' := s2.toks) (fun b o e => Heap.get?_push_of_some _ e) (Nat.le_of_eq hD) ⟨Nat.zero_le _, [], 0, .nil, by rw [← hD]; exact Heap.get?_push_size _ rfl⟩
  have f3 : ∀ b ∈ [it], FpOk X pins (upd H D (.lst [])) b ∧ b < s3.heap.objs.size := fun b hb => by
    rw [List.mem_singleton.mp hb]
    exact ⟨⟨by rw [upd_ne nDit]; exact nit, fit.2⟩, by rw [h3, Heap.size_push]; exact Nat.lt_succ_of_lt lit⟩
  have J4 := block_start J3 ok nd f3
  obtain ⟨pg, pe⟩ := he s3 (upd H D (.lst [])) s3.heap.objs.size (cellsFrom (s3.heap.objs.size + 1) scope.names (cloFrom X.env.cells scope.names [])) [it]
  show codeAny _ _ (.compStart (.ListComp elt [⟨.Name x px, .Name y py, [], 0⟩] scope pos) 0 (.ref it) (.ref D) (compEnvC scope (cellsFrom (s3.heap.objs.size + 1) scope.names (cloFrom X.env.cells scope.names [])) s3.heap.objs.size X.env))
    (compPost (model X.prog X.w) X.A X.xe none (EP X pins σ Q) (.ref D) s3.heap.objs.size) { s3 with heap := pushCells (s3.heap.push { cls := .type "dict", data := .dict #[] }) scope.names }
  generalize hce : compEnvC scope (cellsFrom (s3.heap.objs.size + 1) scope.names (cloFrom X.env.cells scope.names [])) s3.heap.objs.size X.env = ce at J4 pg pe ⊢
  have cL : ce.locals = s3.heap.objs.size := by subst hce; rfl
  generalize hs4 : ({ s3 with heap := pushCells (s3.heap.push { cls := .type "dict", data := .dict #[] }) scope.names } : Shared) = s4 at J4 ⊢
  have up34 : ∀ b o, s3.heap.get? b = some o → s4.heap.get? b = some o := fun b o e => by rw [← hs4]; exact pushCells_keeps _ _ _ _ (Heap.get?_push_of_some _ e)
  have st4 : s4.heap.IsListIter it a 0 := (st2.at fun o e => by rw [h3]; exact Heap.get?_push_of_some _ e).at fun o e => up34 _ _ e
  -- the block's context
  let B := X.blk s3 (upd H D (.lst [])) scope ce [it]
  have hotB : ∀ {σ' : L2.St} {H' : Hp} {s' : Shared}, Inv B [] σ' H' s' → HotAt X.A p.1 s'.heap := fun {σ' H' s'} K' => by
    obtain ⟨hh, vs, e1, c1⟩ := hot
    have P := J3.pin p (List.mem_append_left _ hp)
    refine ⟨hh, p.2, vs, K'.base.keep p.1 p.2 P.1 P.2.1 (fun z => ?_) (fun z => ?_), e1, c1⟩
    · exact (List.mem_cons.mp (J3.stkSub p.1 z)).elim P.2.2.1 P.2.2.2.1
    · exact fit.2.2.2.2.2 p (List.mem_append_left _ hp) (List.mem_singleton.mp z)
  have pne : p.1 ≠ it := fit.2.2.2.2.2 p (List.mem_append_left _ hp)
  have aD : a ≠ D := ne_of_none ha nD
  have fB : ∀ {σ' : L2.St} {H' : Hp} {s' : Shared}, Inv B [] σ' H' s' → H' it = none → ∀ b ∈ [it], FpOk B [] H' b := fun {σ' H' s'} K' hn b hb => by
    rw [List.mem_singleton.mp hb]
    have z := K'.ok.exf it (List.mem_singleton.mpr rfl)
    exact ⟨hn, z.1, K'.ok.exfs it (List.mem_singleton.mpr rfl), .inl (List.mem_singleton.mpr rfl), fun n c e => z.2 n c e, fun r hr => nomatch (show r ∈ ([] : List (Addr × Obj)) from hr)⟩
  have loop : codeAny (model X.prog X.w) X.A (.compLoop (.ListComp elt [⟨.Name x px, .Name y py, [], 0⟩] scope pos) 0 (.ref it) (.ref D) ce) (compPost (model X.prog X.w) X.A X.xe none (EP X pins σ Q) (.ref D) s3.heap.objs.size) s4 := by
    refine compLoop_any (fun n s' => ∃ i, n = xs.length + 1 - i ∧ i ≤ xs.length ∧ Inv B [] (wipe σ [fl]) (upd H D (.lst ((xs.take i).map g))) s' ∧ s'.heap.IsListIter it a i) ?_ (xs.length + 1) ⟨0, rfl, Nat.zero_le _, J4, st4⟩
    rintro n s5 ⟨i, rfl, hi, J5, st5⟩
    have n5 : upd H D (.lst ((xs.take i).map g)) it = none := by rw [upd_ne nDit]; exact nit
    obtain ⟨f0, f1, f2, f4, f6, f7⟩ := fB J5 n5 it (List.mem_singleton.mpr rfl)
    have a5 : upd H D (.lst ((xs.take i).map g)) a = some (.lst xs) := by rw [upd_ne aD]; exact ha
    obtain ⟨its5, rv5, pl5, hz5⟩ := J5.list (.inl (.inl a5))
    by_cases hlt : i < xs.length
    · obtain ⟨u, hu, ru⟩ := rv5.get (List.getElem?_eq_getElem hlt)
      refine wpAny_pyNext_list_item st5 pl5.isList (x := u) (by simpa using hu) fun h6 st6 sb => ?_
      have J6 : Inv B [] (wipe σ [fl]) (upd H D (.lst ((xs.take i).map g))) { s5 with heap := h6 } := J5.turned (t' := s5.toks) (fun b o hb e => (sb.2 b hb).trans e) f0 f1 f4 f6 f7
      obtain ⟨oi, ei, ci, di⟩ := id st6
      refine go_of (s := { s5 with heap := h6 }) ei ci di (by decide) ?_
      have J7 := J6.pinned (fB J6 n5) fun b hb => by
        rw [List.mem_singleton.mp hb]
        exact ⟨oi, ei, fun v z => by rw [di] at z; cases z⟩
      refine thnF (pg.run _ _ _ _ xs[i] u (fun σ8 H8 => σ8 = (wipe σ [fl]).set fl (some xs[i]) ∧ H8 = upd H D (.lst ((xs.take i).map g))) J7 ru ⟨rfl, rfl⟩) fun _ s8 ⟨σ8, H8, J8, e8, eH8⟩ => ?_
      subst e8 eH8
      refine thnF ((pts_nil (X := B)).run _ s8 _ _ (fun b H9 => b = true ∧ H9 = upd H D (.lst ((xs.take i).map g))) J8 ⟨rfl, rfl⟩) fun b s9 ⟨H9, J9, eb, eH9⟩ => ?_
      subst eb eH9
      rw [if_pos rfl]
      have lfl : fl < (wipe σ [fl]).length := by
        rw [wipe_length, J.len]
        exact (List.getElem?_eq_some_iff.mp hx).1
      refine thnF (pe.run _ s9 _ _ (fun v H10 => v = g xs[i] ∧ H10 = upd H D (.lst ((xs.take i).map g))) J9 (ht _ _ _ xs[i] (List.getElem_mem hlt) (List.getElem?_set_self lfl) ⟨rfl, rfl⟩)) fun z s10 ⟨yv, H10, J10, r10, ey, eH10⟩ => ?_
      subst ey eH10
      refine app_ok (X := B) J10 upd_same (by rw [List.length_map, List.length_take]; exact Nat.lt_of_lt_of_le (show min i xs.length < 1001 by omega) (by decide)) r10 fun s11 J11 => ⟨xs.length + 1 - (i + 1), by omega, i + 1, rfl, hlt, ?_, ?_⟩
      · have e12 : upd (upd H D (.lst ((xs.take i).map g))) D (.lst ((xs.take i).map g ++ [g xs[i]])) = upd H D (.lst ((xs.take (i + 1)).map g)) := by
          rw [List.take_succ_eq_append_getElem hlt, List.map_append]
          funext b
          by_cases hb : b = D
          · rw [hb, upd_same, upd_same]; rfl
          · rw [upd_ne hb, upd_ne hb, upd_ne hb]
        rw [e12] at J11
        refine (J11.unpinned (pins := [])).weak (by rw [List.length_set]) fun k v e => ?_
        by_cases hk : fl = k
        · subst hk
          exact absurd (List.mem_singleton.mpr rfl) (wipe_some e).2
        · rw [List.getElem?_set_ne hk]
          exact e
      · have P := J11.pin (it, oi) (List.mem_append_right _ (List.mem_append_right _ (mem_pinsAt (List.mem_singleton.mpr rfl) ei)))
        exact ⟨oi, P.1, ci, di⟩
    · have e : i = xs.length := by omega
      subst e
      have hl5 := rv5.length
      refine next_end_hot (hotB J5) pne st5 pl5.isList (by simp; omega) fun h6 eb => ?_
      have J6 : Inv B [] (wipe σ [fl]) (upd H D (.lst ((xs.take xs.length).map g))) { s5 with heap := h6 } := J5.turned (t' := s5.toks) (fun b o hb e => eb b o hb e) f0 f1 f4 f6 f7
      rw [List.take_length] at J6
      have J7 : Inv X pins σ (upd H D (.lst (xs.map g))) { s5 with heap := h6 } := J3.call' (ch := [it]) J6.os J6.base J6.hok J6.bare fun b hb => by
        have z := (f3 b hb).1
        exact ⟨z.2.2.2.1, z.2.1, z.2.2.2.2.1, z.2.2.2.2.2⟩
      have nC : upd H D (.lst (xs.map g)) s3.heap.objs.size = none := by
        have z : upd H D (.lst (xs.map g)) ce.locals = none := J6.free
        rwa [cL] at z
      obtain ⟨m, hn, _⟩ := J6.loc
      have hn : h6.Ns ce.locals m := hn
      rw [cL] at hn
      obtain ⟨c0, c1, c2, c4, c5, c6⟩ := J3.fpOk (H' := upd H D (.lst (xs.map g))) (Nat.le_refl _) nC
      exact ⟨m, hn, fun h'' sb => ⟨.ref D, _, J7.turned (t' := s5.toks) (fun b o hb e => (sb.2 b hb).trans e) c0 c1 c4 c5 c6, rfl, q D nD⟩⟩
  exact codeAny_compStart_list loop (wpAny_pyIter_listiter st4 loop)
end G8

set_option Elab.async false
set_option linter.all false
set_option maxRecDepth 100000
set_option maxHeartbeats 2000000
namespace G8
open PySem PySem.Spec PyProof.Rows L2 L2H HotX
/-- a def called while the exception p is handled; nothing leaves it -/
theorem run_hot {X : Cx} {pins : List (Addr × Obj)} {σ : L2.St} {H : Hp} {s : Shared} {Q : VK} {p : Addr × Obj} {k : Nat} {f : Addr} {fd : FuncData} {x qual : Str} {st : Stmt} {N ps : List Str} {us : List Value} {vs : List V}
    (hot : Hot1 X.A p) (hp : p ∈ X.pn) (F : Fun X.K x qual st f fd) (S : FnScope N ps (defScope st)) (hr : RoomH (k + 1) X.A) (hb : Binds X.K fd ps []) (I : Inv X pins σ H s) (r : Vals vs us) (hl : vs.length = ps.length)
    (hw : ∀ (cdv : Value), RoomH k (X.A.deeper (envOfC qual (defScope st) s.heap.objs.size f cdv)) → ∃ t, PSs (cxH (L2N.CX X.prog X.w) X.prog X.w X.K X.mg X.base N qual (defScope st) f cdv X.A X.stack s H (fun _ _ _ => False) p) (defBody st) t ∧ t { nx := fun _ H' => Q .non H', rt := Q } (L2.start N vs) H) :
    wpAny (model X.prog X.w) X.A (call (.ref f) us) (EP X pins σ Q) X.xe s := by
  obtain ⟨oc, od, kV, doc, pm, an, cdv, ct, osl, rfl, lk, hcd⟩ := F.ex
  have P1 := I.pin p (List.mem_append_left _ hp)
  have pin : PinOk X.stack H s p := ⟨P1.1, P1.2.1, fun hm => (List.mem_cons.mp (I.stkSub p.1 hm)).elim P1.2.2.1 P1.2.2.2.1, P1.2.2.2.2⟩
  have b := hb s us I.kIn (by rw [List.append_nil, ← r.length]; exact hl)
  rw [List.append_nil] at b
  have e0 := I.env0
  have par : ∀ z ∈ ps.zip us, (defScope st).names.lookup z.1 = some .local ∨ ((defScope st).names.lookup z.1 = some .cell ∧ ((cellsFrom (s.heap.objs.size + 1) (defScope st).names []).lookup z.1).isSome = true) := fun z hz =>
    (S.par z.1 (List.of_mem_zip hz).1).imp id fun q => ⟨q, PySem.W.cellsFrom_some _ _ _ (.inl q)⟩
  have run : codeAny (model X.prog X.w) X.A (.call (.ref f) ⟨us, []⟩) (CR (L2N.CX X.prog X.w) X.stack X.prog X.w H s Q fun _ _ _ => False) s := by
    refine codeAny_call_function hr.depth (I.kIn _ _ lk) rfl S.co S.gen rfl (PySem.W.codeRec_of I.kIn hcd) (b _ _ _ _ (wpAny_newFunctionEnv_cells S.kind par fun env he s1 z => ?_))
    subst he
    refine ⟨I.nolimit.keeps z.toInCall.keep, codeAny_func ?_⟩
    obtain ⟨t, ht, hq⟩ := hw cdv (hr.deeper _)
    refine wpAny_mono (ht.run [] s1 _ H _ (inv_startH S pin e0 hl r z) hq) (fun fl s' hs => ?_) fun e s' hs => hs
    cases fl with
    | ret u =>
      obtain ⟨v, σ', H', J, rv, q⟩ := hs
      exact ⟨v, H', J.os, J.bare, J.base, J.hok, rv, q⟩
    | next =>
      obtain ⟨σ', H', J, q⟩ := hs
      exact ⟨.non, H', J.os, J.bare, J.base, J.hok, rfl, q⟩
    | brk => obtain ⟨_, _, _, q⟩ := hs; exact q.elim
    | cont => obtain ⟨_, _, _, q⟩ := hs; exact q.elim
  refine wpAny_call (codeAny_mono run fun z s' hq => ?_)
  cases z with
  | error e =>
    obtain ⟨_, _, _, _, _, _, _, _, _, _, _, _, z⟩ := hq
    exact z.elim
  | ok fl =>
    cases fl with
    | ret u => exact I.after hq
    | next => exact hq.elim
    | brk => exact hq.elim
    | cont => exact hq.elim
/-- isinstance(e, c), e the exception that is handled -/
theorem call_isH {X : Cx} {p : Addr × Obj} {D : Addr} (hp : p ∈ X.pn) (C : ExcC X.K D) (hz : Zc (.ref D) none p.2) (hf : ∃ vs, p.2.data = .fields vs) : CallR X (.builtin "isinstance") (rIsE X.K D p.1) := by
  intro pins s σ H xs us Q I r h
  obtain ⟨c, cv, b, rfl, hcv, e, q⟩ := h
  cases r with
  | cons r1 r =>
    cases r with
    | cons r2 r =>
      cases r
      cases r1
      obtain rfl := hcv _ r2
      obtain ⟨vs, hv⟩ := hf
      have there := (I.pin p (List.mem_append_left _ hp)).1
      have J : PySem.W.InstAt s.heap p.1 p.2 D none := by
        generalize p.2 = o at hz hv there
        obtain ⟨c1, c2, c3, c4⟩ := o
        obtain ⟨h1, h2⟩ := hz
        subst h1 h2 hv
        exact ⟨there, rfl, rfl, trivial⟩
      exact PySem.W.kia_one (PySem.W.handS_kitx_exc C.hg C.hk C.hs C.hd C.ha C.hn C.ht C.hm) I.kIn J e (fun z => nomatch z) fun tk => ⟨.bl b, H, I.kept (t' := tk) fun _ _ z => z, rfl, q⟩
/-- sum(..) of a list of ints, while an exception is handled -/
theorem cr_sumH {X : Cx} (hc : HotC X) : CallR X (.builtin "sum") (fun vs H Q => ∃ (a : Addr) (ns : List Int), vs = [V.ref a] ∧ H a = some (.lst (ns.map V.int)) ∧ Q (.int ns.sum) H) := by
  intro pins s σ H vs us Q I r h
  obtain ⟨a, ns, rfl, hs, q⟩ := h
  obtain ⟨its, rv, hl, _⟩ := I.list (.inl (.inl hs))
  obtain ⟨p, hot, hp⟩ := hc
  have P := I.pin p (List.mem_append_left _ hp)
  obtain ⟨hh, vs, e1, c1⟩ := hot
  rw [Vals.ref1 r]
  exact sum_hot (x1 := p.1) ⟨hh, p.2, vs, P.1, e1, c1⟩ (ne_of_none hs P.2.1) hl.isList rv.ints fun h' tk t' hk => ⟨.int _, H, I.kept hk, ⟨_, rfl⟩, q⟩
/-! ### the classes of refusals -/
def excN : List String := ["BadRing", "BadRow", "BadNumber", "BadCell", "BadLooks", "Nothing", "Full", "BadText", "BadShuts"]
structure Xc (K : Fg) (mg : Str → Option Value) (D : Addr) (x : Str) : Prop where
  ex : PySem.W.excIn K D [Value.type "ValueError", Value.type "Exception", Value.type "BaseException", Value.type "object"] "ValueError.__new__" = true
  g : mg x = some (.ref D)
  kp : PySem.W.keepIn K (.ref D) = true
  ty : PySem.W.typeIn K (.ref D) = some (.type "type")
  c : ExcC K D
  ve : PySem.W.kitOne K (.ref D) (.type "ValueError") = some true
/-- all of them -/
structure Xs (K : Fg) (mg : Str → Option Value) (cl : String → Addr) (NS : List String) : Prop where
  xc : ∀ x ∈ NS, Xc K mg (cl x) (Str.ofString x)
  one : ∀ x ∈ NS, ∀ y ∈ NS, PySem.W.kitOne K (.ref (cl x)) (.ref (cl y)) = some (decide (x = y))
  ce : mg "CartError" = some (.ref (cl "CartError"))
  em : ∀ x ∈ NS, PySem.W.exmOne K (.ref (cl x)) (.ref (cl "CartError")) = some true
/-- raise X('..') -/
@[simp] def sExc (x : String) : DS := fun _ δ => some (.exc x, δ)
theorem s_raise {X : Cx} {C : Ct} {W : Wx} {cl : String → Addr} {NS : List String} {m : Str} {j : Nat} {p p2 p3 pos : Pos} (x : String) (F : Xs X.K X.mg cl NS) (tk : L2N.Takes X (WXof cl W)) (hc : X.calm = true) (hx : x ∈ NS := by decide) (hg : Gl X (Str.ofString x) := by rfl) (hdb : (Str.ofString x == ("__debug__" : Str)) = false := by decide) :
    PS X (.Raise (some (.Call (.Name (Str.ofString x) p) [.Constant (.str m) j p2] [] p3)) none pos) (rdS C W (sExc x)) :=
  have c := F.xc x hx
  (L2N.ps_raise hc tk (L2N.pmk_own PySem.F.excBase_ValueError c.ex c.g c.kp (raises_own c.c.hs c.ty) hg hdb)).imp fun D σ H ⟨ρ, δ, E, q⟩ => ⟨x, rfl, rfl, q σ H E.ext (fun a h => (E.dc a h).1) E.tb⟩
/-! ### what the head tells of the classes -/
def excC (K : Fg) (D : Addr) : Bool := PySem.W.findIn K (.ref D) "__getattribute__" == some (some (.builtin "BaseException.__getattribute__")) && PySem.W.findIn K (.ref D) "__getattr__" == some none && PySem.W.subIn K (.ref D) (.type "BaseException") == some true && PySem.W.hasDictIn K D &&
  PySem.W.findIn K (.ref D) "__class__" == some (some (.builtin "object.__class__")) && PySem.W.specialIn K (.builtin "object.__class__") "__get__" == some (some (.builtin "getset_descriptor.__get__")) && PySem.W.takesIn K (.builtin "object.__class__") == some true && PySem.W.mroIn K D (.type "object") == some true
def xcB (K : Fg) (a0 a : Addr) : Bool := PySem.W.excIn K a [Value.type "ValueError", Value.type "Exception", Value.type "BaseException", Value.type "object"] "ValueError.__new__" && PySem.W.keepIn K (.ref a) && PySem.W.typeIn K (.ref a) == some (.type "type") && excC K a &&
  PySem.W.kitOne K (.ref a) (.type "ValueError") == some true && PySem.W.exmOne K (.ref a) (.ref a0) == some true
def kitB (K : Fg) (as : List Addr) : Bool := (List.range as.length).all fun i => (List.range as.length).all fun j => PySem.W.kitOne K (.ref (as.getD i 0)) (.ref (as.getD j 0)) == some (decide (i = j))
def clOf (a0 : Addr) (NS : List String) (as : List Addr) (x : String) : Addr := if x = "CartError" then a0 else as.getD (NS.idxOf x) 0
theorem excC_of {K : Fg} {D : Addr} (h : excC K D = true) : ExcC K D := by
  unfold excC at h
  simp only [Bool.and_eq_true, beq_iff_eq] at h
  obtain ⟨⟨⟨⟨⟨⟨⟨h1, h2⟩, h3⟩, h4⟩, h5⟩, h6⟩, h7⟩, h8⟩ := h
  exact ⟨h1, h2, h3, h4, h5, h6, h7, h8⟩
theorem xs_of {K : Fg} {mg : Str → Option Value} {a0 : Addr} {NS : List String} {as : List Addr} (hn : "CartError" ∉ NS) (nd : NS.Nodup) (hl : as.length = NS.length) (h0 : mg "CartError" = some (.ref a0)) (hg : ∀ i, i < NS.length → mg (Str.ofString (NS.getD i "")) = some (.ref (as.getD i 0)))
    (hx : as.all (xcB K a0) = true) (hk : kitB K as = true) : Xs K mg (clOf a0 NS as) NS := by
  have at_ : ∀ x ∈ NS, ∃ i, i < NS.length ∧ NS.getD i "" = x ∧ NS.idxOf x = i ∧ clOf a0 NS as x = as.getD i 0 ∧ as.getD i 0 ∈ as := fun x h => by
    have hi := List.idxOf_lt_length_of_mem h
    refine ⟨NS.idxOf x, hi, ?_, rfl, ?_, ?_⟩
    · rw [List.getD_eq_getElem?_getD, List.getElem?_eq_getElem hi]
      exact List.getElem_idxOf hi
    · unfold clOf
      rw [if_neg fun z => hn (by rw [← z]; exact h)]
    · rw [List.getD_eq_getElem?_getD, List.getElem?_eq_getElem (by rw [hl]; exact hi)]
      exact List.getElem_mem _
  have all1 : ∀ a ∈ as, xcB K a0 a = true := List.all_eq_true.mp hx
  refine ⟨fun x h => ?_, fun x h y h' => ?_, ?_, fun x h => ?_⟩
  · obtain ⟨i, hi, e1, e2, e3, e4⟩ := at_ x h
    have z := all1 _ e4
    unfold xcB at z
    simp only [Bool.and_eq_true, beq_iff_eq] at z
    obtain ⟨⟨⟨⟨⟨z1, z2⟩, z3⟩, z4⟩, z5⟩, z6⟩ := z
    rw [e3]
    exact ⟨z1, by rw [← e1]; exact hg i hi, z2, z3, excC_of z4, z5⟩
  · obtain ⟨i, hi, e1, e2, e3, e4⟩ := at_ x h
    obtain ⟨j, hj, f1, f2, f3, f4⟩ := at_ y h'
    unfold kitB at hk
    have z := List.all_eq_true.mp (List.all_eq_true.mp hk i (List.mem_range.mpr (by rw [hl]; exact hi))) j (List.mem_range.mpr (by rw [hl]; exact hj))
    rw [e3, f3, beq_iff_eq.mp z]
    congr 1
    rw [decide_eq_decide]
    constructor
    · intro q
      rw [← e1, ← f1, q]
    · intro q
      rw [← e2, ← f2, q]
  · show mg "CartError" = some (.ref (clOf a0 NS as "CartError"))
    rw [h0]
    rfl
  · obtain ⟨i, hi, e1, e2, e3, e4⟩ := at_ x h
    have z := all1 _ e4
    unfold xcB at z
    simp only [Bool.and_eq_true, beq_iff_eq] at z
    rw [e3]
    exact z.2
end G8

set_option Elab.async false
set_option linter.all false
set_option maxRecDepth 100000
set_option maxHeartbeats 2000000
namespace G8
open PySem PySem.Spec PyProof.Rows L2 L2H HotX LamX
/-- what a refusal of the class x is told as -/
def refused (x : String) : D := .tuple [.str "refused", .str (Str.ofString x)]
@[simp] theorem ref_fold (x : String) : PyData.tuple [.str "refused", .str (Str.ofString x)] = refused x := rfl
@[simp] def dTold (f : DE) : DE := fun ρ δ => match f ρ δ with
  | none => none
  | some (.ok d, δ') => some (.ok d, δ')
  | some (.error x, δ') => if x ∈ excN then some (.ok (refused x), δ') else none
/-- the lambda's context; what leaves it has no context of its own -/
def lamN (X : Cx) (A : Around) (outer : List Env) (s : Shared) (H : Hp) (E : XK) (scope : Scope) (f c' : Addr) : Cx :=
  { lamCx X A outer s H E scope f c' with xe := fun e s' => wpAny (model X.prog X.w) (A.deeper (lamEnv X scope s.heap.objs.size f c')) (leaving (lamEnv X scope s.heap.objs.size f c') e) (fun _ s'' => L2N.CX X.prog X.w outer H s E e s'') (fun e' s'' => L2N.CX X.prog X.w outer H s E e' s'') s' }
theorem inv_xe {X : Cx} {xe : Value → Shared → Prop} {pins : List (Addr × Obj)} {σ : L2.St} {H : Hp} {s : Shared} (I : Inv X pins σ H s) : Inv { X with xe := xe } pins σ H s :=
  ⟨⟨I.ok.mod, I.ok.kind, I.ok.glob, I.ok.blt, I.ok.above, I.ok.inj, I.ok.has, I.ok.cab, I.ok.hd, I.ok.frames, I.ok.stk, I.ok.exf, I.ok.bs, I.ok.bsz, I.ok.noex, I.ok.exfs, I.ok.funs, I.ok.frf⟩, I.os, I.bare, I.base, I.loc, I.cell, I.free, I.freeC, I.pin, I.hok, I.len⟩
/-- what the def of refusals' names does while one is handled -/
def TermOk (P : Program) (w : World) (K : Fg) (mg : Str → Option Value) (base : Heap) (cl : String → Addr) (ft : Addr) : Prop :=
  ∀ (X : Cx), X.prog = P → X.w = w → X.K = K → X.mg = mg → X.base = base → ∀ (p : Addr × Obj) (x : String) (pins : List (Addr × Obj)) (s : Shared) (σ : L2.St) (H : Hp) (Q : VK), Hot1 X.A p → p ∈ X.pn → Zc (.ref (cl x)) none p.2 → x ∈ excN → RoomH 2 X.A → Inv X pins σ H s →
    (∀ (b : Addr) (H' : Hp), Same H H' → H' b = some (.tup [.str "refused", .str (Str.ofString x)]) → Q (.ref b) H') → wpAny (model X.prog X.w) X.A (call (.ref ft) [.ref p.1]) (EP X pins σ Q) X.xe s
/-- the two defs -/
structure ToldOk (P : Program) (w : World) (K : Fg) (mg : Str → Option Value) (base : Heap) (cl : String → Addr) (st : Stmt) : Prop where
  xs : Xs K mg cl excN
  fn : ∃ g gd, Fun K "_law_told" "_law_told" st g gd ∧ mg "_law_told" = some (.ref g) ∧ Binds K gd ["deed"] []
  sc : FnScope ["deed", "e"] ["deed"] (defScope st)
  vd : Vis (defScope st) "deed"
  ve : (defScope st).names.lookup ("e" : Str) = some .local
  gc : (defScope st).names.lookup ("CartError" : Str) = some .globalImplicit
  gt : (defScope st).names.lookup ("_law_term" : Str) = some .globalImplicit
  body : ∃ p1 p2 p3 p4 p5 p6 p7 p8 p9 p10, defBody st = [.Try [.Return (some (.Call (.Name "deed" p1) [] [] p2)) p3] [.ExceptHandler (some (.Name "CartError" p4)) (some "e") [.Return (some (.Call (.Name "_law_term" p5) [.Name "e" p6] [] p7)) p8] p9] [] [] p10]
  term : ∃ ft, mg "_law_term" = some (.ref ft) ∧ PySem.W.keepIn K (.ref ft) = true ∧ TermOk P w K mg base cl ft
theorem post_later {C : Ct} {W : Wx} {σ : L2.St} {ρ : Rho} {H H1 : Hp} {Q : VK} {r : RR D} (p : Post C W σ ρ (oE C σ ρ Q) H r) (x : Ext C H H1) : Post C W σ ρ (oE C σ ρ Q) H1 r := by
  cases r with
  | none => exact p
  | some r =>
    obtain ⟨r, δ'⟩ := r
    cases r with
    | ok a => exact fun H' x1 E1 => p H' (x.trans x1) E1
    | error y => exact fun H' x1 E1 => p H' (x.trans x1) E1
/-- _law_told(lambda: body) -/
theorem pe_told {X : Cx} {C : Ct} {W : Wx} {cl : String → Addr} {k : Nat} {fe : DE} {c P : Addr} {st : Stmt} {params : Arguments} {body : Expr} {scope : Scope} {lpos p pos : Pos}
    (TO : ToldOk X.prog X.w X.K X.mg X.base cl st) (TB : TabB X.base X.mg c P) (hcode : X.env.code = .ref c) (hmT : (P, X.env.qual ++ "<lambda>") ∈ C.T) (hu : ∀ p ∈ C.T, p.1 = P → p.2 = X.env.qual ++ "<lambda>") (hr : Room (k + 3) X.A) (hK : X.K = C.K) (hg : Gl X "_law_told")
    (L : LamS X.env.scope scope) (hdef : defaultsOf params X.env = ([], [])) (hbind : ∀ (q : Str) (cl : List (Str × Addr)) (pm cv ctv : Value), bindArgs (PySem.W.kla_fn "<lambda>" q params body scope cl pm cv ctv) ⟨[], []⟩ = pure [])
    (hbody : ∀ (A : Around) (outer : List Env) (s : Shared) (H : Hp) (E : XK) (f c' : Addr) (W' : Wx), Room (k + 1) (A.deeper (lamEnv X scope s.heap.objs.size f c')) → L2N.Takes (lamN X A outer s H E scope f c') (WXof cl W') → PE (lamN X A outer s H E scope f c') body (rdE C W' fe)) :
    PE X (.Call (.Name "_law_told" p) [.Lambda params body scope lpos] [] pos) (rdE C W (dTold fe)) := by
  refine ⟨fun pins s σ H Q I ⟨ρ, δ, E, q⟩ => ?_⟩
  obtain ⟨g, gd, FT, mT, bT⟩ := TO.fn
  obtain ⟨p1, p2, p3, p4, p5, p6, p7, p8, p9, p10, hB⟩ := TO.body
  obtain ⟨ft, mt, kt, TM⟩ := TO.term
  obtain ⟨oc, od, kV, doc, pm, an, cdv, ct, osl, rfl, lk, hcd⟩ := FT.ex
  refine wpAny_Call_Name_kw (ld_glob I hg mT ?_ (by decide))
  refine PySem.W.callWith_K (h₀ := X.base) I.ok.mod.kin FT.kp ?_ (by rfl) (by rfl)
  show wpAny _ _ (spliced ((false, eval (.Lambda params body scope lpos) X.env) :: backTo pos (starEach [] X.env))) _ _ s
  refine Calls.spliced_cons (lam_make2 I TB hcode hmT hu E.tb hdef (L.has I.ok) fun f c' pm' ctv H1 s1 I1 eN T1 hf hfn hfr hco => Calls.spliced_nil ⟨I1.kIn, ?_⟩)
  have E1 : EnvOk C H1 σ ρ δ := E.growN eN T1
  have q1 := post_later q (extN_ext (C := C) eN)
  -- what the lambda's body is to come to
  let Wt : Wx := fun x _ H' => x ∈ excN ∧ ∀ (b : Addr) (H'' : Hp), Same H' H'' → H'' b = some (.tup [.str "refused", .str (Str.ofString x)]) → Q (.ref b) H''
  let Et : XK := fun cls d H' => ∃ x, cls = .ref (cl x) ∧ d = none ∧ Wt x [] H'
  have qb : rdE C Wt fe σ H1 Q := by
    refine ⟨ρ, δ, E1, ?_⟩
    have q1 : Post C W σ ρ (oE C σ ρ Q) H1 (match fe ρ δ with
      | none => none
      | some (.ok d, δ') => some (.ok d, δ')
      | some (.error x, δ') => if x ∈ excN then some (.ok (refused x), δ') else none) := q1
    cases e : fe ρ δ with
    | none => rw [e] at q1; exact q1
    | some r =>
      rw [e] at q1
      obtain ⟨r, δ'⟩ := r
      cases r with
      | ok d => exact q1
      | error x =>
        by_cases hx : x ∈ excN
        · have q1 : Post C W σ ρ (oE C σ ρ Q) H1 (if x ∈ excN then some (.ok (refused x), δ') else none) := q1
          rw [if_pos hx] at q1
          exact fun H' x' E' => ⟨hx, fun b H'' sm hb => q1 H'' (x'.trans (same_ext sm)) (E'.grow0 sm) _ (.tup (.inl (.inl hb)) (.cons (.str _) (.cons (.str _) .nil)))⟩
        · have q1 : Post C W σ ρ (oE C σ ρ Q) H1 (if x ∈ excN then some (.ok (refused x), δ') else none) := q1
          rw [if_neg hx] at q1
          exact q1.elim
  have rc : codeAny (model X.prog X.w) X.A (.call (.ref g) ⟨[.ref f], []⟩) (CR (L2N.CX X.prog X.w) X.stack X.prog X.w H1 s1 Q fun _ _ _ => False) s1 := by
    refine run_ofS (N := ["deed", "e"]) (ps := ["deed"]) (us := [.ref f]) (vs := [.ref f]) lk hcd TO.sc hr I1.env0 (bT s1 [.ref f] I1.kIn rfl) (.cons rfl .nil) rfl fun hr' => ?_
    rw [hB]
    refine ⟨_, pss_one (L2N.ps_try_as (i := 1) (c := .ref (cl "CartError")) (Wout := fun _ _ _ _ => False) (tb := fun Wz D σz Hz => (∀ cls d H', Et cls d H' → Wz cls d σz H') ∧ σz[0]? = some (some (.ref f)) ∧ Hz = H1 ∧ ∀ v H', Q v H' → D.rt v H')
      (ts := fun a cls d D σz Hz => σz[1]? = some (some (.ref a)) ∧ ∃ x, cls = .ref (cl x) ∧ d = none ∧ x ∈ excN ∧ ∀ (b : Addr) (H'' : Hp), Same Hz H'' → H'' b = some (.tup [.str "refused", .str (Str.ofString x)]) → D.rt (.ref b) H'')
      rfl rfl TO.sc.nd rfl TO.ve ⟨TO.gc, by decide, .inl TO.xs.ce⟩ (fun _ _ z => ?_) (fun Wz pn xe tk _ => ?_) (fun a oe cls d pn hz hd => ?_)), ?_⟩
    · obtain ⟨_, _, _, _, _, _, _, _, _, _, _, _, _, _, _, _, z⟩ := z
      exact z.elim
    · -- deed()
      refine ⟨fun pinsZ sZ σZ HZ D IZ ⟨hW, h1, h2, h3⟩ => ?_⟩
      subst h2
      have act : PE ((cxOf (L2N.CX X.prog X.w) X.prog X.w X.K X.mg X.base ["deed", "e"] "_law_told" (defScope st) g cdv X.A X.stack s1 HZ fun _ _ _ => False).tr pn xe) (.Call (.Name "deed" p1) [] [] p2) (fun σz Hz Q' => (∀ cls d H', Et cls d H' → Wz cls d σz H') ∧ σz[0]? = some (some (.ref f)) ∧ Hz = HZ ∧ ∀ v H', Q v H' → Q' v H') := by
        refine ⟨fun pinsY sY σY HY QY IY ⟨y0, y1, y2, y3⟩ => ?_⟩
        subst y2
        refine wpAny_Call_Name_kw (thn ((pe_var (pos := p1) (i := 0) (by rfl) TO.vd (by decide) (by decide)).run pinsY sY σY HY (fun v H2 => v = .ref f ∧ H2 = HY) IY ⟨.ref f, y1, rfl, rfl⟩) fun u s2 ⟨v, H2, I2, r2, ev, eH⟩ => ?_)
        subst ev
        rw [eH] at I2
        obtain rfl : u = Value.ref f := r2
        have at2 := I2.base.keep f _ hf hfn hfr (fun z => nomatch (show f ∈ ([] : List Addr) from z))
        refine PySem.W.callWith_F0 ⟨_, _, _, _, at2⟩ ?_
        obtain ⟨⟨oc2, vs2, t2, hoc, hdc, hvc⟩, _, _⟩ := I2.hok c' _ hco
        have run : codeAny (model X.prog X.w) (X.A.deeper (envOfC "_law_told" (defScope st) s1.heap.objs.size g cdv)) (.call (.ref f) ⟨[], []⟩) (CR (L2N.CX X.prog X.w) (envOfC "_law_told" (defScope st) s1.heap.objs.size g cdv :: X.stack) X.prog X.w HY s2 QY Et) s2 := by
          refine PySem.W.kla_callFunE hr'.depth at2 rfl L.co L.gen rfl ⟨c', oc2, vs2, t2, rfl, hoc, hdc, hvc⟩ ?_
          rw [hbind]
          refine wpAny_pure (wpAny_newFunctionEnv (fun z hz => (L.own z hz).2) (fun z hz => nomatch hz) (fun h₁ hns hsb => ⟨I2.nolimit.fresh _ hsb, ?_⟩) L.kind)
          have J := inv_xe (xe := (lamN X (X.A.deeper (envOfC "_law_told" (defScope st) s1.heap.objs.size g cdv)) (envOfC "_law_told" (defScope st) s1.heap.objs.size g cdv :: X.stack) s2 HY Et scope f c').xe)
            (lam_start2 (E := Et) (f := f) (c' := c') (tk := s2.toks + ([] : List (Str × Value)).length) I1 L I2.env0 hr'.hd I2.base hns fun b o e => hsb.extBut b o (Nat.ne_of_lt (Heap.lt_size e)) (Heap.get?_push_of_some _ e))
          have tkL : L2N.Takes (lamN X (X.A.deeper (envOfC "_law_told" (defScope st) s1.heap.objs.size g cdv)) (envOfC "_law_told" (defScope st) s1.heap.objs.size g cdv :: X.stack) s2 HY Et scope f c') (WXof cl Wt) := (L2N.takes_of (E := Et) rfl rfl rfl rfl).imp fun cls d σ' H' ⟨x, e1, e2, e3⟩ => ⟨x, e1, e2, e3⟩
          have qy : rdE C Wt fe σ HY QY := by
            obtain ⟨ρ', δ', E', p'⟩ := qb
            exact ⟨ρ', δ', E', p'.mono fun a δ2 H' _ _ z v rv => y3 v H' (z v rv)⟩
          refine PySem.W.kla_codeExpr (wpAny_mono ((hbody _ _ s2 HY Et f c' Wt (hr'.deeper _) tkL).run [] _ σ HY QY J qy) (fun v s' ⟨w', H', J', rv, qv⟩ => ⟨w', H', J'.os, J'.bare, J'.base, J'.hok, rv, qv⟩) fun e s' hq => hq)
        refine wpAny_call (codeAny_mono run fun z s' hq => ?_)
        cases z with
        | error e => exact tk e s' (L2N.XE.of_call I2 y0 hq)
        | ok fl =>
          cases fl with
          | ret u => exact I2.after hq
          | next => exact False.elim hq
          | brk => exact False.elim hq
          | cont => exact False.elim hq
      exact (pss_one (ps_ret (pos := p3) act)).run pinsZ sZ σZ HZ D IZ ⟨hW, h1, rfl, h3⟩
    · -- the suite
      refine pss_one (ps_ret (te := fun σz Hz Q' => σz[1]? = some (some (.ref a)) ∧ ∃ x, cls = .ref (cl x) ∧ d = none ∧ x ∈ excN ∧ ∀ (b : Addr) (H'' : Hp), Same Hz H'' → H'' b = some (.tup [.str "refused", .str (Str.ofString x)]) → Q' (.ref b) H'') ⟨fun pinsZ sZ σZ HZ QZ IZ ⟨h1, x, e1, e2, hx, h3⟩ => ?_⟩)
      refine wpAny_Call_Name_kw (ld_glob IZ TO.gt mt ?_ (by decide))
      refine PySem.W.callWith_K (h₀ := X.base) IZ.ok.mod.kin kt (thn ((pa_cons (pe_var (pos := p6) (i := 1) (by rfl) (.inl TO.ve) (by decide) (by decide)) pa_nil (by rfl)).run p7 pinsZ sZ σZ HZ (fun vs H2 => vs = [.ref a] ∧ H2 = HZ) IZ ⟨.ref a, h1, rfl, rfl⟩) fun us s2 ⟨vs, H2, I2, r2, ev, eH⟩ => ⟨I2.kIn, ?_⟩) (by rfl) (by rfl)
      subst ev
      rw [eH] at I2
      rw [Vals.ref1 r2]
      obtain ⟨vs, hv⟩ := hd
      rw [e1, e2] at hz
      have rh : RoomH 2 (X.A.deeper (envOfC "_law_told" (defScope st) s1.heap.objs.size g cdv)) := (roomH_of hr').mono (by omega)
      exact TM ((cxOf (L2N.CX X.prog X.w) X.prog X.w X.K X.mg X.base ["deed", "e"] "_law_told" (defScope st) g cdv X.A X.stack s1 H1 fun _ _ _ => False).suite a ((a, oe) :: pn)) rfl rfl rfl rfl rfl (a, oe) x pinsZ s2 σZ HZ QZ ⟨rfl, vs, hv, hz.2.2 vs hv⟩ List.mem_cons_self hz.zc hx ⟨rh.dp, rh.un⟩ I2 h3
    · exact ⟨fun cls d H' ⟨x, e1, e2, hx, h3⟩ => ⟨true, by rw [e1]; exact TO.xs.em x hx, fun _ a na => ⟨rfl, x, e1, e2, hx, h3⟩, fun z => nomatch z⟩, rfl, rfl, fun v H' z => z⟩
  refine wpAny_call (codeAny_mono rc fun z s' hq => ?_)
  cases z with
  | error e =>
    obtain ⟨_, _, _, _, _, _, _, _, _, _, _, _, z⟩ := hq
    exact z.elim
  | ok fl =>
    cases fl with
    | ret u => exact I1.after hq
    | next => exact hq.elim
    | brk => exact hq.elim
    | cont => exact hq.elim
end G8

set_option Elab.async false
set_option linter.all false
set_option maxRecDepth 100000
set_option maxHeartbeats 1000000
namespace G8
open PySem PySem.Spec PyProof.Rows L2 LamX
section
variable {X : Cx} {K : Fg}
/-- any of a tuple of ints -/
def rAnyT (K : Fg) : List V → Hp → VK → Prop := fun vs H Q => ∃ (a : Addr) (ns : List Int), vs = [V.ref a] ∧ SqT K H a (ns.map V.int) ∧ Q (.bl (ns.any fun i => i != 0)) H
theorem reads_ints {h : Heap} : ∀ {ns : List Int} {us : List Value}, Vals (ns.map V.int) us → ReadsAll h us (ns.map .int) []
  | [], _, .nil => .nil
  | n :: ns, _, .cons ⟨t, e⟩ r => by subst e; exact .cons (.int _ _) (reads_ints r)
theorem plain_intsU : ∀ ns : List Int, PyData.plainAll (ns.map .int) = true
  | [] => by simp only [List.map_nil, PyData.plainAll]
  | n :: ns => by simp only [List.map_cons, PyData.plainAll, PyData.plain, plain_intsU ns, Bool.and_self]
theorem c_anyT (hc : X.calm = true) : CallR X (.builtin "any") (rAnyT X.K) := by
  intro pins s σ H vs us Q I r h
  obtain ⟨a, ns, rfl, hs, q⟩ := h
  obtain ⟨its, rv, hl, _⟩ := I.tuple hs
  rw [Vals.ref1 r]
  have hl : s.heap.IsTuple a its.toArray := hl
  refine PySem.W.any_tuple_data (xs := ns.map .int) (as := []) (I.ok.hd hc) hl (by simpa using reads_ints rv) (plain_intsU ns) (fun x hx => by obtain ⟨n, _, rfl⟩ := List.mem_map.mp hx; trivial) fun h' tk hk => ?_
  have e : (ns.map PyData.int).any PyData.truthy = ns.any fun i => i != 0 := by rw [List.any_map]; rfl
  rw [e]
  exact ⟨.bl _, H, I.kept hk, rfl, q⟩
theorem c_any2 (hc : X.calm = true) : CallR X (.builtin "any") (fun xs H Q => rAny X.K xs H Q ∨ rAnyT X.K xs H Q) := (cr_any hc).or (c_anyT hc)
def gAny2 : List D → Option D
  | [.tuple ds] => (asInts ds).map fun ns => .bool (ns.any fun i => i != 0)
  | ds => gAny ds
theorem k_any2 : RCOk K (fun xs H Q => rAny K xs H Q ∨ rAnyT K xs H Q) gAny2 := fun A H xs ds z Q hf r hz q => by
  by_cases ht : ∃ es, ds = [.tuple es]
  · obtain ⟨es, rfl⟩ := ht
    have hz : (asInts es).map (fun ns => PyData.bool (ns.any fun i => i != 0)) = some z := hz
    cases e1 : asInts es with
    | none => rw [e1] at hz; cases hz
    | some ns =>
      rw [e1] at hz
      cases hz
      cases r with
      | cons r1 r2 =>
        cases r2
        cases r1 with
        | tup h1 l =>
          rw [asInts_eq e1] at l
          have v1 := repL_ints l
          subst v1
          exact .inr ⟨_, ns, rfl, h1, q _ H (Same.refl H) (.bl _)⟩
  · have hz : gAny ds = some z := by
      unfold gAny2 at hz
      split at hz
      · exact absurd ⟨_, rfl⟩ ht
      · exact hz
    exact .inl (k_any A H xs ds z Q hf r hz q)
end
end G8

set_option Elab.async false
set_option linter.all false
set_option maxRecDepth 100000
set_option maxHeartbeats 1000000
namespace G8
open PySem PySem.Spec PyProof.Rows L2 LamX
section
variable {X : Cx} {C : Ct} {W : Wx} {e a b : Expr} {es : List Expr} {f g h : DE} {fl gl : DL} {pos p1 p2 p3 : Pos} {σ : L2.St} {ρ : Rho} {δ δ1 : Dl} {H H1 : Hp} {K : Fg}
/-- a, b = two new lists, by a tuple (captured names) -/
theorem s_par2T {i j : Nat} {x y : Str} {px py pt : Pos} {kt k2 pt2} (nd : X.N.Nodup) (hc : X.calm = true) (n : Nms X [.Name x px, .Name y py] [i, j]) (hK : X.K = C.K) (ha : PE X a (rdF C W fl)) (hb : ∀ D : Addr, PE X b (rdF (C.less D) W gl))
    (hw : swappedStores [.Tuple [.Name x px, .Name y py] kt pt] (.Tuple [a, b] k2 pt2) X.env = pure none := by rfl)
    (hs : swapsWithSole [.Tuple [.Name x px, .Name y py] kt pt] (.Tuple [a, b] k2 pt2) pos.line X.env = pure false := by rfl)
    (h1 : starEach [a, b] X.env = (false, eval a X.env) :: starEach [b] X.env := by rfl) (h2 : starEach [b] X.env = (false, eval b X.env) :: starEach [] X.env := by rfl) :
    PS X (.Assign [.Tuple [.Name x px, .Name y py] kt pt] (.Tuple [a, b] k2 pt2) pos) (rdS C W (sPar2F i j fl gl)) := by
  have hb' : PE X b (fun σ H Q => ∃ D, rdF (C.less D) W gl σ H Q) := ⟨fun pins s σ H Q I ⟨D, q⟩ => (hb D).run pins s σ H Q I q⟩
  refine (ps_asg (pe_tup (pa_cons ha (pa_cons hb' pa_nil h2) h1)) (pg_tup hc (n.pgs nd) n.len.1 n.len.2) hs hw).imp fun D σ H ⟨ρ, δ, E, p⟩ => ⟨ρ, δ, E, (p.seqE E).mono fun ds δ1 H1 x1 E1 q p vs hp hv r => ?_⟩
  have np : ∃ o, nt o ∧ H1 p = some o := ⟨_, nt_lst, hv⟩
  have Eh : EnvOk (C.less p) H1 σ ρ δ1 := E.hide hp x1 E1 np
  have ndc : ¬ C.dc = some p := fun z => hp _ (E.dc p z).1 nt_dice
  have q := q.2
  refine ⟨p, ρ, δ1, Eh, ?_⟩
  cases eg : gl ρ δ1 with
  | none => rw [eg] at q; exact q.elim
  | some rr =>
    obtain ⟨rr, δ2⟩ := rr
    rw [eg] at q
    cases rr with
    | error z => exact fun H2 x2 E2 => q σ H2 (E2.ext : Ext (C.less p) C.H0 H2) (fun a h => (E2.dc a h).1) E2.tb
    | ok es =>
      refine fun H2 x2 E2 p2 vs2 hp2 hv2 r2 => ⟨to_line4 (by decide : 2 ≤ 10000), fun l hl => ⟨l, [.ref p, .ref p2], rfl, by rw [hK]; exact .inl (.inl upd_same), rfl, _, _, rfl, _, _, rfl, rfl, ?_⟩⟩
      have x2' : Ext C H1 H2 := x2
      have E2' : EnvOk C H2 σ ρ δ2 := E2.unhide ndc fun a h => (E.dc a h).2.1
      have sm := same_new (o := .tup [.ref p, .ref p2]) hl
      have x3 : Ext C H1 (upd H2 l (.tup [.ref p, .ref p2])) := x2'.trans (same_ext sm)
      have E3 := E2'.grow0 sm
      have k2 : Keep (fun a => Av C σ ρ a ∧ a ≠ p) H1 (upd H2 l (.tup [.ref p, .ref p2])) := (E1.keep x3).sub fun a z => z.1
      have hp1 : upd H2 l (.tup [.ref p, .ref p2]) p = some (.lst vs) := x3 p _ ndc nt_lst hv
      have Ea : EnvOk C _ (σ.set i (some (.ref p))) (ρ.set i (.own ds)) δ2 := E.setO hp (x1.trans x3) E3 ⟨p, vs, rfl, hp1, ⟨E.none_h0 hp, E.frN hp⟩, r.keep k2⟩
      have Eb : EnvOk C H1 (σ.set i (some (.ref p))) (ρ.set i (.own ds)) δ1 := E.setO hp x1 E1 ⟨p, vs, rfl, hv, ⟨E.none_h0 hp, E.frN hp⟩, r⟩
      have r3 := r2.keep (same_keep sm)
      refine q _ _ (Eb.setO (i := j) hp2 x3 Ea ⟨p2, vs2, rfl, sm p2 _ hv2, ⟨Eb.none_h0 hp2, Eb.frN hp2⟩, r3.widen fun a z => ⟨⟨z.1.1.1, fun o => (own_setO o).elim z.1.2 z.1.1.2⟩, z.2⟩⟩) ((Step.setO E hp x1 E1).trans (Step.setO Eb hp2 x3 Ea))
end
end G8

set_option Elab.async false
set_option linter.all false
set_option maxRecDepth 100000
set_option maxHeartbeats 1000000
namespace G8
open PySem PySem.Spec PyProof.Rows L2 LamX
/-! ### a, b, .. = values and new lists -/
abbrev DM := Rho → Dl → RR (List Sl)
@[simp] def mNil : DM := fun _ δ => some (.ok [], δ)
@[simp] def mV (f : DE) (r : DM) : DM := fun ρ δ => bnd (f ρ δ) fun d δ => bnd (r ρ δ) fun ss δ => some (.ok (.val d :: ss), δ)
@[simp] def mO (f : DL) (r : DM) : DM := fun ρ δ => bnd (f ρ δ) fun ds δ => bnd (r ρ δ) fun ss δ => some (.ok (.own ds :: ss), δ)
@[simp] def setM : List Nat → List Sl → Rho → Rho
  | i :: is, s :: ss, ρ => setM is ss (ρ.set i s)
  | _, _, ρ => ρ
@[simp] def sParM (is : List Nat) (f : DM) : DS := fun ρ δ => bndS (f ρ δ) fun ss δ => if ss.length = is.length then some (.nx (setM is ss ρ), δ) else none
/-- all but some -/
abbrev Ct.lessL (C : Ct) (ps : List Addr) : Ct := { C with S := fun a => C.S a ∧ a ∉ ps }
inductive RepM (K : Fg) (H : Hp) (B : Addr → Prop) : List Sl → List V → List Addr → Prop
  | nil : RepM K H B [] [] []
  | val {d : D} {v : V} {ss : List Sl} {vs : List V} {ps : List Addr} : Rep K H B d v → RepM K H B ss vs ps → RepM K H B (.val d :: ss) (v :: vs) ps
  | own {ds : List D} {p : Addr} {us : List V} {ss : List Sl} {vs : List V} {ps : List Addr} : H p = some (.lst us) → RepL K H B ds us → p ∉ ps → RepM K H B ss vs ps → RepM K H B (.own ds :: ss) (.ref p :: vs) (p :: ps)
section
variable {X : Cx} {C : Ct} {W : Wx} {e a b c : Expr} {es : List Expr} {f g h : DE} {fl gl : DL} {fm : DM} {pos p1 p2 p3 : Pos} {σ : L2.St} {ρ : Rho} {δ δ1 : Dl} {H H1 H' : Hp} {K : Fg}
theorem RepM.length {B : Addr → Prop} : ∀ {ss : List Sl} {vs : List V} {ps : List Addr}, RepM K H B ss vs ps → ss.length = vs.length
  | _, _, _, .nil => rfl
  | _, _, _, .val _ r => by simp [r.length]
  | _, _, _, .own _ _ _ r => by simp [r.length]
theorem RepM.mono {B B' : Addr → Prop} (k : Keep B H H') (hb : ∀ a, B a → B' a) : ∀ {ss : List Sl} {vs : List V} {ps : List Addr}, RepM K H B ss vs ps → (∀ p ∈ ps, ∀ us, H p = some (.lst us) → H' p = some (.lst us)) → RepM K H' B' ss vs ps
  | _, _, _, .nil, _ => .nil
  | _, _, _, .val r t, hp => .val (r.mono k hb) (RepM.mono k hb t hp)
  | _, _, _, .own h r n t, hp => .own (hp _ (List.mem_cons_self ..) _ h) (r.mono k hb) n (RepM.mono k hb t fun p q => hp p (List.mem_cons_of_mem _ q))
def oM (C : Ct) (σ : L2.St) (ρ : Rho) (Q : List V → Hp → Prop) : PR (List Sl) := fun H ss δ' H' => ∀ vs ps, EnvOk (C.lessL ps) H' σ ρ δ' → (∀ p ∈ ps, Np H p) → RepM C.K H' (Av (C.lessL ps) σ ρ) ss vs ps → Q vs H'
def rdM (C : Ct) (W : Wx) (f : DM) : TA := fun σ H Q => ∃ ρ δ, EnvOk C H σ ρ δ ∧ Post C W σ ρ (oM C σ ρ Q) H (f ρ δ)
theorem lessL_nil : C.lessL [] = C := by
  show { C with S := fun a => C.S a ∧ a ∉ ([] : List Addr) } = C
  have : (fun a => C.S a ∧ a ∉ ([] : List Addr)) = C.S := by funext a; simp
  rw [this]
theorem less_lessL (p : Addr) (ps : List Addr) : (C.less p).lessL ps = C.lessL (p :: ps) := by
  show ({ C with S := fun a => (C.S a ∧ a ≠ p) ∧ a ∉ ps } : Ct) = { C with S := fun a => C.S a ∧ a ∉ p :: ps }
  have : (fun a => (C.S a ∧ a ≠ p) ∧ a ∉ ps) = (fun a => C.S a ∧ a ∉ p :: ps) := by
    funext a
    simp only [List.mem_cons, not_or, and_assoc]
  rw [this]
theorem pm_nil : PA X [] (rdM C W mNil) := pa_nil.imp fun σ H Q ⟨ρ, δ, E, p⟩ => p H Ext.refl E [] [] (by rw [lessL_nil]; exact E) (fun _ z => nomatch z) .nil
theorem Rep.avoidL {A : Addr → Prop} {d : D} {v : V} : ∀ {ps : List Addr}, (∀ p ∈ ps, Np H p) → Rep K H A d v → Rep K H (fun a => A a ∧ a ∉ ps) d v
  | [], _, r => r.widen fun a z => ⟨z, by simp⟩
  | p :: ps, h, r => (Rep.avoid (h p (List.mem_cons_self ..)) (Rep.avoidL (fun q z => h q (List.mem_cons_of_mem _ z)) r)).widen fun a z => ⟨z.1.1, by simp only [List.mem_cons, not_or]; exact ⟨z.2, z.1.2⟩⟩
theorem RepL.avoidL {A : Addr → Prop} {d : List D} {v : List V} : ∀ {ps : List Addr}, (∀ p ∈ ps, Np H p) → RepL K H A d v → RepL K H (fun a => A a ∧ a ∉ ps) d v
  | [], _, r => r.widen fun a z => ⟨z, by simp⟩
  | p :: ps, h, r => (RepL.avoid (h p (List.mem_cons_self ..)) (RepL.avoidL (fun q z => h q (List.mem_cons_of_mem _ z)) r)).widen fun a z => ⟨z.1.1, by simp only [List.mem_cons, not_or]; exact ⟨z.2, z.1.2⟩⟩
theorem pm_val (ha : PE X a (rdE C W f)) (hr : PA X es (rdM C W fm)) (h1 : starEach (a :: es) X.env = (false, eval a X.env) :: starEach es X.env := by rfl) : PA X (a :: es) (rdM C W (mV f fm)) :=
  (pa_cons ha hr h1).imp fun σ H Q ⟨ρ, δ, E, p⟩ => by
    refine ⟨ρ, δ, E, ?_⟩
    unfold mV at p
    cases ef : f ρ δ with
    | none => rw [ef] at p; exact p.elim
    | some r =>
      obtain ⟨r, δ'⟩ := r
      rw [ef] at p
      cases r with
      | error z => exact p
      | ok d =>
        intro H1 x1 E1 v rv
        refine ⟨ρ, δ', E1, ?_⟩
        cases em : fm ρ δ' with
        | none => simp only [bnd, em] at p; exact p.elim
        | some r =>
          obtain ⟨r, δ2⟩ := r
          simp only [bnd, em] at p
          cases r with
          | error z => exact fun H2 x2 E2 => p H2 (x1.trans x2) E2
          | ok ss =>
            intro H2 x2 E2 vs ps Ep hp rm
            refine p H2 (x1.trans x2) E2 (v :: vs) ps Ep (fun q hq => ext_same_none E x1 E1 (hp q hq)) (.val ?_ rm)
            exact (Rep.avoidL hp rv).mono ((E1.keep x2).sub fun a z => z.1) fun a z => ⟨⟨z.1.1, z.2⟩, z.1.2⟩
theorem pm_own (ha : PE X a (rdF C W fl)) (hr : ∀ D : Addr, PA X es (rdM (C.less D) W fm)) (h1 : starEach (a :: es) X.env = (false, eval a X.env) :: starEach es X.env := by rfl) : PA X (a :: es) (rdM C W (mO fl fm)) := by
  have hr' : PA X es (fun σ H Q => ∃ D, rdM (C.less D) W fm σ H Q) := ⟨fun pp pins s σ H Q I ⟨D, q⟩ => (hr D).run pp pins s σ H Q I q⟩
  refine (pa_cons ha hr' h1).imp fun σ H Q ⟨ρ, δ, E, p⟩ => ⟨ρ, δ, E, ?_⟩
  unfold mO at p
  cases ef : fl ρ δ with
  | none => rw [ef] at p; exact p.elim
  | some r =>
    obtain ⟨r, δ'⟩ := r
    rw [ef] at p
    cases r with
    | error z => exact p
    | ok ds =>
      intro H1 x1 E1 q us hq hv rl
      have np : ∃ o, nt o ∧ H1 q = some o := ⟨_, nt_lst, hv⟩
      have Eh : EnvOk (C.less q) H1 σ ρ δ' := E.hide hq x1 E1 np
      have ndc : ¬ C.dc = some q := fun z => hq _ (E.dc q z).1 nt_dice
      refine ⟨q, ρ, δ', Eh, ?_⟩
      cases em : fm ρ δ' with
      | none => simp only [bnd, em] at p; exact p.elim
      | some r =>
        obtain ⟨r, δ2⟩ := r
        simp only [bnd, em] at p
        cases r with
        | error z => exact fun H2 x2 E2 => p H2 (x1.trans x2) (E2.unhide ndc fun a h => (E.dc a h).2.1)
        | ok ss =>
          intro H2 x2 E2 vs ps Ep hp rm
          have x2' : Ext C H1 H2 := x2
          rw [less_lessL] at Ep rm
          have hn : q ∉ ps := fun z => hp q z _ hv nt_lst
          refine p H2 (x1.trans x2') (E2.unhide ndc fun a h => (E.dc a h).2.1) (.ref q :: vs) (q :: ps) Ep (fun z hz => ?_) (.own (x2' q _ ndc nt_lst hv) ?_ hn rm)
          · rcases List.mem_cons.mp hz with rfl | hz
            · exact hq
            · exact ext_same_none E x1 E1 (hp z hz)
          · exact (RepL.avoidL hp rl).mono ((E1.keep x2').sub fun a z => z.1.1) fun a z => ⟨⟨z.1.1.1, by simp only [List.mem_cons, not_or]; exact ⟨z.1.2, z.2⟩⟩, z.1.1.2⟩
/-- a slot gets one of the new lists -/
theorem EnvOk.setP {i : Nat} {p : Addr} {ps : List Addr} {ds : List D} {us : List V} (E : EnvOk (C.lessL (p :: ps)) H σ ρ δ) (hn : p ∉ ps) (hS : C.S p) (h0 : Np C.H0 p) (ndc : C.dc ≠ some p) (hp : H p = some (.lst us)) (r : RepL C.K H (Av (C.lessL (p :: ps)) σ ρ) ds us) :
    EnvOk (C.lessL ps) H (σ.set i (some (.ref p))) (ρ.set i (.own ds)) δ := by
  have av : ∀ a, Av (C.lessL (p :: ps)) σ ρ a → Av (C.lessL ps) (σ.set i (some (.ref p))) (ρ.set i (.own ds)) a := fun a z =>
    ⟨⟨z.1.1, fun q => z.1.2 (List.mem_cons_of_mem _ q)⟩, fun q => (own_setO q).elim z.2 fun e => z.1.2 (by rw [e]; exact List.mem_cons_self ..)⟩
  have own_ne : ∀ {j : Nat} {t : Sl} {q : Addr}, ρ[j]? = some t → t.isOwn = true → σ[j]? = some (some (V.ref q)) → q ≠ p := fun {j t q} hr ho hs z => by
    obtain ⟨o, e, k⟩ := E.slot j t hr
    rw [hs] at e
    cases e
    cases t with
    | own es => obtain ⟨q', vs, e, _, h2, _⟩ := k; cases e; exact h2.2.2 (by rw [z]; exact List.mem_cons_self ..)
    | ownd es => obtain ⟨q', vs, e, _, h2, _⟩ := k; cases e; exact h2.2.2 (by rw [z]; exact List.mem_cons_self ..)
    | _ => cases ho
  have less : ∀ {s : Sl} {ov : Option V}, SlotOk (C.lessL (p :: ps)) H (Av (C.lessL (p :: ps)) σ ρ) s ov → SlotOk (C.lessL ps) H (Av (C.lessL (p :: ps)) σ ρ) s ov := fun {s ov} k => by
    cases s with
    | un => trivial
    | val d =>
      cases ov with
      | none => exact k
      | some v => exact k
    | own es =>
      cases ov with
      | none => exact k
      | some v =>
        obtain ⟨q, vs, rfl, h1, h2, h3⟩ := k
        exact ⟨q, vs, rfl, h1, ⟨h2.1, h2.2.1, fun z => h2.2.2 (List.mem_cons_of_mem _ z)⟩, h3⟩
    | ownd es =>
      cases ov with
      | none => exact k
      | some v =>
        obtain ⟨q, vs, rfl, h1, h2, h3⟩ := k
        exact ⟨q, vs, rfl, h1, ⟨h2.1, h2.2.1, fun z => h2.2.2 (List.mem_cons_of_mem _ z)⟩, h3⟩
    | dice =>
      cases ov with
      | none => exact k
      | some v => exact k
  have here : ∀ {v : Option V} {t : Sl}, (ρ.set i (.own ds))[i]? = some t → (σ.set i (some (V.ref p)))[i]? = some v → v = some (V.ref p) := fun {v t} hr hs => by
    have hl : i < σ.length := by
      have := (List.getElem?_eq_some_iff.mp hs).1
      rwa [List.length_set] at this
    rw [List.getElem?_set_self hl] at hs
    cases hs
    rfl
  refine ⟨by rw [List.length_set, List.length_set]; exact E.len, fun j t h => ?_, fun j k s1 t1 v h1 h2 o1 o2 e1 e2 => ?_, E.ext, fun a h => ⟨(E.dc a h).1, fun z => (E.dc a h).2.1 ⟨z.1, ?_⟩, (E.dc a h).2.2⟩, fun a h => E.fr a fun z => h ⟨z.1, fun q => z.2 (List.mem_cons_of_mem _ q)⟩, E.tb⟩
  · by_cases hj : i = j
    · subst hj
      have hl : i < ρ.length := by
        have := (List.getElem?_eq_some_iff.mp h).1
        rwa [List.length_set] at this
      rw [List.getElem?_set_self hl] at h
      cases h
      exact ⟨_, List.getElem?_set_self (by rw [E.len]; exact hl), p, us, rfl, hp, ⟨h0, hS, hn⟩, r.widen av⟩
    · rw [List.getElem?_set_ne hj] at h
      obtain ⟨o, e, k⟩ := E.slot j t h
      exact ⟨o, by rw [List.getElem?_set_ne hj]; exact e, (less k).widen av⟩
  · by_cases hj : i = j
    · by_cases hk : i = k
      · rw [← hj, ← hk]
      · subst hj
        have ev := here h1 e1
        rw [List.getElem?_set_ne hk] at h2 e2
        subst ev
        exact absurd rfl (own_ne h2 o2 e2)
    · by_cases hk : i = k
      · subst hk
        have ev := here h2 e2
        rw [List.getElem?_set_ne hj] at h1 e1
        subst ev
        exact absurd rfl (own_ne h1 o1 e1)
      · rw [List.getElem?_set_ne hj] at h1 e1
        rw [List.getElem?_set_ne hk] at h2 e2
        exact E.dis j k s1 t1 v h1 h2 o1 o2 e1 e2
  · rcases Classical.em (a = p) with e | e
    · subst e; exact absurd h ndc
    · simp only [List.mem_cons, not_or]; exact ⟨e, z.2⟩
theorem EnvOk.setM : ∀ {is : List Nat} {ss : List Sl} {vs : List V} {ps : List Addr} {σ : L2.St} {ρ : Rho}, EnvOk (C.lessL ps) H σ ρ δ → (∀ p ∈ ps, C.S p ∧ Np C.H0 p ∧ C.dc ≠ some p) → RepM C.K H (Av (C.lessL ps) σ ρ) ss vs ps → ss.length = is.length →
    EnvOk C H ((is.zip vs).foldl (fun σ p => σ.set p.1 (some p.2)) σ) (setM is ss ρ) δ ∧ ∀ a, Own ((is.zip vs).foldl (fun σ p => σ.set p.1 (some p.2)) σ) (G8.setM is ss ρ) a → Own σ ρ a ∨ a ∈ ps
  | [], [], _, _, _, _, E, _, rm, _ => by
    cases rm
    exact ⟨by rw [lessL_nil] at E; exact E, fun a h => .inl h⟩
  | i :: is, _ :: ss, _, pq, σ, ρ, E, hp, rm, hl => by
    cases rm with
    | @val d v _ vs _ r rs =>
      have E1 : EnvOk (C.lessL pq) H (σ.set i (some v)) (ρ.set i (.val d)) δ := E.set rfl r
      have av : ∀ a, Av (C.lessL pq) σ ρ a → Av (C.lessL pq) (σ.set i (some v)) (ρ.set i (.val d)) a := fun a z => ⟨z.1, fun q => z.2 (own_set rfl q)⟩
      obtain ⟨h1, h2⟩ := EnvOk.setM (is := is) E1 hp (rs.mono Keep.refl av fun _ _ _ z => z) (by simpa using hl)
      exact ⟨h1, fun a h => (h2 a h).imp (own_set rfl) id⟩
    | @own ds p us _ vs ps hv r hn rs =>
      obtain ⟨q1, q2, q3⟩ := hp p (List.mem_cons_self ..)
      have E1 := EnvOk.setP (i := i) E hn q1 q2 q3 hv r
      have av : ∀ a, Av (C.lessL (p :: ps)) σ ρ a → Av (C.lessL ps) (σ.set i (some (.ref p))) (ρ.set i (.own ds)) a := fun a z =>
        ⟨⟨z.1.1, fun q => z.1.2 (List.mem_cons_of_mem _ q)⟩, fun q => (own_setO q).elim z.2 fun e => z.1.2 (by rw [e]; exact List.mem_cons_self ..)⟩
      obtain ⟨h1, h2⟩ := EnvOk.setM (is := is) E1 (fun q z => hp q (List.mem_cons_of_mem _ z)) (rs.mono Keep.refl av fun _ _ _ z => z) (by simpa using hl)
      refine ⟨h1, fun a h => ?_⟩
      rcases h2 a h with z | z
      · exact (own_setO z).imp id fun e => by rw [e]; exact List.mem_cons_self ..
      · exact .inr (List.mem_cons_of_mem _ z)
  | [], _ :: _, _, _, _, _, _, _, _, hl => by simp at hl
  | _ :: _, [], _, _, _, _, _, _, _, hl => by simp at hl
theorem setM_step {D : Ends} {is : List Nat} {ss : List Sl} {vs : List V} {ps : List Addr} {δ' : Dl} (E : EnvOk C H σ ρ δ) (x : Ext C H H1) (E1 : EnvOk C H1 σ ρ δ') (Ep : EnvOk (C.lessL ps) H1 σ ρ δ') (hp : ∀ p ∈ ps, Np H p) (rm : RepM C.K H1 (Av (C.lessL ps) σ ρ) ss vs ps) (hl : ss.length = is.length)
    (q : PostS C W D σ ρ H (some (.nx (setM is ss ρ), δ'))) : D.nx ((is.zip vs).foldl (fun σ p => σ.set p.1 (some p.2)) σ) H1 := by
  obtain ⟨h1, h2⟩ := EnvOk.setM Ep (fun p z => ⟨E.frN (hp p z), E.none_h0 (hp p z), fun d => hp p z _ (E.dc p d).1 nt_dice⟩) rm hl
  exact q _ H1 h1 ⟨E.keep x, fun a h => (h2 a h).imp id fun z => hp a z, fun a h => ext_same_none E x E1 h⟩
theorem s_parM2 {i j : Nat} {x y : Str} {px py pt : Pos} {kt k2 pt2} (nd : X.N.Nodup) (hij : i ≠ j) (ha : PA X [a, b] (rdM C W fm)) (hc : X.calm = true) (hi : X.N[i]? = some x := by rfl) (hj : X.N[j]? = some y := by rfl)
    (hx : X.env.scope.names.lookup x = some .local := by rfl) (hy : X.env.scope.names.lookup y = some .local := by rfl)
    (hw : swappedStores [.Tuple [.Name x px, .Name y py] kt pt] (.Tuple [a, b] k2 pt2) X.env = pure (some [x, y]) := by rfl)
    (hs : swapsWithSole [.Tuple [.Name x px, .Name y py] kt pt] (.Tuple [a, b] k2 pt2) pos.line X.env = pure false := by rfl) :
    PS X (.Assign [.Tuple [.Name x px, .Name y py] kt pt] (.Tuple [a, b] k2 pt2) pos) (rdS C W (sParM [i, j] fm)) :=
  (ps_par hc nd hi hj hij hx hy ha hw hs).imp fun D σ H ⟨ρ, δ, E, p⟩ => ⟨ρ, δ, E, (p.seqE E).mono fun ss δ1 H1 x1 E1 q vs ps Ep hp rm => by
    have q := q.2
    by_cases hl : ss.length = [i, j].length
    · rw [if_pos hl] at q
      have hv : vs.length = 2 := by rw [← rm.length]; exact hl
      match vs, hv, rm with
      | [v, w], _, rm => exact ⟨v, w, rfl, setM_step E x1 E1 Ep hp rm hl q⟩
    · rw [if_neg hl] at q
      exact q.elim⟩
theorem s_parM3 {i j l : Nat} {x y z : Str} {px py pz pt : Pos} {kt k2 pt2} (nd : X.N.Nodup) (hij : i ≠ j) (hil : i ≠ l) (hjl : j ≠ l) (ha : PA X [a, b, c] (rdM C W fm)) (hc : X.calm = true) (hi : X.N[i]? = some x := by rfl) (hj : X.N[j]? = some y := by rfl) (hl : X.N[l]? = some z := by rfl)
    (hx : X.env.scope.names.lookup x = some .local := by rfl) (hy : X.env.scope.names.lookup y = some .local := by rfl) (hz : X.env.scope.names.lookup z = some .local := by rfl)
    (hw : swappedStores [.Tuple [.Name x px, .Name y py, .Name z pz] kt pt] (.Tuple [a, b, c] k2 pt2) X.env = pure (some [x, y, z]) := by rfl)
    (hs : swapsWithSole [.Tuple [.Name x px, .Name y py, .Name z pz] kt pt] (.Tuple [a, b, c] k2 pt2) pos.line X.env = pure false := by rfl) :
    PS X (.Assign [.Tuple [.Name x px, .Name y py, .Name z pz] kt pt] (.Tuple [a, b, c] k2 pt2) pos) (rdS C W (sParM [i, j, l] fm)) :=
  (ps_par3 hc nd hi hj hl hij hil hjl hx hy hz ha hw hs).imp fun D σ H ⟨ρ, δ, E, p⟩ => ⟨ρ, δ, E, (p.seqE E).mono fun ss δ1 H1 x1 E1 q vs ps Ep hp rm => by
    have q := q.2
    by_cases hl : ss.length = [i, j, l].length
    · rw [if_pos hl] at q
      have hv : vs.length = 3 := by rw [← rm.length]; exact hl
      match vs, hv, rm with
      | [u, v, w], _, rm => exact ⟨u, v, w, rfl, setM_step E x1 E1 Ep hp rm hl q⟩
    · rw [if_neg hl] at q
      exact q.elim⟩
/-- by a tuple -/
theorem s_parMT {ts : List Expr} {is : List Nat} {k k2 : Nat} {tp tp2 : Pos} (nd : X.N.Nodup) (hc : X.calm = true) (n : Nms X ts is) (hK : X.K = C.K) (ha : PA X es (rdM C W fm)) (h4 : is.length ≤ 10000 := by decide)
    (hs : swapsWithSole [.Tuple ts k tp] (.Tuple es k2 tp2) pos.line X.env = pure false := by rfl) (hw : swappedStores [.Tuple ts k tp] (.Tuple es k2 tp2) X.env = pure none := by rfl) :
    PS X (.Assign [.Tuple ts k tp] (.Tuple es k2 tp2) pos) (rdS C W (sParM is fm)) :=
  (ps_asg (pe_tup ha) (pg_tup hc (n.pgs nd) n.len.1 n.len.2) hs hw).imp fun D σ H ⟨ρ, δ, E, p⟩ => ⟨ρ, δ, E, (p.seqE E).mono fun ss δ1 H1 x1 E1 q vs ps Ep hp rm => by
    have q := q.2
    by_cases hl : ss.length = is.length
    · rw [if_pos hl] at q
      have hv : vs.length = is.length := by rw [← rm.length]; exact hl
      refine ⟨to_line4 (by rw [hv]; exact h4), fun l hl' => ?_⟩
      have sm := same_new (o := .tup vs) hl'
      have E3 := E1.grow0 sm
      have Ep3 := Ep.grow0 sm
      refine ⟨l, vs, rfl, by rw [hK]; exact .inl (.inl upd_same), hv, gAll_run hv ?_⟩
      refine setM_step E (x1.trans (same_ext sm)) E3 Ep3 hp (rm.mono (same_keep sm) (fun _ z => z) fun p _ us z => sm p _ z) hl q
    · rw [if_neg hl] at q
      exact q.elim⟩
end
end G8

set_option Elab.async false
set_option linter.all false
set_option maxRecDepth 100000
set_option maxHeartbeats 1000000
namespace G8
open PySem PySem.Spec PyProof.Rows L2 LamX
/-! ### sorted(set(..)) of pairs -/
def asPairs : List D → Option (List (Int × Int))
  | [] => some []
  | .tuple [.int i, .int j] :: r => (asPairs r).map ((i, j) :: ·)
  | _ => none
theorem asPairs_map : ∀ ps : List (Int × Int), asPairs (ps.map fun p => .tuple [.int p.1, .int p.2]) = some ps
  | [] => rfl
  | (i, j) :: ps => by
    show (asPairs (ps.map fun p => .tuple [.int p.1, .int p.2])).map ((i, j) :: ·) = _
    rw [asPairs_map ps]
    rfl
theorem asPairs_eq : ∀ {ds : List D} {ps : List (Int × Int)}, asPairs ds = some ps → ds = ps.map fun p => .tuple [.int p.1, .int p.2]
  | [], ps, h => by cases h; rfl
  | d :: r, ps, h => by
    unfold asPairs at h
    split at h
    · cases h; rename_i e; cases e
    · rename_i i j r' e
      cases e
      cases e : asPairs r with
      | none => rw [e] at h; cases h
      | some m =>
        rw [e] at h
        cases h
        rw [asPairs_eq e]
        rfl
    · cases h
def cod (p : Int × Int) : Int := p.1 * 64 + p.2
def uncod (k : Int) : Int × Int := (k / 64, k % 64)
def psort (ps : List (Int × Int)) : List (Int × Int) := (ssort (ps.map cod)).map uncod
def okP (p : Int × Int) : Prop := (0 ≤ p.1 ∧ p.1 < 64) ∧ 0 ≤ p.2 ∧ p.2 < 64
instance (p : Int × Int) : Decidable (okP p) := inferInstanceAs (Decidable (_ ∧ _))
theorem uncod_cod {p : Int × Int} (h : okP p) : uncod (cod p) = p := by
  obtain ⟨a, b⟩ := p
  unfold okP at h
  unfold uncod cod
  simp only at h ⊢
  congr 1 <;> omega
def gSSP : D → Option (List D)
  | .list ds => match asPairs ds with
    | some ps => if ps.length < 64 ∧ ∀ p ∈ ps, okP p then some ((psort ps).map fun p => .tuple [.int p.1, .int p.2]) else none
    | none => none
  | _ => none
section
variable {X : Cx} {C : Ct} {W : Wx} {e a b c : Expr} {es : List Expr} {f g h : DE} {fl gl : DL} {fm : DM} {pos p p1 p2 p3 : Pos} {σ : L2.St} {ρ : Rho} {δ δ1 : Dl} {H H1 H' : Hp} {K : Fg}
theorem pair_refs {A : Addr → Prop} : ∀ {ps : List (Int × Int)} {vs : List V}, RepL K H A (ps.map fun p => .tuple [.int p.1, .int p.2]) vs → ∃ ks : List (Addr × List Int), vs = ks.map (fun p => V.ref p.1) ∧ ks.map (·.2) = ps.map (fun p => [p.1, p.2]) ∧ ∀ p ∈ ks, SqT K H p.1 (p.2.map V.int) := by
  intro ps
  induction ps with
  | nil =>
    intro vs r
    cases r
    exact ⟨[], rfl, rfl, fun _ z => nomatch z⟩
  | cons q ps ih =>
    intro vs r
    cases r with
    | cons r t =>
      cases r with
      | @tup a xs _ h l =>
        cases l with
        | cons l1 l2 =>
          cases l2 with
          | cons l2 l3 =>
            cases l1
            cases l2
            cases l3
            obtain ⟨ks, h1, h2, h3⟩ := ih t
            refine ⟨(a, [q.1, q.2]) :: ks, by rw [h1]; rfl, by rw [List.map_cons, h2]; rfl, fun p hp => ?_⟩
            rcases List.mem_cons.mp hp with rfl | hp
            · exact h
            · exact h3 p hp
theorem rep_pairs {A : Addr → Prop} : ∀ {L : List (Addr × List Int)} {ps : List (Int × Int)}, L.map (·.2) = ps.map (fun p => [p.1, p.2]) → (∀ p ∈ L, SqT K H p.1 (p.2.map V.int)) → RepL K H A (ps.map fun p => .tuple [.int p.1, .int p.2]) (L.map fun p => V.ref p.1)
  | [], [], _, _ => .nil
  | [], _ :: _, h, _ => by cases h
  | _ :: _, [], h, _ => by cases h
  | (a, l) :: L, (i, j) :: ps, h, hs => by
    simp only [List.map_cons, List.cons.injEq] at h
    obtain ⟨rfl, h⟩ := h
    exact .cons (.tup (hs (a, [i, j]) (List.mem_cons_self ..)) (.cons (.int _) (.cons (.int _) .nil))) (rep_pairs h fun p hp => hs p (List.mem_cons_of_mem _ hp))
theorem pairs_sorted {ps : List (Int × Int)} (ok : ∀ p ∈ ps, okP p) {L : List (List Int)} (hm : ∀ l, l ∈ L ↔ l ∈ ps.map fun p => [p.1, p.2]) (nd : L.Nodup) (pw : L.Pairwise fun x y => TS.code 64 x ≤ TS.code 64 y) : L = (psort ps).map fun p => [p.1, p.2] := by
  have hcode : ∀ l ∈ L, ∃ p, p ∈ ps ∧ l = [p.1, p.2] ∧ TS.code 64 l = cod p := fun l hl => by
    obtain ⟨p, hp, e⟩ := List.mem_map.mp ((hm l).mp hl)
    exact ⟨p, hp, e.symm, by rw [← e, code_pair]; rfl⟩
  have inj : ∀ x ∈ L, ∀ y ∈ L, TS.code 64 x = TS.code 64 y → x = y := fun x hx y hy e => by
    obtain ⟨p, hp, rfl, ep⟩ := hcode x hx
    obtain ⟨q, hq, rfl, eq⟩ := hcode y hy
    have h := uncod_cod (ok p hp)
    rw [ep, eq] at e
    rw [e, uncod_cod (ok q hq)] at h
    rw [h]
  have e1 : L.map (TS.code 64) = ssort (ps.map cod) := by
    refine lt_unique ?_ (ssort_lt _) fun k => ?_
    · rw [List.pairwise_map]
      have both := List.Pairwise.and pw nd
      refine List.Pairwise.imp_of_mem (fun {x y} hx hy h => ?_) both
      exact Int.lt_iff_le_and_ne.mpr ⟨h.1, fun z => h.2 (inj x hx y hy z)⟩
    · rw [ssort_mem]
      constructor
      · intro h
        obtain ⟨l, hl, rfl⟩ := List.mem_map.mp h
        obtain ⟨p, hp, _, e⟩ := hcode l hl
        rw [e]
        exact List.mem_map_of_mem hp
      · intro h
        obtain ⟨p, hp, rfl⟩ := List.mem_map.mp h
        have hl : [p.1, p.2] ∈ L := (hm _).mpr (List.mem_map.mpr ⟨p, hp, rfl⟩)
        exact List.mem_map.mpr ⟨_, hl, by rw [code_pair]; rfl⟩
  unfold psort
  rw [← e1, List.map_map, List.map_map]
  conv => lhs; rw [← List.map_id L]
  refine List.map_congr_left fun l hl => ?_
  obtain ⟨p, hp, rfl, e⟩ := hcode l hl
  show [p.1, p.2] = [(uncod (TS.code 64 [p.1, p.2])).1, (uncod (TS.code 64 [p.1, p.2])).2]
  rw [e, uncod_cod (ok p hp)]
theorem pd_ssP (hc : X.calm = true) (hu : X.A.units + 64 < cLine) (hm : X.mg "sorted" = none) (hm2 : X.mg "set" = none) (ha : PE X a (rdE C W f)) (hK : X.K = C.K) (hg : Gl X "sorted" := by rfl) (hg2 : Gl X "set" := by rfl) (na : starEach [a] X.env = (false, eval a X.env) :: starEach [] X.env := by rfl)
    (nb : starEach [.Call (.Name "set" p1) [a] [] p2] X.env = (false, eval (.Call (.Name "set" p1) [a] [] p2) X.env) :: starEach [] X.env := by rfl) :
    PE X (.Call (.Name "sorted" p) [.Call (.Name "set" p1) [a] [] p2] [] pos) (rdF C W (f1 gSSP f)) := by
  refine (pe_callB (cr_sortedT hc) hg hm boot_sorted (pa_cons (pe_callTy (cr_setOfT hc hu) hg2 hm2 boot_set (pa_cons ha pa_nil na) (by decide) (by decide) na) pa_nil nb) (by decide) (by decide) nb).imp fun σ H Q ⟨ρ, δ, E, p⟩ => ⟨ρ, δ, E, (Post.seq (R := fun _ ds _ H' => ∀ p vs, Np H p → H' p = some (.lst vs) → RepL C.K H' (fun a => Av C σ ρ a ∧ a ≠ p) ds vs → Q (.ref p) H') p anti_F).mono fun d δ1 H1 x1 E1 q v rv => ?_⟩
  obtain ⟨items, e, q⟩ := q.lft
  rw [hK]
  cases rv with
  | lst a1 h1 l =>
    rename_i al vs ds
    unfold gSSP at e
    cases e1 : asPairs ds with
    | none => simp [e1] at e
    | some ps =>
      simp only [e1] at e
      obtain ⟨⟨hl, ok⟩, rfl⟩ := ite_some e
      rw [asPairs_eq e1] at l
      obtain ⟨ks, hv, h2, h3⟩ := pair_refs l
      have hkl : ks.length = ps.length := by
        have := congrArg List.length h2
        simpa using this
      have hkm : ∀ q ∈ ks, ∃ p ∈ ps, q.2 = [p.1, p.2] := fun q hq => by
        have : q.2 ∈ ps.map fun p => [p.1, p.2] := by rw [← h2]; exact List.mem_map_of_mem hq
        obtain ⟨p, hp, e⟩ := List.mem_map.mp this
        exact ⟨p, hp, e.symm⟩
      refine ⟨al, ks, rfl, by rw [← hv]; exact .inl (.inl h1), h3, by omega, fun a L ha hL1 hL2 => ?_⟩
      have sm := same_new (o := SetTO X.prog X.w a L) ha
      refine ⟨a, L, 2, 64, rfl, upd_same, fun p hp => (same_keep (A := fun _ => True) sm).sqT (h3 p (hL1 p hp)), by decide, fun q hq => ?_, fun L' p pm nd few pw hp => ?_⟩
      · obtain ⟨p, hp, e⟩ := hkm q (hL1 q hq)
        have := ok p hp
        unfold okP at this
        rw [e]
        refine ⟨rfl, ?_⟩
        intro n hn
        simp only [List.mem_cons, List.not_mem_nil, or_false] at hn
        rcases hn with rfl | rfl
        · exact this.1
        · exact this.2
      · have sm2 := sm.trans (same_new (o := .lst (L'.map fun q => V.ref q.1)) hp)
        have hs : L'.map (·.2) = (psort ps).map fun p => [p.1, p.2] := by
          refine pairs_sorted ok (fun l => ?_) nd (by rw [List.pairwise_map]; exact pw)
          rw [(pm.map (·.2)).mem_iff]
          constructor
          · intro h
            obtain ⟨q, hq, rfl⟩ := List.mem_map.mp h
            rw [← h2]
            exact List.mem_map_of_mem (hL1 q hq)
          · intro h
            rw [← h2] at h
            obtain ⟨q, hq, rfl⟩ := List.mem_map.mp h
            exact hL2 q hq
        have hpn : H1 p = none := by
          by_cases z : p = a
          · rw [z]; exact ha
          · rw [upd_ne z] at hp; exact hp
        refine q _ (same_ext sm2) (E1.grow0 sm2) p _ (ext_same_none E x1 E1 (np_none hpn)) upd_same (rep_pairs hs fun z hz => ?_)
        exact (same_keep (A := fun _ => True) sm2).sqT (h3 z (hL1 z (pm.mem_iff.mp hz)))
  | _ => cases e
end
end G8

set_option Elab.async false
set_option linter.all false
set_option maxRecDepth 100000
set_option maxHeartbeats 1000000
namespace G8
open PySem PySem.Spec PyProof.Rows L2 LamX
/-! ### rows that are never come to -/
@[simp] def sBad : DS := fun _ _ => none
section
variable {X : Cx} {C : Ct} {W : Wx} {rest : List Stmt}
theorem q_dead : PSs X rest (rdS C W sBad) := ⟨fun pins s σ H D I ⟨_, _, _, p⟩ => p.elim⟩
end
end G8

set_option Elab.async false
set_option linter.all false
set_option maxRecDepth 100000
set_option maxHeartbeats 1000000
namespace G8
open PySem PySem.Spec PyProof.Rows L2 LamX
section
variable {X : Cx} {C : Ct} {W : Wx} {e a b o : Expr} {es : List Expr} {f g h : DE} {fl gl : DL} {pos p1 p2 p3 apos cpos : Pos} {σ : L2.St} {ρ : Rho} {δ δ1 : Dl} {H H1 : Hp} {K : Fg} {t : TA} {to te : TE} {name : Str} {id : String} {r : V → List V → Hp → VK → Prop}
/-- a tuple's own object, no dict -/
def FrzT (H : Hp) (p : Addr) (ys : List V) : Prop := ∃ o : Obj, o.cls = .type "tuple" ∧ o.dict = none ∧ H p = some (.frz o (.tup ys))
/-- tuple(list): the new object is known -/
theorem call_tupleF : CallR X (.type "tuple") (fun xs H Q => ∃ p ys, xs = [.ref p] ∧ SqL X.K H p ys ∧ ∀ l o, H l = none → o.cls = .type "tuple" → o.dict = none → Q (.ref l) (upd H l (.frz o (.tup ys)))) := by
  intro pins s σ H xs us Q I r h
  obtain ⟨p, ys, rfl, hq, q⟩ := h
  obtain ⟨u, rfl, rx⟩ := vals1 r
  cases rx
  obtain ⟨its, r', pl, hz⟩ := I.list hq
  have hlen := r'.length
  refine call_tuple_list pl.isList (fun h' kp => ?_) (by simp only [List.size_toArray] <;> omega)
  have I1 : Inv X pins σ H { s with heap := h' } := I.kept (t' := s.toks) kp
  have I2 : Inv X pins σ (upd H h'.objs.size (.frz { cls := .type "tuple", data := .seq its.toArray } (.tup ys))) { s with heap := h'.push { cls := .type "tuple", data := .seq its.toArray } } :=
    I1.laid (t' := s.toks) (fun b o e => Heap.get?_push_of_some _ e) (Nat.le_refl _) (show ObjOk X.prog X.w _ _ _ (.frz _ (.tup ys)) from ⟨Heap.get?_push_size _ rfl, hz, its, r', IsTup.new _ _⟩)
  exact ⟨.ref h'.objs.size, _, I2, rfl, q _ _ (I1.hok.fresh (Nat.le_refl _)) rfl rfl⟩
/-- a method of such a tuple -/
def tBMF (r : V → List V → Hp → VK → Prop) (to : TE) (t : TA) : TE := fun σ H Q => to σ H fun x H1 => (∃ p ys, x = .ref p ∧ FrzT H1 p ys) ∧ t σ H1 fun xs H2 => r x xs H2 Q
theorem pe_bmF (pa : PlainAttrs "tuple") (slot : Slot "tuple" name id) (hty : typeOf (.builtin id) = pure (.type "method_descriptor")) (hm : MtR X id r) (ho : PE X o to) (ha : PA X (e :: es) t)
    (hbase : attributeBase o name X.env (eval o X.env) = eval o X.env := by rfl)
    (hfew : ((backTo cpos (starEach (e :: es) X.env)).all (fun x => !x.1) && (backToKw cpos (keywordEach [] X.env)).all (fun x => x.1.isSome)
      && decide ((e :: es).length + ([] : List Keyword).length + (if ([] : List Keyword).isEmpty then 0 else 1) < 30)) = true := by rfl)
    (hline : (apos.endLine == cpos.line) = true := by rfl) (hs : starEach (e :: es) X.env = (false, eval e X.env) :: starEach es X.env := by rfl) (hplain : (backTo cpos (starEach es X.env)).any (·.1) = false := by rfl) :
    PE X (.Call (.Attribute o name apos) (e :: es) [] cpos) (tBMF r to t) := by
  refine ⟨fun pins s σ H Q I h => ?_⟩
  refine wpAny_Call_method_late hbase hfew hline rfl (thn (ho.run pins s σ H _ I h) fun v s1 ⟨x, H1, I1, r1, ty, q1⟩ => ?_)
  obtain ⟨p, ys, rfl, ob, hc, hd, hp⟩ := ty
  cases r1
  have hob : s1.heap.get? p = some ob := (I1.hok p _ hp).1
  refine ⟨"tuple", id, pa, slot, hty, ?_, fun a e => by cases e; exact ⟨ob, hob, hd⟩, ?_⟩
  · exact ⟨ob, hob, hc⟩
  have hA := ha.run cpos pins s1 σ H1 _ I1 q1
  rw [hs] at hA ⊢
  refine Calls.callWith_builtin (by show (false || (backTo cpos (starEach es X.env)).any (·.1)) = false; rw [hplain] <;> rfl) (Calls.evalArgs_plain ?_)
  exact thn hA fun us s2 ⟨vs, H2, I2, r2, q2⟩ => hm pins s2 σ H2 (.ref p) vs (.ref p) us Q I2 rfl r2 q2
theorem seqS {D : Ends} {g h : DS} (p : PostS C W D σ ρ H (sSeq g h ρ δ)) : PostS C W { D with nx := rdS C W h D } σ ρ H (g ρ δ) := by
  unfold sSeq at p
  revert p
  cases g ρ δ with
  | none => exact fun p => p
  | some r =>
    obtain ⟨r, δ'⟩ := r
    cases r with
    | nx ρ' => exact fun p σ' H' E' s => ⟨ρ', δ', E', p.later s⟩
    | brk ρ' => exact fun p => p
    | ct ρ' => exact fun p => p
    | ret d => exact fun p => p
    | exc x => exact fun p => p
/-- the place of an int in a tuple of ints -/
def gIdxT (ds : List D) : D → Option D
  | .int k => match asInts ds with
    | some ns => if k ∈ ns then some (.int (ns.idxOf k : Nat)) else none
    | none => none
  | _ => none
/-- t = tuple(f); a, b = f2, t.index(g) -/
@[simp] def sTI (i : Nat) (is : List Nat) (f f2 g : DE) : DS := fun ρ δ => bndS (f ρ δ) fun a δ => match a with
  | .list ds => if i < ρ.length then bndS (f2 (ρ.set i (.val (.tuple ds))) δ) fun w δ => bndS (g (ρ.set i (.val (.tuple ds))) δ) fun b δ => bndS (lft (gIdxT ds b) δ) fun k δ => if [w, k].length = is.length then some (.nx (setAll is [w, k] (ρ.set i (.val (.tuple ds)))), δ) else none else none
  | _ => none
theorem q_tupIdx {e2 : Expr} {rest : List Stmt} {d : DS} {i : Nat} {x : Str} {px p5 tp tp2 posA posB pos1 : Pos} {ts : List Expr} {is : List Nat} {k k2 : Nat} (nd : X.N.Nodup) (hc : X.calm = true) (n : Nms X ts is) (hK : X.K = C.K) (hm : X.mg "tuple" = none)
    (he : PE X e (rdE C W f)) (h2 : PE X e2 (rdE C W g)) (hb : PE X b (rdE C W h)) (hr : PSs X rest (rdS C W d)) (hi : X.N[i]? = some x := by rfl) (hx : Loc X.env.scope x := by first | exact Or.inl rfl | exact Or.inr rfl) (hv : Vis X.env.scope x := by first | exact Or.inl rfl | exact Or.inr (Or.inl rfl) | exact Or.inr (Or.inr rfl))
    (hd : (x == ("__debug__" : Str)) = false := by decide) (hcd : (x == ("__classdict__" : Str)) = false := by decide) (hg : Gl X "tuple" := by rfl)
    (hf : X.fn x = true ∨ X.env.scope.names.lookup x = some .local := by first | exact .inl rfl | exact .inr rfl | assumption)
    (z1 : starEach [e] X.env = (false, eval e X.env) :: starEach [] X.env := by rfl)
    (z2 : swapsWithSole [.Name x px] (.Call (.Name "tuple" p1) [e] [] pos1) posA.line X.env = pure false := by rfl) (z3 : swappedStores [.Name x px] (.Call (.Name "tuple" p1) [e] [] pos1) X.env = pure none := by rfl)
    (z4 : swapsWithSole [.Tuple ts k tp] (.Tuple [e2, .Call (.Attribute (.Name x p5) "index" p2) [b] [] p3] k2 tp2) posB.line X.env = pure false := by rfl) (z5 : swappedStores [.Tuple ts k tp] (.Tuple [e2, .Call (.Attribute (.Name x p5) "index" p2) [b] [] p3] k2 tp2) X.env = pure none := by rfl)
    (z6 : starEach [b] X.env = (false, eval b X.env) :: starEach [] X.env := by rfl) (z7 : attributeBase (.Name x p5) "index" X.env (eval (.Name x p5) X.env) = eval (.Name x p5) X.env := by rfl)
    (z8 : ((backTo p3 (starEach [b] X.env)).all (fun x => !x.1) && (backToKw p3 (keywordEach [] X.env)).all (fun x => x.1.isSome)
      && decide ([b].length + ([] : List Keyword).length + (if ([] : List Keyword).isEmpty then 0 else 1) < 30)) = true := by rfl) (z9 : (p2.endLine == p3.line) = true := by rfl)
    (z10 : starEach [e2, .Call (.Attribute (.Name x p5) "index" p2) [b] [] p3] X.env = (false, eval e2 X.env) :: starEach [.Call (.Attribute (.Name x p5) "index" p2) [b] [] p3] X.env := by rfl)
    (z11 : starEach [.Call (.Attribute (.Name x p5) "index" p2) [b] [] p3] X.env = (false, eval (.Call (.Attribute (.Name x p5) "index" p2) [b] [] p3) X.env) :: starEach [] X.env := by rfl) :
    PSs X (.Assign [.Name x px] (.Call (.Name "tuple" p1) [e] [] pos1) posA :: .Assign [.Tuple ts k tp] (.Tuple [e2, .Call (.Attribute (.Name x p5) "index" p2) [b] [] p3] k2 tp2) posB :: rest) (rdS C W (sSeq (sTI i is f g h) d)) := by
  have hidx := pe_bmF (o := .Name x p5) (apos := p2) (cpos := p3) PySem.F.plainAttrs_tuple PySem.F.slot_tuple_index PySem.F.type_tuple_index mt_tupIdx (pe_var hi hv hd hcd) (pa_cons hb pa_nil z6) z7 z8 z9 z6
  refine (pss_cons (ps_asg (pe_callTy call_tupleF hg hm boot_tuple (pa_cons he pa_nil z1) (by decide) (by decide) z1) (pg_name nd hi hx hf) z2 z3) (pss_cons (ps_asg (pe_tup (pa_cons h2 (pa_cons hidx pa_nil z11) z10)) (pg_tup hc (n.pgs nd) n.len.1 n.len.2) z4 z5) hr)).imp fun D σ H ⟨ρ, δ, E, p⟩ => ?_
  have p := seqS p
  refine ⟨ρ, δ, E, (p.seqE E).mono fun a δ1 H1 x1 E1 q v r => ?_⟩
  have q := q.1
  cases r with
  | lst a1 h1 l =>
    rename_i pl vs ds _
    by_cases hlt : i < ρ.length
    · simp only [hlt, if_true] at q
      refine ⟨pl, vs, rfl, .inl (.inl h1), fun t ob ht oc od => ?_⟩
      have sm := same_new (o := .frz ob (.tup vs)) ht
      have E2 := E1.grow0 sm
      have rt : Rep C.K (upd H1 t (.frz ob (.tup vs))) (Av C σ ρ) (.tuple ds) (.ref t) := .tup (.inl (.inr ⟨ob, upd_same⟩)) (l.keep (same_keep sm))
      have E3 : EnvOk C _ (σ.set i (some (.ref t))) (ρ.set i (.val (.tuple ds))) δ1 := E2.set rfl rt
      have S3 : Step C σ ρ H1 (σ.set i (some (.ref t))) (ρ.set i (.val (.tuple ds))) _ := (Step.of_ext E1 (same_ext sm) E2).trans (Step.set E2 rfl)
      have ndc : ¬ C.dc = some t := fun z => by have := (E1.dc t z).1; rw [ht] at this; cases this
      have q' := PostS.later q S3
      refine ⟨_, δ1, E3, (q'.seqE E3).mono fun w δ2 H3 x3 E4 qq vw rw => ?_⟩
      have qq := qq.1
      have f3 : H3 t = some (.frz ob (.tup vs)) := x3 t _ ndc nt_frz upd_same
      refine ⟨.ref t, by rw [List.getElem?_set_self (by rw [E.len]; exact hlt)], ⟨t, vs, rfl, ob, oc, od, f3⟩, _, δ2, E4, (qq.seqE E4).mono fun bb δ3 H4 x4 E5 q5 vb rb => ?_⟩
      have q5 := q5.1
      have f4 : H4 t = some (.frz ob (.tup vs)) := x4 t _ ndc nt_frz f3
      cases eg : gIdxT ds bb with
      | none => rw [eg] at q5; exact q5.elim
      | some z =>
        rw [eg] at q5
        unfold gIdxT at eg
        cases bb with
        | int kk =>
          cases ea : asInts ds with
          | none => simp only [ea] at eg; cases eg
          | some ns =>
            simp only [ea] at eg
            obtain ⟨hk, rfl⟩ := ite_some eg
            have hds : ds = ns.map .int := asInts_eq ea
            subst hds
            have hvs : vs = ns.map .int := repL_ints l
            subst hvs
            cases rb
            refine ⟨t, ns, kk, rfl, rfl, by rw [hK]; exact .inl (.inr ⟨ob, f4⟩), hk, to_line4 (by decide : 2 ≤ 10000), fun pp hp => ?_⟩
            have sm2 := same_new (o := .tup [vw, .int ((ns.idxOf kk : Nat) : Int)]) hp
            have E6 := E5.grow0 sm2
            have rw4 := (rw.keep (E4.keep x4)).keep (same_keep sm2)
            by_cases hl : [w, PyData.int ((ns.idxOf kk : Nat) : Int)].length = is.length
            · have q6 : PostS C W { D with nx := rdS C W d D } (σ.set i (some (.ref t))) (ρ.set i (.val (.tuple (ns.map .int)))) H4 (some (.nx (setAll is [w, PyData.int ((ns.idxOf kk : Nat) : Int)] (ρ.set i (.val (.tuple (ns.map .int))))), δ3)) := by
                have := q5
                simp only [lft, bndS, if_pos hl] at this
                exact this
              obtain ⟨a1, a2⟩ := E6.setAll (.cons rw4 (.cons (.int _) .nil)) hl
              refine ⟨pp, _, rfl, by rw [hK]; exact .inl (.inl upd_same), hl, gAll_run hl (q6 _ _ a1 ((Step.of_ext E5 (same_ext sm2) E6).trans a2))⟩
            · simp only [lft, bndS, if_neg hl] at q5
              exact q5.elim
        | _ => cases eg
    · simp only [hlt, if_false] at q
      exact q.elim
  | _ => exact q.elim
end
end G8

set_option Elab.async false
set_option linter.all false
set_option maxRecDepth 100000
set_option maxHeartbeats 2000000
namespace G8
open PySem PySem.Spec PyProof.Rows L2 LamX
/-- a def that makes lambdas: its code object c, the table Pt of that -/
structure TabOk (K : Fg) (mg : Str → Option Value) (base : Heap) (T : List (Addr × Str)) (x : Str) (st : Stmt) (f : Addr) (fd : FuncData) (c Pt : Addr) : Prop where
  fn : ∃ (oc : Value) (od : Option Addr) (kV doc pm : Value) (an : Option Addr) (ct : Value) (osl : Array (Option Value)), fd = PySem.W.fnOf x x (defArgs st) (defBody st) (defScope st) .none kV doc pm an (.ref c) ct ∧ K.lookup f = some ⟨oc, od, .func fd, osl⟩ ∧ PySem.W.codeIn K (.ref c) x = true
  tb : TabB base mg c Pt
  hm : (Pt, x ++ ".<locals>." ++ "<lambda>") ∈ T
  hu : ∀ p ∈ T, p.1 = Pt → p.2 = x ++ ".<locals>." ++ "<lambda>"
section
variable {P : Program} {w : World} {K : Fg} {mg : Str → Option Value} {base : Heap} {x : Str} {st : Stmt} {f c Pt : Addr} {fd : FuncData} {N ps : List Str} {k : Nat} {cl : String → Addr} {T : List (Addr × Str)} {body : DS}
theorem okL {sp : Sp} (F : TabOk K mg base T x st f fd c Pt) (S : FnScope N ps (defScope st)) (hl : ∀ vs H Q E, sp vs H Q E → vs.length = ps.length)
    (hw : ∀ (A : Around) (outer : List Env) (s : Shared) (H : Hp) (vs : List V) (Q : VK) (E : XK), Room k (A.deeper (envOfC x (defScope st) s.heap.objs.size f (.ref c))) → sp vs H Q E →
      ∃ t, PSs (cxOf (L2N.CX P w) P w K mg base N x (defScope st) f (.ref c) A outer s H E) (defBody st) t ∧ t { nx := fun _ H' => Q .non H', rt := Q } (L2.start N vs) H) : FnOk P w K mg base (L2N.CX P w) (k + 1) f fd ps sp := by
  obtain ⟨_, _, _, _, _, _, _, _, rfl, h1, h2⟩ := F.fn
  exact fn_of h1 h2 S hl hw
theorem fnPL (F : TabOk K mg base T x st f fd c Pt) (S : FnScope N ps (defScope st)) (hm : mg x = some (.ref f)) (kp : PySem.W.keepIn K (.ref f) = true) (hb : Binds K fd ps []) (cl : String → Addr)
    (hbody : ∀ (A : Around) (outer : List Env) (s : Shared) (H : Hp) (E : XK) (S : Addr → Prop) (H0 : Hp) (dc : Option Addr) (W : Wx), Room k (A.deeper (envOfC x (defScope st) s.heap.objs.size f (.ref c))) →
      L2N.Takes (cxOf (L2N.CX P w) P w K mg base N x (defScope st) f (.ref c) A outer s H E) (WXof cl W) → PSs (cxOf (L2N.CX P w) P w K mg base N x (defScope st) f (.ref c) A outer s H E) (defBody st) (rdS ⟨K, S, H0, dc, T⟩ W body)) :
    FnP P w K mg base cl T x (k + 1) ps.length (run N.length ps.length body) := by
  refine ⟨⟨f, fd, ps, okL F S (fun vs H Q E ⟨ds, _, hl, _, _, r, _⟩ => by rw [← r.length]; exact hl) (fun A outer s H vs Q E hr ⟨ds, A0, hl, hf, ht, r, q⟩ => ?_), hm, kp, hb⟩, fun ds r e => run_len e⟩
  let C : Ct := ⟨K, A0, H, none, T⟩
  let W : Wx := fun x σ H' => E (.ref (cl x)) none H'
  have tk : L2N.Takes (cxOf (L2N.CX P w) P w K mg base N x (defScope st) f (.ref c) A outer s H E) (WXof cl W) := (L2N.takes_of (E := E) rfl rfl rfl rfl).imp fun c d σ H' ⟨y, e1, e2, z⟩ => by
    rw [e1, e2]
    exact z
  refine ⟨_, hbody A outer s H E A0 H none W hr tk, startR N.length ps.length ds, (0, 0), ?_, ?_⟩
  · have hv := r.length
    have noown : ∀ a, ¬ Own (L2.start N vs) (startR N.length ps.length ds) a := fun a ⟨i, s, h1, h2, h3⟩ => by
      obtain ⟨_, _, _, z⟩ := start_slot (C := C) (H := H) (A := A0) r hl h1
      rw [z] at h2
      cases h2
    refine ⟨?_, fun i s h => ?_, fun i j s t v h1 _ h3 _ _ _ => ?_, fun _ _ _ _ h => h, fun a h => (nomatch h), hf, ht⟩
    · unfold L2.start startR
      simp only [List.length_append, List.length_map, List.length_replicate]
      omega
    · obtain ⟨ov, h1, h2, _⟩ := start_slot (C := C) (H := H) (A := A0) r hl h
      exact ⟨ov, h1, h2.widen fun a z => ⟨z, noown a⟩⟩
    · obtain ⟨_, _, _, z⟩ := start_slot (C := C) (H := H) (A := A0) r hl h1
      rw [z] at h3
      cases h3
  · have hS : ∀ {H'}, Ext C C.H0 H' → ExtN H H' := fun x a o h n => x a o (fun z => nomatch z) n h
    unfold run at q
    rw [if_pos hl] at q
    revert q
    cases body (startR N.length ps.length ds) (0, 0) with
    | none => exact fun q => q
    | some r =>
      obtain ⟨r, δ'⟩ := r
      cases r with
      | nx ρ' => exact fun q σ' H' E' s' => q .non H' (hS E'.ext) E'.tb .non
      | ret d => exact fun q v H' x _ t r => q v H' (hS x) t r
      | exc y => exact fun q σ' H' x _ t => q H' (hS x) t
      | brk ρ' => exact fun q => q.elim
      | ct ρ' => exact fun q => q.elim
end
/-- the table of a def of the program's top, as the head leaves it -/
def TabAt (K : Fg) (mg : Str → Option Value) (h : Heap) (x : Str) : Prop := ∀ (f c Pt : Addr) (o : Obj) (fd : FuncData) (e : Value) (dd : Option Addr) (vs : Array Value) (sl : Array (Option Value)), mg x = some (.ref f) → K.lookup f = some o → o.data = .func fd → fd.code = .ref c →
  K.lookup c = some ⟨e, dd, .fields vs, sl⟩ → vs[11]? = some (.ref Pt) → h.get? Pt = some { cls := .none, data := .fields #[] } ∧ PySem.W.CodeHd h c Pt
/-- from the law's def to the row: tables, and what the head tells of its loose names -/
theorem walkT {l : PySem.W.OpenLaw} {n k : Nat} {q : Program} {loose : List Str} {XP : (Str → Option Value) → Heap → Prop} {YP : World → Heap → Prop} {d : DefRec} {K : Params → Fg} {x : Str} {sp : Fg → List (Addr × Str) → Sp}
    (hn : l.most = some n) (hs : n ≤ sizeLine) (hf : d.params.defaults = []) (hr : Room k callerA) (hY : ∀ w h, YP w h → (K w.params).In h)
    (F : ∀ w mg fa h, (K w.params).In h → h.Ns mainGlobals mg → XP mg h → mg d.name = some (.ref fa) → (∀ y, ((recsOf q).any fun e => e.name == y) = true → TabAt (K w.params) mg h y) →
      ∃ (fd : FuncData) (cs : List (Addr × Addr × Str)), (∀ p ∈ cs, h.get? p.2.1 = some { cls := .none, data := .fields #[] }) ∧ (∀ p ∈ cs, (K w.params).lookup p.2.1 = none) ∧ (∀ p ∈ cs, PySem.W.CodeHd h p.1 p.2.1) ∧ (∀ s u, BindsTo s fd ⟨[u], []⟩ [(x, u)]) ∧
        ∀ base, (∀ p ∈ cs, TabB base mg p.1 p.2.1) → FnOk l.prog w (K w.params) mg base (L2N.CX l.prog w) k fa fd [x] (sp (K w.params) (cs.map (·.2))))
    (hp : ∀ (K : Fg) (T : List (Addr × Str)) (H : Hp) (a : Addr) (ns : List Int), ns.length ≤ n → Tabs T H → SqL K H a (ns.map V.int) → sp K T [.ref a] H (fun v _ => v = .bl true) fun _ _ _ => False) :
    PySem.W.WalkO q loose XP YP l.row.toRowW d [] (fun f vs => PySem.call f vs) :=
  Att.attach_callB hn hf fun w s₀ s₁ mg mb fa o pm cd doc a vs ns G Y ho hd hcd hmg hobj hints hlen hbits hg => by
    have KX := hY w _ Y
    have tabs : ∀ y, ((recsOf q).any fun e => e.name == y) = true → TabAt (K w.params) mg s₁.heap y := fun y hy f c Pt o fd e dd vs sl k0 k1 k2 k3 k4 k5 => by
      obtain ⟨dL, hm, hn1⟩ := List.any_eq_true.mp hy
      have hn2 : dL.name = y := beq_iff_eq.mp hn1
      obtain ⟨a', o', fd', c', P', h1, h2, h3, h4, h5, h6⟩ := G.T.tab dL hm
      rw [hn2, k0] at h1
      cases h1
      have g1 := KX _ _ k1
      rw [g1] at h2
      cases h2
      rw [k2] at h3
      cases h3
      rw [k3] at h4
      cases h4
      have hd := PySem.W.CodeHd.of h5 h6
      obtain ⟨⟨oc, vc, e1, _, e3, e4⟩, hP⟩ := h6
      have g2 := KX _ _ k4
      rw [g2] at e1
      cases e1
      cases e3
      rw [k5] at e4
      cases e4
      exact ⟨hP, hd⟩
    obtain ⟨fd, cs, hT, nT, C, hb, hF⟩ := F w mg fa _ KX G.T.g G.X hmg tabs
    refine law_callTs (cs := cs.map fun p => (p.1, p.2.1)) KX G.T.g G.T.b G.T.builtins G.T.nolimit hg (fun p hp => ?_) (fun p hp => ?_) (fun p hp => ?_) G.T.bmain hobj hints (Nat.le_trans hlen hs) hr
      (fun base _ _ TB => hF base fun p hp => TB (p.1, p.2.1) (List.mem_map.mpr ⟨p, hp, rfl⟩)) hb (fun H hH hS => hp _ _ H a ns hlen (fun p hp => ?_) hS) fun H e s' h => ?_
    · obtain ⟨p', hp', rfl⟩ := List.mem_map.mp hp
      exact hT p' hp'
    · obtain ⟨p', hp', rfl⟩ := List.mem_map.mp hp
      exact nT p' hp'
    · obtain ⟨p', hp', rfl⟩ := List.mem_map.mp hp
      exact C p' hp'
    · obtain ⟨p', hp', rfl⟩ := List.mem_map.mp hp
      exact TabS.nil (hH (p'.1, p'.2.1) (List.mem_map.mpr ⟨p', hp', rfl⟩))
    · obtain ⟨_, _, _, _, _, _, _, _, _, _, _, _, z⟩ := h
      exact z
/-! ### the end, def by def -/
def DefOk (K : Fg) (mg : Str → Option Value) (x : Str) (st : Stmt) : Prop := ∃ f fd, Fun K x x st f fd ∧ mg x = some (.ref f)
theorem defOk {K : Fg} {h : Heap} {mg : Str → Option Value} (X : K.In h) (G : h.Ns mainGlobals mg) {x : Str} {st : Stmt} {f : Addr} {od an : Option Addr} {sl : Array (Option Value)} {oc kV dc pm cd ct : Value}
    (a : PySem.W.nsIn K mainGlobals x = some (some (.ref f))) (l : K.lookup f = some ⟨oc, od, .func (PySem.W.fnOf x x (defArgs st) (defBody st) (defScope st) .none kV dc pm an cd ct), sl⟩) (c : PySem.W.codeIn K cd x = true) (k : PySem.W.keepIn K (.ref f) = true) : DefOk K mg x st :=
  ⟨f, _, fun_mk (st := st) l c k, PySem.W.mg_of X G a⟩
/-- .. of a def that makes lambdas -/
def DefT (K : Fg) (mg : Str → Option Value) (h : Heap) (x : Str) (st : Stmt) (c Pt : Addr) : Prop := ∃ f fd, Fun K x x st f fd ∧ mg x = some (.ref f) ∧
  (∃ (oc : Value) (od : Option Addr) (kV doc pm : Value) (an : Option Addr) (ct : Value) (osl : Array (Option Value)), fd = PySem.W.fnOf x x (defArgs st) (defBody st) (defScope st) .none kV doc pm an (.ref c) ct ∧ K.lookup f = some ⟨oc, od, .func fd, osl⟩ ∧ PySem.W.codeIn K (.ref c) x = true) ∧
  h.get? Pt = some { cls := .none, data := .fields #[] } ∧ K.lookup Pt = none ∧ PySem.W.CodeHd h c Pt
theorem defT {K : Fg} {h : Heap} {mg : Str → Option Value} (X : K.In h) (G : h.Ns mainGlobals mg) {x : Str} {st : Stmt} {f c Pt : Addr} {od an dd : Option Addr} {sl sl2 : Array (Option Value)} {oc kV dc pm ct e : Value} {vs : Array Value} (tb : TabAt K mg h x)
    (a : PySem.W.nsIn K mainGlobals x = some (some (.ref f))) (l : K.lookup f = some ⟨oc, od, .func (PySem.W.fnOf x x (defArgs st) (defBody st) (defScope st) .none kV dc pm an (.ref c) ct), sl⟩) (hc : PySem.W.codeIn K (.ref c) x = true) (k : PySem.W.keepIn K (.ref f) = true)
    (lc : K.lookup c = some ⟨e, dd, .fields vs, sl2⟩) (lv : vs[11]? = some (.ref Pt)) (ln : K.lookup Pt = none) : DefT K mg h x st c Pt := by
  have m := PySem.W.mg_of X G a
  obtain ⟨h1, h2⟩ := tb f c Pt _ _ e dd vs sl2 m l rfl rfl lc lv
  exact ⟨f, _, fun_mk (st := st) l hc k, m, ⟨_, _, _, _, _, _, _, _, rfl, l, hc⟩, h1, ln, h2⟩
theorem bindsLaw {K : Fg} {st : Stmt} {f : Addr} {fd : FuncData} (F : Fun K "law" "law" st f fd) (hb : ∀ (kV dc pm : Value) (an : Option Addr) (cd ct : Value) (s : Shared) (v : Value), BindsTo s (PySem.W.fnOf "law" "law" (defArgs st) (defBody st) (defScope st) .none kV dc pm an cd ct) ⟨[v], []⟩ [("script", v)]) (s : Shared) (v : Value) : BindsTo s fd ⟨[v], []⟩ [("script", v)] := by
  obtain ⟨_, _, _, _, _, _, _, _, _, rfl, _, _⟩ := F.ex
  exact hb _ _ _ _ _ _ s v
inductive Ns2 (K : Fg) : List String → List Addr → Prop
  | nil : Ns2 K [] []
  | cons {x : String} {a : Addr} {xs : List String} {as : List Addr} : PySem.W.nsIn K mainGlobals (Str.ofString x) = some (some (.ref a)) → Ns2 K xs as → Ns2 K (x :: xs) (a :: as)
theorem gs_of {K : Fg} {h : Heap} {mg : Str → Option Value} (X : K.In h) (G : h.Ns mainGlobals mg) : ∀ {NS : List String} {as : List Addr}, Ns2 K NS as → ∀ i, i < NS.length → mg (Str.ofString (NS.getD i "")) = some (.ref (as.getD i 0))
  | _, _, .nil, _, h => absurd h (by simp)
  | _, _, .cons e _, 0, _ => PySem.W.mg_of X G e
  | _, _, .cons _ r, i + 1, h => gs_of X G r i (by simpa using h)
end G8

set_option Elab.async false
set_option linter.all false
set_option maxRecDepth 100000
set_option maxHeartbeats 1000000
namespace G8
open PySem PySem.Spec PyProof.Rows L2 LamX
/-! ### C(..), __init__ raises -/
def spI (K : Fg) (cl : String → Addr) (T : List (Addr × Str)) (n : Nat) (g : Fs) : Sp := fun vs H Q E => ∃ x rest ds S y, vs = x :: rest ∧ ds.length = n ∧ (∀ a, ¬ S a → ∃ o, nt o ∧ H a = some o) ∧ Tabs T H ∧ RepL K H S ds rest ∧ g ds = some (.error y) ∧ ∀ H', ExtN H H' → Tabs T H' → E (.ref (cl y)) none H'
@[simp] def runI (N n : Nat) (body : DS) : Fs := fun ds => if ds.length = n then (match body (.un :: startR (N - 1) n ds) (0, 0) with
  | some (.exc x, _) => some (.error x)
  | _ => none) else none
structure FnI (P : Program) (w : World) (K : Fg) (mg : Str → Option Value) (base : Heap) (cl : String → Addr) (T : List (Addr × Str)) (x : Str) (k n : Nat) (g : Fs) : Prop where
  ex : ∃ C f fd ps, Mk K C f ∧ FnOk P w K mg base (L2N.CX P w) k f fd ps (spI K cl T n g) ∧ mg x = some (.ref C) ∧ Binds K fd ps []
  len : ∀ ds r, g ds = some r → ds.length = n
  err : ∀ ds d, g ds ≠ some (.ok d)
section
variable {X : Cx} {C : Ct} {W : Wx} {e : Expr} {es : List Expr} {fa : DL} {pos p : Pos} {x : Str} {k n : Nat} {cl : String → Addr} {t : TA} {E : L2.St → XK} {f A : Addr} {fd : FuncData} {ps : List Str} {sp : Sp} {CX : CXT}
/-- C(..): what is let out is taken at these slots -/
theorem pe_makeS (M : Mk X.K A f) (F : FnOk X.prog X.w X.K X.mg X.base CX k f fd ps sp) (room : Room (k + 1) X.A) (gl : Gl X x) (at_ : X.mg x = some (.ref A)) (bi : Binds X.K fd ps []) (hx : ∀ σ, PassesAt CX X σ (E σ)) (ha : PA X (e :: es) t)
    (hdb : (x == ("__debug__" : Str)) = false := by decide) (st : starEach (e :: es) X.env = (false, eval e X.env) :: starEach es X.env := by rfl) (hpl : (backTo pos (starEach es X.env)).any (·.1) = false := by rfl) :
    PE X (.Call (.Name x p) (e :: es) [] pos) (fun σ H Q => t σ H fun vs H1 => ∀ y dy, H1 y = none → H1 dy = none → dy ≠ y → sp (.ref y :: vs) (upd (upd H1 dy (.own y)) y (.ins A dy [])) (fun v H2 => v = .non ∧ Q (.ref y) H2) (E σ)) := by
  constructor
  intro pins s σ H Q inv h
  refine wpAny_Call_Name_kw (ld_glob inv gl at_ ?_ hdb)
  refine PySem.W.callWith_K (h₀ := X.base) inv.ok.mod.kin M.kp (thn (ha.run pos pins s σ H _ inv h) fun us s1 ⟨vs, H1, inv1, rv, q⟩ => ⟨inv1.kIn, ?_⟩) st hpl
  have want := q (s1.heap.objs.size + 1) s1.heap.objs.size (inv1.hok.fresh (Nat.le_succ _)) (inv1.hok.fresh (Nat.le_refl _)) (Nat.ne_of_lt (Nat.lt_succ_self _))
  have inv2 := Inv.made (C := A) inv1
  have rv2 : Vals (V.ref (s1.heap.objs.size + 1) :: vs) (Value.ref (s1.heap.objs.size + 1) :: us) := .cons rfl rv
  have len2 : (Value.ref (s1.heap.objs.size + 1) :: us ++ []).length = ps.length := by
    have z := rv2.length
    rw [F.len _ _ _ _ want] at z
    rw [List.append_nil]
    exact z.symm
  have bound := bi _ (Value.ref (s1.heap.objs.size + 1) :: us) inv2.kIn len2
  rw [List.append_nil] at bound
  refine wpAny_call (make_map (f := f) inv1.kIn M.makes M.init (beq_iff_eq.mp M.fn) (codeAny_mono (F.run _ X.stack _ _ ⟨Value.ref (s1.heap.objs.size + 1) :: us, []⟩ (Value.ref (s1.heap.objs.size + 1) :: us) _ _ (E σ) (room.make A us [])
    (inv2.env0.make A us []) bound rv2 want) fun r s' back => ?_))
  match r, back with
  | .error u, back => exact hx σ pins _ _ u s' inv2 back
  | .ok (.ret u), back =>
    obtain ⟨v, H', inv3, rv3, ev, q3⟩ := inv2.after back
    subst ev
    exact ⟨rv3, ⟨V.ref (s1.heap.objs.size + 1), H', inv3, rfl, q3⟩⟩
  | .ok .next, back => exact back.elim
  | .ok .brk, back => exact back.elim
  | .ok .cont, back => exact back.elim
theorem pd_make {g : Fs} (F : FnI X.prog X.w X.K X.mg X.base cl C.T x k n g) (hr : Room (k + 1) X.A) (hK : X.K = C.K) (tk : L2N.Takes X (WXof cl W)) (ha : PA X (e :: es) (rdA C W fa)) (hg : Gl X x := by rfl) (hdb : (x == ("__debug__" : Str)) = false := by decide)
    (he : starEach (e :: es) X.env = (false, eval e X.env) :: starEach es X.env := by rfl) (hpl : (backTo pos (starEach es X.env)).any (·.1) = false := by rfl) :
    PE X (.Call (.Name x p) (e :: es) [] pos) (rdE C W (dCall g fa)) := by
  obtain ⟨A, f, fd, ps, M, h1, hm, hb⟩ := F.ex
  refine (pe_makeS M h1 hr hg hm hb (fun σ => L2N.passAt tk σ) ha hdb he hpl).imp fun σ H Q ⟨ρ, δ, E, q⟩ => ⟨ρ, δ, E, ?_⟩
  unfold dCall at q
  cases e1 : fa ρ δ with
  | none => rw [e1] at q; exact q.elim
  | some r =>
    obtain ⟨r, δ'⟩ := r
    rw [e1] at q
    cases r with
    | error x => exact q
    | ok ds =>
      intro H1 x1 E1 vs rv y dy hy hdy hne
      have q : Post C W σ ρ (oE C σ ρ Q) H (match g ds with | none => none | some r => some (r, δ')) := q
      have s1 : Same H1 (upd H1 dy (.own y)) := same_new hdy
      have s2 : Same H1 (upd (upd H1 dy (.own y)) y (.ins A dy [])) := s1.trans (same_new (by rw [upd_ne (Ne.symm hne)]; exact hy))
      have E2 := E1.grow0 s2
      cases e2 : g ds with
      | none => rw [e2] at q; exact q.elim
      | some z =>
        rw [e2] at q
        cases z with
        | ok d =>
          exact (F.err ds d e2).elim
        | error z =>
          refine ⟨_, vs, ds, Av C σ ρ, z, rfl, F.len ds _ e2, av_fr E2, E2.tb, by rw [hK]; exact rv.keep (same_keep s2), e2, fun H' sm st => ⟨z, rfl, rfl, q H' (x1.trans ((same_ext s2).trans (extN_ext sm))) (E2.growN sm st)⟩⟩
end
section
variable {P : Program} {w : World} {K : Fg} {mg : Str → Option Value} {base : Heap} {x qual : Str} {st : Stmt} {f A : Addr} {fd : FuncData} {N ps : List Str} {k : Nat} {cl : String → Addr} {T : List (Addr × Str)} {body : DS}
theorem fnI {self : Str} (F : Fun K "__init__" qual st f fd) (S : FnScope N (self :: ps) (defScope st)) (M : Mk K A f) (hm : mg x = some (.ref A)) (hb : Binds K fd (self :: ps) []) (cl : String → Addr) (T : List (Addr × Str)) (hN : 0 < N.length)
    (hbody : ∀ (cdv : Value) (A : Around) (outer : List Env) (s : Shared) (H : Hp) (E : XK) (S : Addr → Prop) (H0 : Hp) (dc : Option Addr) (W : Wx), Room k (A.deeper (envOfC qual (defScope st) s.heap.objs.size f cdv)) →
      L2N.Takes (cxOf (L2N.CX P w) P w K mg base N qual (defScope st) f cdv A outer s H E) (WXof cl W) → PSs (cxOf (L2N.CX P w) P w K mg base N qual (defScope st) f cdv A outer s H E) (defBody st) (rdS ⟨K, S, H0, dc, T⟩ W body)) :
    FnI P w K mg base cl T x (k + 1) ps.length (runI N.length ps.length body) := by
  refine ⟨⟨A, f, fd, self :: ps, M, okN F S (fun vs H Q E ⟨_, rest, ds, _, _, e, hl, _, _, r, _⟩ => by rw [e, List.length_cons, List.length_cons, ← r.length, hl]) (fun cdv A outer s H vs Q E hr ⟨v0, rest, ds, A0, y, e, hl, hf, ht, r, hg, q⟩ => ?_), hm, hb⟩, fun ds r e => ?_, fun ds d e => ?_⟩
  · subst e
    let C : Ct := ⟨K, A0, H, none, T⟩
    let W : Wx := fun x σ H' => E (.ref (cl x)) none H'
    have tk : L2N.Takes (cxOf (L2N.CX P w) P w K mg base N qual (defScope st) f cdv A outer s H E) (WXof cl W) := (L2N.takes_of (E := E) rfl rfl rfl rfl).imp fun c d σ H' ⟨y, e1, e2, z⟩ => by
      rw [e1, e2]
      exact z
    have est : ∀ i, (L2.start N (v0 :: rest))[i + 1]? = (rest.map some ++ List.replicate (N.length - 1 - rest.length) none)[i]? := fun i => by
      unfold L2.start
      rw [List.map_cons, List.cons_append, List.getElem?_cons_succ, List.length_cons, show N.length - (rest.length + 1) = N.length - 1 - rest.length by omega]
    have sl : ∀ (i : Nat) (s : Sl), (Sl.un :: startR (N.length - 1) ps.length ds)[i]? = some s → ∃ ov, (L2.start N (v0 :: rest))[i]? = some ov ∧ SlotOk C H A0 s ov ∧ s.isOwn = false := fun i s h => by
      cases i with
      | zero =>
        rw [List.getElem?_cons_zero] at h
        cases h
        exact ⟨some v0, rfl, trivial, rfl⟩
      | succ i =>
        rw [List.getElem?_cons_succ] at h
        rw [est]
        exact start_slot (C := C) (H := H) (A := A0) r hl h
    refine ⟨_, hbody cdv A outer s H E A0 H none W hr tk, .un :: startR (N.length - 1) ps.length ds, (0, 0), ?_, ?_⟩
    · have hv := r.length
      have noown : ∀ a, ¬ Own (start N (v0 :: rest)) (Sl.un :: startR (N.length - 1) ps.length ds) a := fun a ⟨i, s, h1, h2, h3⟩ => by
        obtain ⟨_, _, _, z⟩ := sl i s h1
        rw [z] at h2
        cases h2
      refine ⟨?_, fun i s h => ?_, fun i j s t v h1 _ h3 _ _ _ => ?_, fun _ _ _ _ h => h, fun a h => (nomatch h), hf, ht⟩
      · unfold L2.start startR
        simp only [List.length_append, List.length_map, List.length_replicate, List.length_cons]
        omega
      · obtain ⟨ov, h1, h2, _⟩ := sl i s h
        exact ⟨ov, h1, h2.widen fun a z => ⟨z, noown a⟩⟩
      · obtain ⟨_, _, _, z⟩ := sl i s h1
        rw [z] at h3
        cases h3
    · have hS : ∀ {H'}, Ext C C.H0 H' → ExtN H H' := fun x a o h n => x a o (fun z => nomatch z) n h
      unfold runI at hg
      rw [if_pos hl] at hg
      revert hg
      cases body (.un :: startR (N.length - 1) ps.length ds) (0, 0) with
      | none => exact fun hg => by cases hg
      | some r =>
        obtain ⟨r, δ'⟩ := r
        cases r with
        | exc z =>
          intro hg
          have hg : some (Except.error (α := D) z) = some (.error y) := hg
          cases hg
          exact fun σ' H' x _ t => q H' (hS x) t
        | _ => exact fun hg => by cases hg
  · unfold runI at e
    by_cases hl : ds.length = ps.length
    · exact hl
    · rw [if_neg hl] at e
      cases e
  · unfold runI at e
    by_cases hl : ds.length = ps.length
    · rw [if_pos hl] at e
      split at e <;> cases e
    · rw [if_neg hl] at e
      cases e
end
end G8
namespace G8
open PySem PySem.Spec PyProof.Rows L2 LamX
/-- a class of the top with its __init__ -/
def ClsOk (K : Fg) (mg : Str → Option Value) (x qual : Str) (st : Stmt) : Prop := ∃ A f fd, Fun K "__init__" qual st f fd ∧ Mk K A f ∧ mg x = some (.ref A)
theorem clsOk {K : Fg} {h : Heap} {mg : Str → Option Value} (X : K.In h) (G : h.Ns mainGlobals mg) {x qual : Str} {st : Stmt} {A f : Addr} {od an : Option Addr} {sl : Array (Option Value)} {oc kV dc pm cd ct : Value}
    (aC : PySem.W.nsIn K mainGlobals x = some (some (.ref A))) (a : PySem.W.findIn K (.ref A) "__init__" = some (some (.ref f))) (i : PySem.W.isFn K (.ref f) = true)
    (l : K.lookup f = some ⟨oc, od, .func (PySem.W.fnOf "__init__" qual (defArgs st) (defBody st) (defScope st) .none kV dc pm an cd ct), sl⟩) (c : PySem.W.codeIn K cd qual = true) (k : PySem.W.keepIn K (.ref f) = true)
    (mk : PySem.W.makesIn K A = true) (kc : PySem.W.keepIn K (.ref A) = true) : ClsOk K mg x qual st :=
  ⟨A, f, _, fun_mk (st := st) l c k, ⟨mk, a, i, kc⟩, PySem.W.mg_of X G aC⟩
end G8

set_option Elab.async false
set_option linter.all false
set_option maxRecDepth 100000
set_option maxHeartbeats 1000000
namespace G8
open PySem PySem.Spec PyProof.Rows L2 LamX
theorem ru1 {k : Nat} {A : Around} (r : Room k A) : A.units + 1 < cLine := by
  have := r.un
  omega
/-! ### dicts with int keys -/
@[simp] def keyI (i : Int) : D × D → Bool
  | (.int j, _) => decide (j = i)
  | _ => false
def dgt (i : Int) : List (D × D) → Option D
  | [] => none
  | e :: r => if keyI i e = true then some e.2 else dgt i r
def dpt (es : List (D × D)) (i : Int) (d : D) : List (D × D) := if es.any (keyI i) = true then es.map (fun e => if keyI i e = true then (e.1, d) else e) else es ++ [(.int i, d)]
section
variable {K : Fg} {H : Hp} {A : Addr → Prop}
theorem repD_get (i : Int) : ∀ {es : List (D × D)} {kvs : List (Key × V)}, RepD K H A es kvs → (dgt i es = none ∧ valV kvs (.inl i) = none) ∨ ∃ d v, dgt i es = some d ∧ valV kvs (.inl i) = some v ∧ Rep K H A d v
  | _, _, .nil => .inl ⟨rfl, rfl⟩
  | _, _, .cons (i := j) (d := d) (v := v) (es := es) (kvs := kvs) r t => by
    by_cases h : j = i
    · refine .inr ⟨d, v, ?_, valV_pos (by rw [h]), r⟩
      unfold dgt
      rw [if_pos (by simp [h])]
    · have hn : ¬ (Sum.inl j : Key) = .inl i := fun z => h (Sum.inl.inj z)
      have e1 : dgt i ((.int j, d) :: es) = dgt i es := by
        conv => lhs; unfold dgt
        rw [if_neg (by simp [h])]
      have e2 : valV ((Sum.inl j, v) :: kvs) (Sum.inl i : Key) = valV kvs (Sum.inl i) := valV_neg hn
      rw [e1, e2]
      exact repD_get i t
theorem repD_any (i : Int) : ∀ {es : List (D × D)} {kvs : List (Key × V)}, RepD K H A es kvs → es.any (keyI i) = kvs.any (fun kv => decide (kv.1 = .inl i))
  | _, _, .nil => rfl
  | _, _, .cons (i := j) r t => by
    rw [List.any_cons, List.any_cons, repD_any i t]
    congr 1
    simp
theorem repD_map {i : Int} {d : D} {v : V} (r : Rep K H A d v) : ∀ {es : List (D × D)} {kvs : List (Key × V)}, RepD K H A es kvs → RepD K H A (es.map fun e => if keyI i e = true then (e.1, d) else e) (kvs.map fun kv => if kv.1 = .inl i then (kv.1, v) else kv)
  | _, _, .nil => .nil
  | _, _, .cons (i := j) q t => by
    rw [List.map_cons, List.map_cons]
    by_cases h : j = i
    · rw [if_pos (by simp [h]), if_pos (by rw [h])]
      exact .cons r (repD_map r t)
    · rw [if_neg (by simp [h]), if_neg (fun z => h (Sum.inl.inj z))]
      exact .cons q (repD_map r t)
theorem repD_snoc {i : Int} {d : D} {v : V} (r : Rep K H A d v) : ∀ {es : List (D × D)} {kvs : List (Key × V)}, RepD K H A es kvs → RepD K H A (es ++ [(.int i, d)]) (kvs ++ [(.inl i, v)])
  | _, _, .nil => .cons r .nil
  | _, _, .cons q t => .cons q (repD_snoc r t)
theorem repD_put {i : Int} {d : D} {v : V} (r : Rep K H A d v) {es : List (D × D)} {kvs : List (Key × V)} (q : RepD K H A es kvs) : RepD K H A (dpt es i d) (putK kvs (.inl i) v) := by
  unfold dpt putK
  rw [← repD_any i q]
  by_cases h : es.any (keyI i) = true
  · rw [if_pos h, if_pos h]
    exact repD_map r q
  · rw [if_neg h, if_neg h]
    exact repD_snoc r q
theorem repD_len : ∀ {es : List (D × D)} {kvs : List (Key × V)}, RepD K H A es kvs → es.length = kvs.length
  | _, _, .nil => rfl
  | _, _, .cons _ t => by simp [repD_len t]
theorem repD_key : ∀ {es : List (D × D)} {kvs : List (Key × V)} {i : Nat} {k : Key} {v : V}, RepD K H A es kvs → kvs[i]? = some (k, v) → ∃ e, es[i]? = some e ∧ Rep K H A e.1 (kV k)
  | _, _, _, _, _, .nil, h => by simp at h
  | _, _, 0, _, _, .cons (i := j) r t, h => by
    simp at h
    obtain ⟨rfl, rfl⟩ := h
    exact ⟨_, rfl, .int j⟩
  | _, _, i + 1, k, v, .cons r t, h => by
    obtain ⟨e, h1, h2⟩ := repD_key (i := i) (k := k) (v := v) t (by simpa using h)
    exact ⟨e, by simpa using h1, h2⟩
end
/-- x = {} -/
@[simp] def sSetD (i : Nat) : DS := fun ρ δ => some (.nx (ρ.set i (.ownd [])), δ)
/-- x = {y: c} -/
@[simp] def sSetD1 (i j : Nat) (c : Int) : DS := fun ρ δ => match ρ[j]? with
  | some (.val (.int k)) => some (.nx (ρ.set i (.ownd [(.int k, .int c)])), δ)
  | _ => none
@[simp] def sFrzD (i : Nat) (g : DS) : DS := fun ρ δ => match ρ[i]? with
  | some (.ownd es) => g (ρ.set i (.val (.dict es))) δ
  | _ => g ρ δ
@[simp] def slD : Option Sl → Option (List (D × D))
  | some (.val (.dict es)) => some es
  | some (.ownd es) => some es
  | _ => none
/-- x.get(f, g) -/
@[simp] def dDGet (i : Nat) (f g : DE) : DE := fun ρ δ => match slD ρ[i]? with
  | some es => bnd (f ρ δ) fun k δ => bnd (g ρ δ) fun x δ => match k with
    | .int j => some (.ok ((dgt j es).getD x), δ)
    | _ => none
  | none => none
/-- x[f] -/
@[simp] def dDIx (i : Nat) (f : DE) : DE := fun ρ δ => match slD ρ[i]? with
  | some es => bnd (f ρ δ) fun k δ => match k with
    | .int j => lft (dgt j es) δ
    | _ => none
  | none => none
/-- x[f] = g -/
@[simp] def sDiP (i : Nat) (f g : DE) : DS := fun ρ δ => match ρ[i]? with
  | some (.ownd es) => bndS (g ρ δ) fun v δ => bndS (f ρ δ) fun k δ => match k with
    | .int j => if es.length < 100000 then some (.nx (ρ.set i (.ownd (dpt es j v))), δ) else none
    | _ => none
  | _ => none
/-- for y in x -/
@[simp] def fKeys (i : Nat) : DL := fun ρ δ => match ρ[i]? with
  | some (.val (.dict es)) => some (.ok (es.map (·.1)), δ)
  | _ => none
/-- x[::-1] -/
@[simp] def gRev : D → Option D
  | .tuple ds => some (.tuple ds.reverse)
  | _ => none
section
variable {X : Cx} {C : Ct} {W : Wx} {e a b c tg : Expr} {es : List Expr} {f g h : DE} {fl gl : DL} {pos p p1 p2 p3 apos cpos : Pos} {σ : L2.St} {ρ : Rho} {δ δ1 : Dl} {H H1 H' : Hp} {K : Fg} {rest : List Stmt} {gs : DS}
theorem s_setD {i : Nat} {x : Str} {px : Pos} (nd : X.N.Nodup) (hi : X.N[i]? = some x := by rfl) (hx : Loc X.env.scope x := by first | exact Or.inl rfl | exact Or.inr rfl)
    (hs : swapsWithSole [.Name x px] (.Dict [] [] p) pos.line X.env = pure false := by rfl) (hw : swappedStores [.Name x px] (.Dict [] [] p) X.env = pure none := by rfl)
    (hf : X.fn x = true ∨ X.env.scope.names.lookup x = some .local := by first | exact .inl rfl | exact .inr rfl | assumption) : PS X (.Assign [.Name x px] (.Dict [] [] p) pos) (rdS C W (sSetD i)) :=
  (ps_asg pe_dnewK (pg_name nd hi hx hf) hs hw).imp fun D σ H ⟨ρ, δ, E, p⟩ => fun q hq => by
    have sm := same_new (o := .dK []) hq
    have E1 := E.grow0 sm
    exact p _ _ (E.setO (np_none hq) (same_ext sm) E1 ⟨q, [], rfl, upd_same, ⟨E.none_h0 (np_none hq), E.frN (np_none hq)⟩, .nil⟩) (Step.setO E (np_none hq) (same_ext sm) E1)
theorem upd_twice {q : Addr} {o1 o2 : HO} : upd (upd H q o1) q o2 = upd H q o2 := by
  funext a
  by_cases h : a = q
  · rw [h, upd_same, upd_same]
  · rw [upd_ne h, upd_ne h, upd_ne h]
theorem s_setD1 {i j : Nat} {x y : Str} {px py : Pos} {v : Int} {kk : Nat} (nd : X.N.Nodup) (hi : X.N[i]? = some x := by rfl) (hx : Loc X.env.scope x := by first | exact Or.inl rfl | exact Or.inr rfl)
    (hj : X.N[j]? = some y := by rfl) (hvy : Vis X.env.scope y := by first | exact Or.inl rfl | exact Or.inr (Or.inl rfl) | exact Or.inr (Or.inr rfl)) (hd : (y == ("__debug__" : Str)) = false := by decide) (hcd : (y == ("__classdict__" : Str)) = false := by decide)
    (hs : swapsWithSole [.Name x px] (.Dict [some (.Name y py)] [.Constant (.int v) kk p1] p) pos.line X.env = pure false := by rfl) (hw : swappedStores [.Name x px] (.Dict [some (.Name y py)] [.Constant (.int v) kk p1] p) X.env = pure none := by rfl)
    (hf : X.fn x = true ∨ X.env.scope.names.lookup x = some .local := by first | exact .inl rfl | exact .inr rfl | assumption) : PS X (.Assign [.Name x px] (.Dict [some (.Name y py)] [.Constant (.int v) kk p1] p) pos) (rdS C W (sSetD1 i j v)) :=
  (ps_asg (pe_disp (pps_cons (pe_var hj hvy hd hcd) pe_int pps_nil) rfl rfl (by simp) (by simp)) (pg_name nd hi hx hf) hs hw).imp fun D σ H ⟨ρ, δ, E, p⟩ => fun q hq => by
    unfold sSetD1 at p
    cases e : ρ[j]? with
    | none => rw [e] at p; exact p.elim
    | some s =>
      rw [e] at p
      cases s with
      | val d =>
        cases d with
        | int k =>
          obtain ⟨ov, e1, kk⟩ := E.slot j _ e
          cases ov with
          | none => exact kk.elim
          | some u =>
            cases kk
            refine ⟨_, e1, upd_same, [(.inl k, .int v)], rfl, by simp, ?_⟩
            have hm : mergeK [] [((Sum.inl k : Key), V.int v)] = [(Sum.inl k, V.int v)] := rfl
            rw [hm, upd_twice]
            have sm := same_new (o := .dK [((Sum.inl k : Key), V.int v)]) hq
            have E1 := E.grow0 sm
            exact p _ _ (E.setO (np_none hq) (same_ext sm) E1 ⟨q, _, rfl, upd_same, ⟨E.none_h0 (np_none hq), E.frN (np_none hq)⟩, .cons (.int v) .nil⟩) (Step.setO E (np_none hq) (same_ext sm) E1)
        | _ => exact p.elim
      | _ => exact p.elim
/-- an own dict is owned no more: it stands as it is -/
theorem EnvOk.lockD (E : EnvOk C H σ ρ δ) {i : Nat} {es : List (D × D)} {q : Addr} {kvs : List (Key × V)} {o : Obj} (h : ρ[i]? = some (.ownd es)) (hσ : σ[i]? = some (some (.ref q))) (hq : H q = some (.dK kvs)) (h2 : Np C.H0 q ∧ C.S q) (h3 : RepD C.K H (Av C σ ρ) es kvs) :
    EnvOk C (upd H q (.frz o (.dK kvs))) σ (ρ.set i (.val (.dict es))) δ ∧ Step C σ ρ H σ (ρ.set i (.val (.dict es))) (upd H q (.frz o (.dK kvs))) := by
  have hl : i < ρ.length := (List.getElem?_eq_some_iff.mp h).1
  have hop : Own σ ρ q := ⟨i, _, h, rfl, hσ⟩
  have np : ¬ Own σ (ρ.set i (.val (.dict es))) q := by
    rintro ⟨j, u, a1, a2, a3⟩
    by_cases hj : i = j
    · subst hj
      rw [List.getElem?_set_self hl] at a1
      cases a1
      cases a2
    · rw [List.getElem?_set_ne hj] at a1
      exact hj (E.dis i j _ u _ h a1 rfl a2 hσ a3)
  have om : ∀ a, Own σ (ρ.set i (.val (.dict es))) a → Own σ ρ a := fun a ⟨j, u, a1, a2, a3⟩ => by
    by_cases hj : i = j
    · subst hj
      rw [List.getElem?_set_self hl] at a1
      cases a1
      cases a2
    · rw [List.getElem?_set_ne hj] at a1
      exact ⟨j, u, a1, a2, a3⟩
  have av : ∀ a, Av C σ ρ a → Av C σ (ρ.set i (.val (.dict es))) a := fun a z => ⟨z.1, fun w => z.2 (om a w)⟩
  have kp : Keep (Av C σ ρ) H (upd H q (.frz o (.dK kvs))) := fun a u w _ z => by
    rw [upd_ne]
    · exact z
    · rintro rfl
      rcases w with w | w
      · exact w.2 hop
      · rw [hq] at z
        cases z
        exact w
  refine ⟨⟨by rw [List.length_set]; exact E.len, fun j u hu => ?_, fun j k s1 t1 v b1 b2 o1 o2 e1 e2 => ?_, fun a u hd n z => ?_, fun a z => ⟨?_, (E.dc a z).2⟩, fun a z => ?_, tabs_upd E.tb hq pl_dK⟩, ⟨kp, fun a w => .inl (om a w), fun a w => ?_⟩⟩
  · by_cases hj : i = j
    · subst hj
      rw [List.getElem?_set_self hl] at hu
      cases hu
      exact ⟨_, hσ, Rep.dct ⟨h2.2, np⟩ upd_same (h3.mono kp av)⟩
    · rw [List.getElem?_set_ne hj] at hu
      obtain ⟨ov, e', k'⟩ := E.slot j u hu
      refine ⟨ov, e', (k'.keep kp fun z hz hz2 => upd_ne fun y => ?_).widen av⟩
      subst y
      exact hj (E.dis i j _ u _ h hu rfl hz hσ (by rw [e', hz2]))
  · have fix : ∀ {j : Nat} {u : Sl}, (ρ.set i (.val (.dict es)))[j]? = some u → u.isOwn = true → ρ[j]? = some u := fun {j u} w ho => by
      by_cases hj : i = j
      · subst hj
        rw [List.getElem?_set_self hl] at w
        cases w
        cases ho
      · rw [List.getElem?_set_ne hj] at w
        exact w
    exact E.dis j k s1 t1 v (fix b1 o1) (fix b2 o2) o1 o2 e1 e2
  · rw [upd_ne]
    · exact E.ext a u hd n z
    · rintro rfl
      exact h2.1 u z n
  · rw [upd_ne]
    · exact (E.dc a z).1
    · rintro rfl
      exact E.own_ndc hop z
  · obtain ⟨u, n, w⟩ := E.fr a z
    by_cases e' : a = q
    · exact ⟨_, nt_frz, by rw [e', upd_same]⟩
    · exact ⟨u, n, by rw [upd_ne e']; exact w⟩
  · by_cases e' : a = q
    · rw [e'] at w
      exact absurd nt_frz (w _ upd_same)
    · exact fun u hu => w u (by rw [upd_ne e']; exact hu)
theorem q_frzD (i : Nat) (hr : PSs X rest (rdS C W gs)) : PSs X rest (rdS C W (sFrzD i gs)) := by
  refine ⟨fun pins s σ H D I ⟨ρ, δ, E, p⟩ => ?_⟩
  unfold sFrzD at p
  cases e : ρ[i]? with
  | none => rw [e] at p; exact hr.run pins s σ H D I ⟨ρ, δ, E, p⟩
  | some sl =>
    rw [e] at p
    cases sl with
    | ownd es =>
      obtain ⟨ov, eσ, k⟩ := E.slot i _ e
      cases ov with
      | none => exact k.elim
      | some v =>
        obtain ⟨q, kvs, rfl, h1, h2, h3⟩ := k
        obtain ⟨od, I1⟩ := I.lock h1 trivial
        obtain ⟨E', st⟩ := E.lockD (o := od) e eσ h1 h2 h3
        exact hr.run pins s σ _ D I1 ⟨_, δ, E', PostS.later p st⟩
    | _ => exact hr.run pins s σ H D I ⟨ρ, δ, E, p⟩
theorem EnvOk.lookD (E : EnvOk C H σ ρ δ) {i : Nat} {es : List (D × D)} (h : slD ρ[i]? = some es) : ∃ q kvs, σ[i]? = some (some (.ref q)) ∧ Rd H q (.dK kvs) ∧ RepD C.K H (Av C σ ρ) es kvs ∧ ∀ H1, Ext C H H1 → Rd H1 q (.dK kvs) := by
  cases e : ρ[i]? with
  | none => rw [e] at h; cases h
  | some s =>
    obtain ⟨ov, eσ, k⟩ := E.slot i _ e
    rw [e] at h
    cases s with
    | val d =>
      cases d with
      | dict es' =>
        cases h
        cases ov with
        | none => exact k.elim
        | some v =>
          cases k with
          | dct hA h1 r => exact ⟨_, _, eσ, .inr ⟨_, h1⟩, r, fun H1 x => .inr ⟨_, x _ _ (E.ndc hA) nt_frz h1⟩⟩
      | _ => cases h
    | ownd es' =>
      cases h
      cases ov with
      | none => exact k.elim
      | some v =>
        obtain ⟨q, kvs, rfl, h1, h2, h3⟩ := k
        exact ⟨q, kvs, eσ, .inl h1, h3, fun H1 x => .inl (x _ _ (E.own_ndc ⟨i, _, e, rfl, eσ⟩) nt_dK h1)⟩
    | _ => cases h
theorem pd_dget (i : Nat) {x : Str} (hu : X.A.units + 1 < cLine) (ha : PE X a (rdE C W f)) (hb : PE X b (rdE C W g)) (hN : X.N[i]? = some x := by rfl) (hv : Vis X.env.scope x := by first | exact Or.inl rfl | exact Or.inr (Or.inl rfl) | exact Or.inr (Or.inr rfl))
    (hd : (x == ("__debug__" : Str)) = false := by decide) (hcd : (x == ("__classdict__" : Str)) = false := by decide)
    (z1 : attributeBase (.Name x p) "get" X.env (eval (.Name x p) X.env) = eval (.Name x p) X.env := by rfl)
    (z2 : ((backTo cpos (starEach [a, b] X.env)).all (fun x => !x.1) && (backToKw cpos (keywordEach [] X.env)).all (fun x => x.1.isSome)
      && decide (([a, b] : List Expr).length + ([] : List Keyword).length + (if ([] : List Keyword).isEmpty then 0 else 1) < 30)) = true := by rfl)
    (z3 : (apos.endLine == cpos.line) = true := by rfl) (z4 : backTo cpos (starEach [a, b] X.env) = [(false, eval a X.env), (false, eval b X.env)] := by rfl) :
    PE X (.Call (.Attribute (.Name x p) "get" apos) [a, b] [] cpos) (rdE C W (dDGet i f g)) := by
  refine (pe_dget2 hu (pe_var hN hv hd hcd) ha hb ⟨z1, z2, z3, z4⟩).imp fun σ H Q ⟨ρ, δ, E, q⟩ => ?_
  unfold dDGet at q
  cases es : slD ρ[i]? with
  | none => simp only [es] at q; exact q.elim
  | some ds =>
    simp only [es] at q
    obtain ⟨r, kvs, eσ, rd, rp, kp⟩ := E.lookD es
    refine ⟨_, eσ, r, rfl, .inl ⟨kvs, rd⟩, ρ, δ, E, (q.seq anti_E).mono fun k δ1 H1 x1 E1 q1 v rv => ⟨ρ, δ1, E1, (q1.seq anti_E).mono fun z δ2 H2 x2 E2 q2 w rw => ?_⟩⟩
    cases k with
    | int j =>
      cases rv
      have rp2 : RepD C.K H2 (Av C σ ρ) ds kvs := rp.mono (E.keep (x1.trans x2)) fun _ z => z
      refine ⟨_, .inl ⟨kvs, .inl j, kp H2 (x1.trans x2), rfl, rfl⟩, ?_⟩
      have q2 : Post C W σ ρ (oE C σ ρ Q) H2 (some (.ok ((dgt j ds).getD z), δ2)) := q2
      rcases repD_get j rp2 with ⟨e1, e2⟩ | ⟨d, u, e1, e2, r2⟩
      · rw [e2]
        rw [e1] at q2
        exact q2.val E2 _ rw
      · rw [e2]
        rw [e1] at q2
        exact q2.val E2 _ r2
    | _ => exact q2.elim
theorem pd_dix (i : Nat) {x : Str} (hu : X.A.units + 1 < cLine) (ha : PE X a (rdE C W f)) (hN : X.N[i]? = some x := by rfl) (hv : Vis X.env.scope x := by first | exact Or.inl rfl | exact Or.inr (Or.inl rfl) | exact Or.inr (Or.inr rfl))
    (hd : (x == ("__debug__" : Str)) = false := by decide) (hcd : (x == ("__classdict__" : Str)) = false := by decide) (hs : NoSl a := by intro _ _; rfl) : PE X (.Subscript (.Name x p) a pos) (rdE C W (dDIx i f)) := by
  refine (pe_dget hu (pe_var hN hv hd hcd) ha hs).imp fun σ H Q ⟨ρ, δ, E, q⟩ => ?_
  unfold dDIx at q
  cases es : slD ρ[i]? with
  | none => simp only [es] at q; exact q.elim
  | some ds =>
    simp only [es] at q
    obtain ⟨r, kvs, eσ, rd, rp, kp⟩ := E.lookD es
    refine ⟨_, eσ, ρ, δ, E, (q.seq anti_E).mono fun k δ1 H1 x1 E1 q1 v rv => ?_⟩
    cases k with
    | int j =>
      cases rv
      have rp2 : RepD C.K H1 (Av C σ ρ) ds kvs := rp.mono (E.keep x1) fun _ z => z
      have q1 : Post C W σ ρ (oE C σ ρ Q) H1 (lft (dgt j ds) δ1) := q1
      rcases repD_get j rp2 with ⟨e1, e2⟩ | ⟨d, u, e1, e2, r2⟩
      · rw [e1] at q1; exact q1.elim
      · rw [e1] at q1
        have q1 : Post C W σ ρ (oE C σ ρ Q) H1 (some (.ok d, δ1)) := q1
        exact ⟨r, u, rfl, .inl ⟨kvs, .inl j, kp H1 x1, rfl, e2.symm⟩, q1.val E1 _ r2⟩
    | _ => exact q1.elim
theorem s_dput (i : Nat) {x : Str} (hu : X.A.units + 1 < cLine) (ha : PE X a (rdE C W f)) (hb : PE X b (rdE C W g)) (hN : X.N[i]? = some x := by rfl) (hv : Vis X.env.scope x := by first | exact Or.inl rfl | exact Or.inr (Or.inl rfl) | exact Or.inr (Or.inr rfl))
    (hd : (x == ("__debug__" : Str)) = false := by decide) (hcd : (x == ("__classdict__" : Str)) = false := by decide) (hs : swapsWith b (some (.Subscript (.Name x p) a p1)) pos.line X.env = pure false := by rfl) :
    PS X (.Assign [.Subscript (.Name x p) a p1] b pos) (rdS C W (sDiP i f g)) := by
  refine (ps_dput hu (pe_var hN hv hd hcd) ha hb hs).imp fun D σ H ⟨ρ, δ, E, q⟩ => ?_
  unfold sDiP at q
  cases e : ρ[i]? with
  | none => rw [e] at q; exact q.elim
  | some sl =>
    rw [e] at q
    cases sl with
    | ownd es =>
      obtain ⟨ov, eσ, k⟩ := E.slot i _ e
      cases ov with
      | none => exact k.elim
      | some v0 =>
        obtain ⟨r, kvs, rfl, h1, h2, h3⟩ := k
        have ho : Own σ ρ r := ⟨i, _, e, rfl, eσ⟩
        have q : PostS C W D σ ρ H (bndS (g ρ δ) fun v δ => bndS (f ρ δ) fun k δ => match k with | .int j => if es.length < 100000 then some (.nx (ρ.set i (.ownd (dpt es j v))), δ) else none | _ => none) := q
        refine ⟨ρ, δ, E, (q.seqE E).mono fun v δ1 H1 x1 E1 q1 y ry => ⟨_, eσ, ρ, δ1, E1, (PostS.seqE E1 q1.1).mono fun k δ2 H2 x2 E2 q2 z rz => ?_⟩⟩
        have q2 := q2.1
        cases k with
        | int j =>
          cases rz
          have q2 : PostS C W D σ ρ H2 (if es.length < 100000 then some (.nx (ρ.set i (.ownd (dpt es j v))), δ2) else none) := q2
          by_cases hl : es.length < 100000
          · rw [if_pos hl] at q2
            have h1' : H2 r = some (.dK kvs) := (x1.trans x2) r _ (E.own_ndc ho) nt_dK h1
            have h3' := h3.mono (E.keep (x1.trans x2)) fun _ z => z
            refine ⟨r, _, rfl, DPut.k (k := .inl j) h1' (by rw [← repD_len h3]; exact Nat.lt_of_lt_of_le hl (by decide)), ?_⟩
            have kp : Keep (Av C σ ρ) H2 (upd H2 r (.dK (putK kvs (.inl j) y))) := fun a u pa _ ha => by
              rw [upd_ne]
              · exact ha
              · rintro rfl
                rcases pa with pa | pa
                · exact pa.2 ho
                · rw [h1'] at ha
                  cases ha
                  exact pa
            have hr : RepD C.K (upd H2 r (.dK (putK kvs (.inl j) y))) (Av C σ ρ) (dpt es j v) (putK kvs (.inl j) y) := (repD_put (ry.keep (E1.keep x2)) h3').mono kp fun _ z => z
            obtain ⟨E3, s3⟩ := E2.mut (t := .ownd (dpt es j v)) (o' := .dK (putK kvs (.inl j) y)) e rfl rfl eσ h1' (fun z => z) ⟨r, _, rfl, upd_same, h2, hr⟩
            exact q2 σ _ E3 s3
          · rw [if_neg hl] at q2
            exact q2.elim
        | _ => exact q2.elim
    | _ => exact q.elim
theorem i_keys (i : Nat) {x : Str} (hN : X.N[i]? = some x := by rfl) (hv : Vis X.env.scope x := by first | exact Or.inl rfl | exact Or.inr (Or.inl rfl) | exact Or.inr (Or.inr rfl))
    (hd : (x == ("__debug__" : Str)) = false := by decide) (hcd : (x == ("__classdict__" : Str)) = false := by decide) : PI X tg (.Name x p) (rdI C W (fKeys i)) := by
  refine (pi_keys (pe_var hN hv hd hcd)).imp fun σ H R ⟨ρ, δ, E, q⟩ => ?_
  unfold fKeys at q
  cases e : ρ[i]? with
  | none => rw [e] at q; exact q.elim
  | some s =>
    rw [e] at q
    cases s with
    | val d =>
      cases d with
      | dict ds =>
        obtain ⟨ov, eσ, k⟩ := E.slot i _ e
        cases ov with
        | none => exact k.elim
        | some v =>
          cases k with
          | dct hA h1 r =>
            rename_i q0 o kvs
            refine ⟨_, eσ, q0, o, rfl, .inl ⟨kvs, h1, ?_⟩⟩
            have hA' : (fun a => Av C σ ρ a ∧ ¬ Np H a) q0 := ⟨hA, fun z => z _ h1 nt_frz⟩
            have rd := r.dom
            refine q H Ext.refl E _ kvs.length (fun H1 => H1 q0 = some (.frz o (.dK kvs)) ∧ RepD C.K H1 (fun a => Av C σ ρ a ∧ ¬ Np H a) ds kvs) ⟨⟨fun j H1 y H2 => H2 = H1 ∧ ∃ k v, kvs[j]? = some (k, v) ∧ y = kV k, ⟨fun j H1 hj hG => ⟨hG.1, hj⟩, fun H1 hG => ⟨hG.1, Nat.le_refl _⟩, fun j H1 y H2 hj hG z => z⟩, fun j H1 y H2 hj hG z => ?_⟩, fun H1 H2 k hG => ⟨k _ _ (.inl hA') nt_frz hG.1, hG.2.mono k fun _ z => z⟩, ?_⟩ ⟨h1, rd⟩
            · obtain ⟨rfl, k, v, hk, rfl⟩ := z
              obtain ⟨en, g1, g2⟩ := repD_key hG.2 hk
              exact ⟨Same.refl _, en.1, by rw [List.getElem?_map, g1]; rfl, g2⟩
            · rw [List.length_map, repD_len r]
      | _ => exact q.elim
    | _ => exact q.elim
end
end G8

set_option Elab.async false
set_option linter.all false
set_option maxRecDepth 100000
set_option maxHeartbeats 2000000
namespace G8
open PySem PySem.Spec PyProof.Rows L2 LamX HT
section
variable {prog : Program} {w : World} {A : Around} {E : Value → Shared → Prop} {s : Shared}
theorem back_cut (n : Nat) : Builtin.Slice.sliceAdjust none none (-1) (n : Int) = ((n : Int) - 1, -1) := by
  unfold Builtin.Slice.sliceAdjust
  simp
theorem back_places (n : Nat) : Builtin.Slice.slicePlaces ((n : Int) - 1) (-1) (-1) = n := by
  unfold Builtin.Slice.slicePlaces
  by_cases h : n = 0
  · subst h; decide
  · rw [if_neg (by omega), if_pos (by omega)]
    simp
theorem back_applied {sl : Addr} {vl vu vs : Value} {n : Nat} {Q : Int × Int × Nat → Shared → Prop} (hsl : s.heap.IsSliceOf sl vl vu vs) (pl : IsPart vl none) (pu : IsPart vu none) (pk : IsPart vs (some (-1)))
    (h : Q ((n : Int) - 1, -1, n) s) : wpAny (model prog w) A (Builtin.Slice.sliceApplied (.ref sl) (pure (n : Int))) Q E s := by
  obtain ⟨ob, hob, _, flds⟩ := id hsl
  unfold Builtin.Slice.sliceApplied Builtin.Slice.sliceFields
  refine wpAny_bind (wpAny_bind (wpAny_field hob flds (x := vl) rfl (wpAny_bind (wpAny_field hob flds (x := vu) rfl (wpAny_bind (wpAny_field hob flds (x := vs) rfl (wpAny_pure ?_)))))))
  refine wpAny_bind (slicePart_ pk ?_)
  show wpAny _ _ (if ((-1 : Int) == 0) = true then _ else _) _ _ s
  rw [if_neg (by decide)]
  refine wpAny_bind (slicePart_ pl (wpAny_bind (slicePart_ pu (wpAny_bind (wpAny_pure ?_)))))
  show wpAny _ _ (match Builtin.Slice.sliceAdjust none none (-1) (n : Int) with | (lo, hi) => pure (lo, (-1 : Int), Builtin.Slice.slicePlaces lo hi (-1))) _ _ s
  rw [back_cut n]
  show wpAny _ _ (pure ((n : Int) - 1, (-1 : Int), Builtin.Slice.slicePlaces ((n : Int) - 1) (-1) (-1))) _ _ s
  rw [back_places]
  exact wpAny_pure h
theorem back_pick (xs : Array Value) : ((List.range xs.size).filterMap fun (k : Nat) => xs[(((xs.size : Nat) : Int) - 1 + (k : Int) * (-1)).toNat]?).toArray = xs.toList.reverse.toArray := by
  congr 1
  have e : (fun (k : Nat) => xs[(((xs.size : Nat) : Int) - 1 + (k : Int) * (-1)).toNat]?) = fun k => xs[xs.size - 1 - k]? := by
    funext k
    have : (((xs.size : Nat) : Int) - 1 + (k : Int) * (-1)).toNat = xs.size - 1 - k := by omega
    rw [this]
  rw [e]
  have e2 : ((List.range xs.size).filterMap fun k => xs[xs.size - 1 - k]?) = (((List.range xs.size).map fun k => xs.size - 1 - k).filterMap (xs[·]?)) := by
    rw [List.filterMap_map]
    rfl
  rw [e2, PySem.W.krv_range, List.filterMap_reverse, PySem.W.krv_all]
theorem getItem_tuple_back {t sl : Addr} {items : Array Value} {vl vu vs : Value} {Q : Value → Shared → Prop} (ht : IsTup s.heap t items) (hsl : s.heap.IsSliceOf sl vl vu vs) (pl : IsPart vl none) (pu : IsPart vu none) (pk : IsPart vs (some (-1)))
    (h : Q (.ref s.heap.objs.size) { s with heap := s.heap.push { cls := .type "tuple", data := .seq items.toList.reverse.toArray } }) (hsz : items.size ≤ sizeLine) : wpAny (model prog w) A (getItem (.ref t) (.ref sl)) Q E s := by
  have room : sizeOk (.seq items.toList.reverse.toArray) := by
    show items.toList.reverse.toArray.size ≤ sizeLine
    rw [List.size_toArray, List.length_reverse, Array.length_toList]
    exact hsz
  obtain ⟨ob, hob, hcls, _⟩ := id hsl
  have isS : s.TypeIs (.ref sl) "slice" := ⟨ob, hob, hcls⟩
  unfold getItem
  try with_reducible refine wpAny_holding ?_
  first | refine wpAny_bind (wpAny_pure ?_) | skip
  refine wpAny_bind (wpAny_sequenceKey ht.typeIs (by decide) ?_)
  refine wpAny_bind (wpAny_callSpecial?_slot (name := Str.ofString "__getitem__") ht.typeIs PyProof.Rows.slot_tuple_getitem (wpAny_call_entry PyProof.Rows.slot_tuple_getitem ht.typeIs entry_tuple_getitem ?_ (args_tuple_getitem _ _)))
  show wpAny _ _ (Builtin.Tuple.tupleItemsOf (.ref t) >>= _) _ _ s
  refine wpAny_bind (tupleItemsOf_ ht (wpAny_bind (wpAny_typeOf isS ?_)))
  rw [if_pos (by decide)]
  refine wpAny_bind (back_applied hsl pl pu pk ?_)
  have hno : ¬ ((((items.size : Nat) : Int) - 1 == 0 && (-1 : Int) == 1 && items.size == items.size) = true) := by simp
  show wpAny _ _ (if (((items.size : Nat) : Int) - 1 == 0 && (-1 : Int) == 1 && items.size == items.size) = true then _ else _) _ _ s
  rw [if_neg hno, back_pick]
  first
    | exact wpAny_bind (m := Builtin.Tuple.tupleExact _) (wpAny_newObj_type (wpAny_pure ⟨_, rfl, wpAny_pure h⟩) room)
    | exact wpAny_bind (m := Builtin.Tuple.tupleExact _) (wpAny_newObj_type (wpAny_bind (wpAny_pure (wpAny_pure ⟨_, rfl, wpAny_pure h⟩))) room)
    | exact wpAny_bind (wpAny_bind (m := Builtin.Tuple.tupleExact _) (wpAny_newObj_type (wpAny_pure (wpAny_pure ⟨_, rfl, wpAny_pure h⟩)) room))
    | exact wpAny_bind (wpAny_bind (m := Builtin.Tuple.tupleExact _) (wpAny_newObj_type (wpAny_pure ⟨_, rfl, wpAny_pure h⟩) room))
end
section
variable {X : Cx} {C : Ct} {W : Wx} {e a : Expr} {f : DE} {pos p1 p2 p3 : Pos}
def tRevT (K : Fg) (te : TE) : TE := fun σ H Q => te σ H fun x H1 => ∃ a xs, x = .ref a ∧ SqT K H1 a xs ∧ ∀ p, H1 p = none → Q (.ref p) (upd H1 p (.tup xs.reverse))
theorem pe_revT {te : TE} {k : Nat} (he : PE X e te) : PE X (.Subscript e (.Slice none none (some (.UnaryOp .USub (.Constant (.int 1) k p1) p2)) p3) pos) (tRevT X.K te) := by
  constructor
  intro pins s σ H Q inv h
  refine Subscript_ (thn (he.run pins s σ H _ inv h) fun v s1 ⟨x, H1, inv1, r1, q1⟩ => ?_)
  obtain ⟨a, xs, ex, hx, q⟩ := q1
  subst ex
  cases r1
  have step : PO X (some (.UnaryOp .USub (.Constant (.int 1) k p1) p2)) (tPart (tUn (rU fun i => .int (-i)) (tC (.int 1)))) := po_some (pe_un un_neg pe_int)
  refine wpAny_Slice (thn (po_none.run pins s1 σ H1 (fun o H2 => o = none ∧ H2 = H1) inv1 ⟨rfl, rfl⟩) fun vl s2 ⟨l, H2, inv2, pl, el, e2⟩ => ?_)
  subst el e2
  refine thn (po_none.run pins s2 σ H2 (fun o H3 => o = none ∧ H3 = H2) inv2 ⟨rfl, rfl⟩) fun vu s3 ⟨u, H3, inv3, pu, eu, e3⟩ => ?_
  subst eu e3
  refine thn (step.run pins s3 σ H3 (fun o H4 => o = some (-1) ∧ H4 = H3) inv3 ⟨1, rfl, -1, rfl, rfl, rfl⟩) fun vs s4 ⟨o, H4, inv4, ps, eo, e4⟩ => ?_
  subst eo e4
  have inv5 : Inv X pins σ H4 { s4 with heap := s4.heap.push { cls := .type "slice", data := .fields #[vl, vu, vs] } } := inv4.kept (t' := s4.toks) fun b ob q => Heap.get?_push_of_some _ q
  obtain ⟨its, r, ht, hz⟩ := inv5.tuple hx
  have hlen := r.length
  show wpAny (model X.prog X.w) X.A (subscriptTail e (.Slice none none (some (.UnaryOp .USub (.Constant (.int 1) k p1) p2)) p3) (.ref a) (.ref s4.heap.objs.size)) _ _ _
  refine tail_any (ops := [.ref a, .ref s4.heap.objs.size]) ht.typeIs (PyProof.Rows.slot_tuple_getitem.lookup) ?_ (by with_unfolding_all rfl)
  refine getItem_tuple_back ht (Heap.IsSliceOf.new _ vl vu vs) pl pu ps ?_ (by rw [List.size_toArray]; omega)
  refine ⟨.ref _, _, inv5.laid (t' := s4.toks) (o := .tup xs.reverse) (fun b ob q => Heap.get?_push_of_some _ q) (Nat.le_refl _) ?_, rfl, q _ (inv5.hok.fresh (Nat.le_refl _))⟩
  exact ⟨by rw [List.length_reverse]; exact hz, _, r.reverse, IsTup.new _ _⟩
theorem pd_rev {k : Nat} (ha : PE X a (rdE C W f)) (hK : X.K = C.K) : PE X (.Subscript a (.Slice none none (some (.UnaryOp .USub (.Constant (.int 1) k p1) p2)) p3) pos) (rdE C W (d1 gRev f)) :=
  (pe_revT ha).imp fun σ H Q ⟨ρ, δ, E, q⟩ => ⟨ρ, δ, E, (q.seq anti_E).mono fun d δ1 H1 x1 E1 q1 v rv => by
    obtain ⟨z, e, q2⟩ := q1.lft
    cases rv with
    | tup h1 r1 =>
      cases e
      refine ⟨_, _, rfl, by rw [hK]; exact h1, fun p hp => ?_⟩
      rename_i xs ds
      have sm := same_new (o := .tup xs.reverse) hp
      exact q2 _ (same_ext sm) (E1.grow0 sm) _ (.tup (.inl (.inl upd_same)) (r1.reverse.keep (same_keep sm)))
    | _ => cases e⟩
end
end G8

set_option Elab.async false
set_option linter.all false
set_option maxRecDepth 100000
set_option maxHeartbeats 2000000
namespace G8
open PySem PySem.Spec PyProof.Rows L2 LamX
/-! ### the order of int tuples -/
theorem lx_asym : ∀ a b : List Int, HT.lexLt a b = true → HT.lexLt b a = false
  | [], [], h => by cases h
  | [], _ :: _, _ => rfl
  | _ :: _, [], h => by cases h
  | x :: a, y :: b, h => by
    rw [HT.lexLt_cons] at h ⊢
    by_cases e : x = y
    · rw [if_pos e] at h
      rw [if_pos e.symm]
      exact lx_asym a b h
    · rw [if_neg e] at h
      rw [if_neg (Ne.symm e)]
      have := of_decide_eq_true h
      exact decide_eq_false (by omega)
theorem lx_tr : ∀ x y z : List Int, HT.lexLt y x = false → HT.lexLt z y = false → HT.lexLt z x = false
  | x, y, [], _, h2 => by
    cases y with
    | nil =>
      cases x with
      | nil => rfl
      | cons a x => rename_i h1; cases h1
    | cons b y => cases h2
  | [], y, c :: z, _, _ => rfl
  | a :: x, [], c :: z, h1, _ => by cases h1
  | a :: x, b :: y, c :: z, h1, h2 => by
    rw [HT.lexLt_cons] at h1 h2 ⊢
    by_cases e1 : b = a
    · rw [if_pos e1] at h1
      by_cases e2 : c = b
      · rw [if_pos e2] at h2
        rw [if_pos (e2.trans e1)]
        exact lx_tr x y z h1 h2
      · rw [if_neg e2] at h2
        have := of_decide_eq_false h2
        rw [if_neg (by omega)]
        exact decide_eq_false (by omega)
    · rw [if_neg e1] at h1
      have h1 := of_decide_eq_false h1
      by_cases e2 : c = b
      · rw [if_pos e2] at h2
        rw [if_neg (by omega)]
        exact decide_eq_false (by omega)
      · rw [if_neg e2] at h2
        have := of_decide_eq_false h2
        rw [if_neg (by omega)]
        exact decide_eq_false (by omega)
theorem lx_anti : ∀ a b : List Int, HT.lexLt a b = false → HT.lexLt b a = false → a = b
  | [], [], _, _ => rfl
  | [], _ :: _, h, _ => by cases h
  | _ :: _, [], _, h => by cases h
  | x :: a, y :: b, h1, h2 => by
    rw [HT.lexLt_cons] at h1 h2
    by_cases e : x = y
    · rw [if_pos e] at h1
      rw [if_pos e.symm] at h2
      rw [e, lx_anti a b h1 h2]
    · rw [if_neg e] at h1
      rw [if_neg (Ne.symm e)] at h2
      have := of_decide_eq_false h1
      have := of_decide_eq_false h2
      omega
theorem lx_swo {α : Type} (k : α → List Int) : SrtO.Swo fun v u => HT.lexLt (k v) (k u) := ⟨fun x y h => lx_asym _ _ h, fun x y z h1 h2 => lx_tr _ _ _ h1 h2⟩
def insL (x : List Int) : List (List Int) → List (List Int)
  | [] => [x]
  | y :: r => if HT.lexLt y x = true then y :: insL x r else x :: y :: r
def lsort : List (List Int) → List (List Int)
  | [] => []
  | x :: r => insL x (lsort r)
theorem insL_perm (x : List Int) : ∀ l, (insL x l).Perm (x :: l)
  | [] => .refl _
  | y :: r => by
    unfold insL
    split
    · exact ((insL_perm x r).cons y).trans (List.Perm.swap x y r)
    · exact .refl _
theorem lsort_perm : ∀ l, (lsort l).Perm l
  | [] => .refl _
  | x :: r => (insL_perm x (lsort r)).trans ((lsort_perm r).cons x)
abbrev LeL (a b : List Int) : Prop := HT.lexLt b a = false
theorem insL_sorted (x : List Int) : ∀ {l}, l.Pairwise LeL → (insL x l).Pairwise LeL
  | [], _ => List.pairwise_singleton _ _
  | y :: r, h => by
    unfold insL
    rw [List.pairwise_cons] at h
    split
    · rename_i hy
      rw [List.pairwise_cons]
      refine ⟨fun z hz => ?_, insL_sorted x h.2⟩
      rcases List.mem_cons.mp ((insL_perm x r).mem_iff.mp hz) with rfl | hz
      · exact lx_asym _ _ hy
      · exact h.1 z hz
    · rename_i hy
      have hy : HT.lexLt y x = false := by simpa using hy
      rw [List.pairwise_cons, List.pairwise_cons]
      refine ⟨fun z hz => ?_, h⟩
      rcases List.mem_cons.mp hz with rfl | hz
      · exact hy
      · exact lx_tr x y z hy (h.1 z hz)
theorem lsort_sorted : ∀ l, (lsort l).Pairwise LeL
  | [] => List.Pairwise.nil
  | x :: r => insL_sorted x (lsort_sorted r)
theorem sorted_uniq : ∀ {l k : List (List Int)}, l.Perm k → l.Pairwise LeL → k.Pairwise LeL → l = k
  | [], k, p, _, _ => (List.Perm.nil_eq p)
  | x :: l, [], p, _, _ => by simpa using p.length_eq
  | x :: l, y :: k, p, h1, h2 => by
    rw [List.pairwise_cons] at h1 h2
    have e : x = y := by
      rcases List.mem_cons.mp (p.mem_iff.mp (List.mem_cons_self ..)) with e | hx
      · exact e
      · rcases List.mem_cons.mp (p.mem_iff.mpr (List.mem_cons_self ..)) with e | hy
        · exact e.symm
        · exact lx_anti _ _ (h2.1 x hx) (h1.1 y hy)
    subst e
    rw [sorted_uniq ((List.perm_cons _).mp p) h1.2 h2.2]
section
variable {prog : Program} {w : World} {A : Around} {E : Value → Shared → Prop} {s : Shared}
theorem key_ints : ∀ {ns : List Int} {us : List Value} (i : Nat), IntsAre us ns → tupItems (fun _ => false) i us = some (ns.map Sum.inl)
  | [], us, i, h => by
    cases us with
    | nil => rfl
    | cons u us => cases h
  | n :: ns, us, i, h => by
    cases us with
    | nil => cases h
    | cons u us =>
      obtain ⟨t, vs', e, h2⟩ := IntsAre.cons_inv h
      cases e
      have ih := key_ints (i + 1) h2
      unfold tupItems
      rw [if_neg Bool.false_ne_true, ih]
      rfl
theorem item_lex : ∀ ns ms : List Int, PyProof.Rows.lexLt itemOrd (ns.map Sum.inl) (ms.map Sum.inl) = HT.lexLt ns ms
  | [], [] => rfl
  | [], _ :: _ => rfl
  | _ :: _, [] => rfl
  | n :: ns, m :: ms => by
    rw [List.map_cons, List.map_cons, HT.lexLt_cons]
    by_cases e : n = m
    · subst e
      rw [lex_self, if_pos rfl]
      exact item_lex ns ms
    · rw [lex_diff (fun z => e (Sum.inl.inj z)), if_neg e]
      rfl
theorem tup_key {v : Value} {ns : List Int} (h : TS.TupInts s.heap v ns) : tupKey s.heap (fun _ => false) v = some (ns.map Sum.inl) := by
  obtain ⟨a, xs, rfl, ⟨o, ho, hc, n, hd⟩, i⟩ := h
  unfold tupKey
  simp only [ho, hd]
  exact key_ints 0 i
theorem tups_of {h : Heap} : ∀ {vs : List Value}, (∀ v ∈ vs, ∃ ns, TS.TupInts h v ns ∧ ns ≠ []) → ∃ fs, TupsOf h (fun _ => false) vs fs ∧ fs.length = vs.length
  | [], _ => ⟨[], .nil, rfl⟩
  | v :: vs, hv => by
    obtain ⟨fs, h1, h2⟩ := tups_of (vs := vs) fun u hu => hv u (List.mem_cons_of_mem _ hu)
    obtain ⟨ns, ⟨a, xs, rfl, ⟨o, ho, hc, n, hd⟩, i⟩, hne⟩ := hv v (List.mem_cons_self ..)
    cases ns with
    | nil => exact absurd rfl hne
    | cons k ns =>
      cases hx : xs.toList with
      | nil => rw [hx] at i; cases i
      | cons u us =>
        rw [hx] at i
        obtain ⟨t, vs', e, _⟩ := IntsAre.cons_inv i
        cases e
        have h0 : xs[0]? = some (Value.int k t) := by
          rw [← Array.getElem?_toList, hx]
          rfl
        exact ⟨.int k t :: fs, .cons ⟨a, o, xs, n, rfl, ho, hc, hd, h0, fun _ => ⟨k, t, rfl⟩, fun z => by cases z⟩ h1, by simp [h2]⟩
theorem tups_sortable {a : Addr} {vs : List Value} (h0 : 0 < vs.length) (hp : ∀ v ∈ vs, ∃ ns, TS.TupInts s.heap v ns ∧ ns ≠ []) (ha : ∀ o, s.heap.get? a = some o → o.cls ≠ .type "tuple") (f : Value → List Int) (hf : ∀ v ∈ vs, ∀ ns, TS.TupInts s.heap v ns → f v = ns) :
    SrtO.SortableO prog w A s a vs fun v u => HT.lexLt (f v) (f u) := by
  intro h' keep
  have kp : ∀ b o, s.heap.get? b = some o → o.cls = .type "tuple" → h'.get? b = some o := fun b o e c => keep b o (fun z => by subst z; exact ha o e c) e
  have hp' : ∀ v ∈ vs, ∃ ns, TS.TupInts h' v ns ∧ ns ≠ [] := fun v hv => by
    obtain ⟨ns, t, hn⟩ := hp v hv
    exact ⟨ns, t.keeps kp, hn⟩
  obtain ⟨fs, h1, h2⟩ := tups_of hp'
  refine ⟨tuples' true, fun Q E hq => tup_kind (s := { s with heap := h' }) (by omega) h1 hq, fun p q hm hm' => ?_⟩
  obtain ⟨ns, t1, _⟩ := hp p.1 hm
  obtain ⟨ms, t2, _⟩ := hp q.1 hm'
  refine tup_ltAt (s := { s with heap := h' }) (shape := fun _ => false) true _ _ p.1 q.1 (ns.map Sum.inl) (ms.map Sum.inl) (tup_key (t1.keeps kp)) (tup_key (t2.keeps kp)) ⟨rfl, ?_⟩
  show PyProof.Rows.lexLt itemOrd (ns.map Sum.inl) (ms.map Sum.inl) = HT.lexLt (f p.1) (f q.1)
  rw [item_lex, hf _ hm _ t1, hf _ hm' _ t2]
end
section
variable {X : Cx}
/-- sorted(xs), xs a list of int tuples, none empty -/
def rSortL (K : Fg) : List V → Hp → VK → Prop := fun vs H Q => ∃ (a : Addr) (xs : List V), vs = [V.ref a] ∧ SqL K H a xs ∧ (∀ x ∈ xs, ∃ ns, TupI K H x ns ∧ ns ≠ []) ∧
  ∀ (ys : List V) (p : Addr), ys.Perm xs → ys.Pairwise (fun x y => ∀ n m, TupI K H x n → TupI K H y m → LeL n m) → H p = none → Q (.ref p) (upd H p (.lst ys))
theorem cr_sortL : CallR X (.builtin "sorted") (rSortL X.K) := by
  intro pins s σ H vs us Q inv r h
  obtain ⟨a, xs, rfl, hs, hx, q⟩ := h
  obtain ⟨its, rv, hl, hz⟩ := inv.list hs
  rw [Vals.ref1 r]
  obtain ⟨e1, e2⟩ := bkV_refs rv fun x m => by
    obtain ⟨ns, ⟨t, e, _⟩, _⟩ := hx x m
    exact ⟨t, e⟩
  have hraw : ∀ v ∈ its, ∃ ns, TS.TupInts s.heap v ns ∧ ns ≠ [] := fun v hv => by
    obtain ⟨t, rfl⟩ := e2 v hv
    have hm : V.ref t ∈ xs := by rw [e1]; exact List.mem_map.mpr ⟨_, hv, rfl⟩
    obtain ⟨ns, ⟨t', e, ht⟩, hn⟩ := hx _ hm
    cases e
    exact ⟨ns, tupI_raw inv ht, hn⟩
  refine SrtO.sorted_ord (ltv := fun v u => HT.lexLt (TS.intsOf s.heap v) (TS.intsOf s.heap u)) (lx_swo _) hl.isList (by rw [← rv.length]; exact hz) (fun h2 h₁ b hb kk => ?_) fun out h1 h2 => ?_
  · refine tups_sortable (s := { s with heap := h₁ }) (by omega) (fun v hv => ?_) (fun o e => ?_) (TS.intsOf s.heap) (fun v hv ns t => ?_)
    · obtain ⟨ns, t, hn⟩ := hraw v hv
      exact ⟨ns, t.keeps fun b o e _ => (kk b o e).2, hn⟩
    · have e' : some o = some (seqObj "list" its.toArray 0) := e.symm.trans hb
      cases e'
      intro c
      exact absurd (Value.type.inj c) (by decide)
    · obtain ⟨ns0, t0, _⟩ := hraw v hv
      have : ns = ns0 := t.ints.symm.trans (t0.keeps fun b o e _ => (kk b o e).2).ints
      rw [this]
      exact t0.ints
  · obtain ⟨ep, he'⟩ := PyProof.Rows.sortedAll_at s.heap its out.toArray
    have h3 : ∀ u ∈ out, ∃ a, u = Value.ref a := fun u hu => e2 u (h2.perm.mem_iff.mp hu)
    have hp : (out.map bkV).Perm xs := by
      rw [e1]
      exact h2.perm.map bkV
    have hlen : (out.map bkV).length ≤ sizeLine := by
      rw [hp.length_eq]
      exact hz
    refine ⟨.ref _, upd H (s.heap.objs.size + 1) (.lst (out.map bkV)), inv.laid (t' := s.toks) (fun _ _ => PyProof.Rows.sortedAll_old) (Nat.le_succ _) ⟨hlen, out, ep, bkV_vals h3, he'⟩, rfl, q _ _ hp ?_ (inv.hok.fresh (Nat.le_succ _))⟩
    rw [List.pairwise_map]
    refine List.Pairwise.imp (fun {u v} huv n m hn hm => ?_) h1
    obtain ⟨t, et, ht⟩ := hn
    obtain ⟨t', et', ht'⟩ := hm
    have i1 : TS.intsOf s.heap u = n := by rw [bkV_ref et]; exact (tupI_raw inv ht).ints
    have i2 : TS.intsOf s.heap v = m := by rw [bkV_ref et']; exact (tupI_raw inv ht').ints
    show HT.lexLt m n = false
    rw [← i1, ← i2]
    exact huv
end
def asTups : List D → Option (List (List Int))
  | [] => some []
  | .tuple ds :: r => match asInts ds, asTups r with
    | some ns, some l => some (ns :: l)
    | _, _ => none
  | _ => none
theorem asTups_map : ∀ l : List (List Int), asTups (l.map fun ns => .tuple (ns.map .int)) = some l
  | [] => rfl
  | ns :: l => by
    show (match asInts (ns.map .int), asTups (l.map fun ns => .tuple (ns.map .int)) with | some ns, some l => some (ns :: l) | _, _ => none) = _
    rw [asInts_map, asTups_map l]
theorem asTups_eq : ∀ {ds : List D} {l : List (List Int)}, asTups ds = some l → ds = l.map fun ns => .tuple (ns.map .int)
  | [], l, h => by cases h; rfl
  | d :: r, l, h => by
    unfold asTups at h
    split at h
    · rename_i e; cases e
    · rename_i ds r' e
      cases e
      cases e1 : asInts ds with
      | none => rw [e1] at h; cases h
      | some ns =>
        cases e2 : asTups r with
        | none => rw [e1, e2] at h; cases h
        | some l' =>
          rw [e1, e2] at h
          cases h
          rw [asInts_eq e1, asTups_eq e2]
          rfl
    · cases h
def gSortL : List D → Option (List D)
  | [.list ds] => match asTups ds with
    | some l => if ∀ ns ∈ l, ns ≠ [] then some ((lsort l).map fun ns => .tuple (ns.map .int)) else none
    | none => none
  | _ => none
section
variable {K : Fg} {H : Hp} {A : Addr → Prop}
theorem rep_tups : ∀ {l : List (List Int)} {vs : List V}, RepL K H A (l.map fun ns => .tuple (ns.map .int)) vs → ∃ ks : List (Addr × List Int), vs = ks.map (fun p => V.ref p.1) ∧ ks.map (·.2) = l ∧ ∀ p ∈ ks, SqT K H p.1 (p.2.map V.int) := by
  intro l
  induction l with
  | nil =>
    intro vs r
    cases r
    exact ⟨[], rfl, rfl, fun _ z => nomatch z⟩
  | cons ns l ih =>
    intro vs r
    cases r with
    | cons r t =>
      cases r with
      | @tup a xs _ h lr =>
        have e := repL_ints lr
        subst e
        obtain ⟨ks, h1, h2, h3⟩ := ih t
        refine ⟨(a, ns) :: ks, by rw [h1]; rfl, by rw [List.map_cons, h2], fun p hp => ?_⟩
        rcases List.mem_cons.mp hp with rfl | hp
        · exact h
        · exact h3 p hp
theorem tups_rep : ∀ {ks : List (Addr × List Int)}, (∀ p ∈ ks, SqT K H p.1 (p.2.map V.int)) → RepL K H A ((ks.map (·.2)).map fun ns => .tuple (ns.map .int)) (ks.map fun p => V.ref p.1)
  | [], _ => .nil
  | p :: ks, h => .cons (.tup (h p (List.mem_cons_self ..)) (repL_of_ints _)) (tups_rep fun q hq => h q (List.mem_cons_of_mem _ hq))
theorem perm_pull : ∀ {ys : List V} {ks : List (Addr × List Int)}, ys.Perm (ks.map fun p => V.ref p.1) → ∃ ks' : List (Addr × List Int), ks'.Perm ks ∧ ys = ks'.map fun p => V.ref p.1
  | [], ks, h => by
    have : ks = [] := by
      have := h.length_eq
      simp at this
      exact List.length_eq_zero_iff.mp this.symm
    exact ⟨[], by rw [this], rfl⟩
  | y :: ys, ks, h => by
    obtain ⟨k, hk, e⟩ := List.mem_map.mp (h.mem_iff.mp (List.mem_cons_self ..))
    obtain ⟨a, b, rfl⟩ := List.append_of_mem hk
    have h2 : ys.Perm ((a ++ b).map fun p => V.ref p.1) := by
      have h3 : (y :: ys).Perm (y :: (a ++ b).map fun p => V.ref p.1) := h.trans (by
        rw [List.map_append, List.map_cons, e, List.map_append]
        exact List.perm_middle)
      exact (List.perm_cons _).mp h3
    obtain ⟨ks', p1, p2⟩ := perm_pull h2
    exact ⟨k :: ks', (p1.cons k).trans List.perm_middle.symm, by rw [p2, List.map_cons, e]⟩
theorem k_sortL : RCFk K (rSortL K) gSortL := fun A H xs ds zs Q hf r hz q => by
  cases r with
  | nil => cases hz
  | cons r1 r2 =>
    cases r2 with
    | cons _ _ => cases r1 <;> cases hz
    | nil =>
      cases r1 with
      | lst a1 h1 l =>
        rename_i al vs es
        unfold gSortL at hz
        cases e1 : asTups es with
        | none => simp [e1] at hz
        | some nss =>
          simp only [e1] at hz
          obtain ⟨hne, rfl⟩ := ite_some hz
          rw [asTups_eq e1] at l
          obtain ⟨ks, rfl, h2, h3⟩ := rep_tups l
          refine ⟨al, _, rfl, .inl (.inl h1), fun x hx => ?_, fun ys p pm pw hp => ?_⟩
          · obtain ⟨k, hk, rfl⟩ := List.mem_map.mp hx
            exact ⟨k.2, ⟨k.1, rfl, h3 k hk⟩, hne _ (by rw [← h2]; exact List.mem_map_of_mem hk)⟩
          · obtain ⟨ks', pm', rfl⟩ := perm_pull pm
            have hs : ks'.map (·.2) = lsort nss := by
              refine sorted_uniq ?_ ?_ (lsort_sorted nss)
              · rw [← h2]
                exact (pm'.map _).trans (lsort_perm _).symm
              · rw [List.pairwise_map] at pw ⊢
                refine List.Pairwise.imp_of_mem (fun {x y} hx hy h => ?_) pw
                exact h _ _ ⟨x.1, rfl, h3 x (pm'.mem_iff.mp hx)⟩ ⟨y.1, rfl, h3 y (pm'.mem_iff.mp hy)⟩
            have sm := same_new (o := .lst (ks'.map fun p => V.ref p.1)) hp
            refine q p _ _ hp sm upd_same ?_
            rw [← hs]
            exact tups_rep fun k hk => (same_keep (A := fun _ => True) sm).sqT (h3 k (pm'.mem_iff.mp hk))
      | _ => cases hz
end
end G8

set_option Elab.async false
set_option linter.all false
set_option maxRecDepth 100000
set_option maxHeartbeats 1000000
namespace G8
open PySem PySem.Spec PyProof.Rows L2 LamX
/-! ### range(i, j, -1) -/
@[simp] noncomputable def gRng3 : D → D → D → Option (List D)
  | .int i, .int j, .int c => if okR i = true ∧ okR j = true ∧ c = -1 then some (rngC i (-1) (i - j).toNat) else none
  | _, _, _ => none
@[simp] def f3 (G : D → D → D → Option (List D)) (f g h : DE) : DL := fun ρ δ => bnd (f ρ δ) fun a δ => bnd (g ρ δ) fun b δ => bnd (h ρ δ) fun c δ => lft (G a b c) δ
section
variable {X : Cx} {C : Ct} {W : Wx} {a b c tg : Expr} {f g h : DE} {pos p : Pos}
theorem rngC_get {lo k : Int} {n i : Nat} (h : i < n) : (rngC lo k n)[i]? = some (.int (lo + (i : Nat) * k)) := by
  unfold rngC
  rw [List.getElem?_map, List.getElem?_range h]
  rfl
theorem walkD_rngC {A : Addr → Prop} {lo k : Int} {n : Nat} : WalkD C A (Itc lo k n) n (rngC lo k n) (fun _ => True) where
  w := ⟨_, walk_rangeC, fun i H1 x H2 hi hG y => by
    obtain ⟨rfl, rfl⟩ := y
    exact ⟨Same.refl _, _, rngC_get hi, .int _⟩⟩
  keep := fun _ _ _ _ => trivial
  len := by unfold rngC; rw [List.length_map, List.length_range]
theorem i_rng3 (hm : X.mg "range" = none) (ha : PE X a (rdE C W f)) (hb : PE X b (rdE C W g)) (hc : PE X c (rdE C W h)) (hg : Gl X "range" := by rfl) (hs : starEach [a, b, c] X.env = (false, eval a X.env) :: starEach [b, c] X.env := by rfl) (hs2 : starEach [b, c] X.env = (false, eval b X.env) :: starEach [c] X.env := by rfl) (hs3 : starEach [c] X.env = [(false, eval c X.env)] := by rfl) (hpl : (backTo pos (starEach [b, c] X.env)).any (·.1) = false := by rfl) :
    PI X tg (.Call (.Name "range" p) [a, b, c] [] pos) (rdI C W (f3 gRng3 f g h)) :=
  (pi_range3 hg hm (pa_cons ha (pa_cons hb (pa_cons hc pa_nil hs3) hs2) hs) hs hpl).imp fun σ H R ⟨ρ, δ, E, p⟩ => ⟨ρ, δ, E, (p.seq anti_I).mono fun d δ1 H1 x1 E1 q v rv => ⟨ρ, δ1, E1, (q.seq anti_I).mono fun d2 δ2 H2 x2 E2 q2 w rw => ⟨ρ, δ2, E2, (q2.seq anti_I).mono fun d3 δ3 H3 x3 E3 q3 u ru => by
    obtain ⟨items, e, q⟩ := q3.lft
    cases rv with
    | int i =>
      cases rw with
      | int j =>
        cases ru with
        | int k =>
          obtain ⟨hj, rfl⟩ := ite_some e
          obtain ⟨h1, h2, rfl⟩ := hj
          have h1 := cdec_iff.mp h1
          have h2 := cdec_iff.mp h2
          exact ⟨i, j, -1, _, rfl, RgC.neg (lo62 h1.1) (hi62 h1.2) (lo62 h2.1) (hi62 h2.2), q H3 Ext.refl E3 _ _ _ walkD_rngC trivial⟩
        | _ => cases e
      | _ => cases ru <;> cases e
    | _ => cases rw <;> cases ru <;> cases e⟩⟩⟩
end
end G8

set_option Elab.async false
set_option linter.all false
set_option maxRecDepth 100000
set_option maxHeartbeats 1000000
namespace G8
open PySem PySem.Spec PyProof.Rows L2 LamX
/-! ### texts -/
abbrev chD (c : Nat) : D := .str ⟨#[c]⟩
def signsD (x : Str) : List D := x.cps.toList.map chD
@[simp] def gSgn : D → Option (List D)
  | .str x => some (signsD x)
  | _ => none
/-- c in z, c one sign -/
@[simp] def gInS : D → D → Option D
  | .str c, .str z => match c.cps.toList with
    | [k] => some (.bool (decide (k ∈ z.cps.toList)))
    | _ => none
  | _, _ => none
@[simp] def gIxS : D → D → Option D
  | .str z, .int i => if z.length ≤ 100000 then (atI z.cps.toList i).map chD else none
  | _, _ => none
@[simp] def gMulS : D → D → Option D
  | .str z, .int k => if z.length ≤ 100 ∧ 0 ≤ k ∧ k ≤ 1000 then some (.str (Txt.mul z k)) else none
  | _, _ => none
def asStrs : List D → Option (List Str)
  | [] => some []
  | .str x :: r => (asStrs r).map (x :: ·)
  | _ => none
theorem asStrs_map : ∀ l : List Str, asStrs (l.map .str) = some l
  | [] => rfl
  | x :: l => by
    show (asStrs (l.map .str)).map (x :: ·) = _
    rw [asStrs_map l]
    rfl
theorem asStrs_eq : ∀ {ds : List D} {l : List Str}, asStrs ds = some l → ds = l.map .str
  | [], l, h => by cases h; rfl
  | d :: r, l, h => by
    unfold asStrs at h
    split at h
    · rename_i e; cases e
    · rename_i x r' e
      cases e
      cases e1 : asStrs r with
      | none => rw [e1] at h; cases h
      | some l' =>
        rw [e1] at h
        cases h
        rw [asStrs_eq e1]
        rfl
    · cases h
@[simp] def gJoin : D → D → Option D
  | .str a, .list ds => match asStrs ds with
    | some ys => if (ys.map (·.length)).sum + ys.length * a.length ≤ 100000 then some (.str (Txt.join a ys)) else none
    | none => none
  | _, _ => none
@[simp] def gSplit : D → D → Option (List D)
  | .str a, .str b => if (b.length == 0) = false ∧ a.length ≤ 100000 then some ((Txt.split a b).map .str) else none
  | _, _ => none
@[simp] noncomputable def gStr : List D → Option D
  | [.int i] => if cdec (i.natAbs.log2 < 1920) = true then some (.str (toString i)) else none
  | _ => none
@[simp] def gIntS : List D → Option D
  | [.str a] => match intText? a with
    | some n => if a.length ≤ 640 then some (.int n) else none
    | none => none
  | _ => none
/-- a method of a text -/
@[simp] def dT2 (g : D → D → Option D) (f h : DE) : DE := fun ρ δ => bnd (f ρ δ) fun a δ => match a with
  | .str z => bnd (h ρ δ) fun b δ => lft (g (.str z) b) δ
  | _ => none
@[simp] def fT2 (g : D → D → Option (List D)) (f h : DE) : DL := fun ρ δ => bnd (f ρ δ) fun a δ => match a with
  | .str z => bnd (h ρ δ) fun b δ => lft (g (.str z) b) δ
  | _ => none
section
variable {X : Cx} {C : Ct} {W : Wx} {e a b c tg : Expr} {es : List Expr} {f g h : DE} {pos p p1 p2 p3 : Pos} {σ : L2.St} {ρ : Rho} {δ δ1 : Dl} {H H1 H' : Hp} {K : Fg}
theorem str_one {c : Str} {k : Nat} (h : c.cps.toList = [k]) : c = ⟨#[k]⟩ := by
  obtain ⟨⟨l⟩⟩ := c
  cases h
  rfl
theorem k_inS : R2Ok K (fun x y H Q => ∃ (c : Nat) (z : Str), x = .str ⟨#[c]⟩ ∧ y = .str z ∧ Q (.bl (decide (c ∈ z.cps.toList))) H) gInS := fun A H x y d e z Q hf rd re hz q => by
  cases rd with
  | str c =>
    cases re with
    | str z' =>
      cases ek : c.cps.toList with
      | nil => simp [ek] at hz
      | cons k r =>
        cases r with
        | nil =>
          simp only [gInS, ek, Option.some.injEq] at hz
          subst hz
          exact ⟨k, z', by rw [str_one ek], rfl, q _ H (Same.refl H) (.bl _)⟩
        | cons _ _ => simp [ek] at hz
    | _ => cases hz
  | _ => cases re <;> cases hz
theorem k_ixS : R2Ok K rIxS gIxS := fun A H x y d e z Q hf rd re hz q => by
  cases rd with
  | str c =>
    cases re with
    | int i =>
      have hz : (if c.length ≤ 100000 then (atI c.cps.toList i).map chD else none) = some z := hz
      by_cases hl : c.length ≤ 100000
      · rw [if_pos hl] at hz
        cases ea : atI c.cps.toList i with
        | none => rw [ea] at hz; cases hz
        | some k =>
          rw [ea] at hz
          cases hz
          exact ⟨c, i, k, rfl, rfl, to_line hl, ea, q _ H (Same.refl H) (.str _)⟩
      · rw [if_neg hl] at hz
        cases hz
    | _ => cases hz
  | _ => cases re <;> cases hz
theorem mulOk {z : Str} {k : Int} (h : z.length ≤ 100 ∧ 0 ≤ k ∧ k ≤ 1000) : MulOk z k := by
  obtain ⟨h1, h2, h3⟩ := h
  have hb : (2 : Int) ^ 63 = 9223372036854775808 := by decide
  refine ⟨?_, fun h4 _ => ?_, fun _ _ => ?_⟩
  · rw [Bool.or_eq_false_iff, decide_eq_false_iff_not, decide_eq_false_iff_not]
    omega
  · rw [hb]
    have : (9223372036854775808 - 1) / k ≥ 100 := by
      rw [ge_iff_le, Int.le_ediv_iff_mul_le (by omega)]
      omega
    omega
  · have : z.length * k.toNat ≤ 100 * 1000 := Nat.mul_le_mul h1 (by omega)
    have h9 := to_line (show z.length * k.toNat ≤ 100000 by omega)
    show decide (_ > sizeLine) = false
    exact decide_eq_false (by omega)
theorem op_mulS : OpR X (binaryOp .Mult) (fun x y H Q => ∃ (z : Str) (k : Int), x = .str z ∧ y = .int k ∧ MulOk z k ∧ Q (.str (Txt.mul z k)) H) := by
  intro pins s σ H x y v u Q I rx ry h
  obtain ⟨z, k, rfl, rfl, ok, q⟩ := h
  obtain ⟨t, rfl⟩ := rx
  obtain ⟨t', rfl⟩ := ry
  exact SB.mul ok fun t1 k1 => ⟨.str (Txt.mul z k), H, I.tok k1, ⟨t1, rfl⟩, q⟩
theorem k_mulS : R2Ok K (fun x y H Q => ∃ (z : Str) (k : Int), x = .str z ∧ y = .int k ∧ MulOk z k ∧ Q (.str (Txt.mul z k)) H) gMulS := fun A H x y d e z Q hf rd re hz q => by
  cases rd with
  | str c =>
    cases re with
    | int i =>
      obtain ⟨hl, rfl⟩ := ite_some hz
      exact ⟨c, i, rfl, rfl, mulOk hl, q _ H (Same.refl H) (.str _)⟩
    | _ => cases hz
  | _ => cases re <;> cases hz
theorem k_str : RCOk K (fun xs H Q => ∃ i, xs = [.int i] ∧ i.natAbs.log2 < 1920 ∧ Q (.str (toString i)) H) gStr := fun A H xs ds z Q hf r hz q => by
  cases r with
  | nil => cases hz
  | cons r1 r2 =>
    cases r2 with
    | cons _ _ => cases r1 <;> cases hz
    | nil =>
      cases r1 with
      | int i =>
        obtain ⟨hl, rfl⟩ := ite_some hz
        exact ⟨i, rfl, cdec_iff.mp hl, q _ H (Same.refl H) (.str _)⟩
      | _ => cases hz
theorem k_intS : RCOk K (fun xs H Q => ∃ a n, xs = [.str a] ∧ intText? a = some n ∧ a.length ≤ 640 ∧ Q (.int n) H) gIntS := fun A H xs ds z Q hf r hz q => by
  cases r with
  | nil => cases hz
  | cons r1 r2 =>
    cases r2 with
    | cons _ _ => cases r1 <;> cases hz
    | nil =>
      cases r1 with
      | str a =>
        cases ea : intText? a with
        | none => simp [ea] at hz
        | some n =>
          simp only [gIntS, ea] at hz
          obtain ⟨hl, rfl⟩ := ite_some hz
          exact ⟨a, n, rfl, ea, hl, q _ H (Same.refl H) (.int _)⟩
      | _ => cases hz
/-- for c in text -/
theorem walkD_str {A : Addr → Prop} {z : Str} : WalkD C A (Its z) z.cps.size (signsD z) (fun _ => True) where
  w := ⟨_, walk_str, fun i H1 x H2 hi hG y => by
    obtain ⟨rfl, c, hc, rfl⟩ := y
    refine ⟨Same.refl _, chD c, ?_, .str _⟩
    unfold signsD
    rw [List.getElem?_map, Array.getElem?_toList, hc]
    rfl⟩
  keep := fun _ _ _ _ => trivial
  len := by unfold signsD; rw [List.length_map, Array.length_toList]
theorem i_str (ha : PE X a (rdE C W f)) : PI X tg a (rdI C W (f1 gSgn f)) := (pi_str ha).imp fun σ H R ⟨ρ, δ, E, p⟩ => by
  refine ⟨ρ, δ, E, (p.seq anti_I).mono fun d δ1 H1 x1 E1 q v rv => ?_⟩
  obtain ⟨ds, e, q⟩ := q.lft
  cases rv with
  | str z =>
    cases e
    exact ⟨z, rfl, q H1 Ext.refl E1 _ _ _ walkD_str trivial⟩
  | _ => cases e
/-- z[lo:hi] -/
@[simp] def gSlS : D → Option Int → Option Int → Option D
  | .str z, lo, hi => if z.length ≤ 100000 then some (.str (cutS z lo hi)) else none
  | _, _, _ => none
@[simp] def dSlS (f : DE) (lo hi : OO) : DE := fun ρ δ => bnd (f ρ δ) fun a δ => bnd (dPart lo ρ δ) fun l δ => bnd (dPart hi ρ δ) fun u δ => lft (gSlS a l u) δ
theorem pd_slS {lo hi : Option Expr} {fl fh : OO} {p2 : Pos} (ha : PE X a (rdE C W f)) (hl : PO X lo (rdO C W fl)) (hh : PO X hi (rdO C W fh)) : PE X (.Subscript a (.Slice lo hi none p2) pos) (rdE C W (dSlS f fl fh)) := by
  refine (pe_slice sl_str ha hl hh).imp fun σ H Q ⟨ρ, δ, E, p⟩ => ?_
  refine ⟨ρ, δ, E, (p.seq anti_E).mono fun a δ1 H1 x1 E1 q v rv => ⟨ρ, δ1, E1, (q.seq anti_E).mono fun l δ2 H2 x2 E2 q2 => ⟨ρ, δ2, E2, (q2.seq anti_E).mono fun u δ3 H3 x3 E3 q3 => ?_⟩⟩⟩
  obtain ⟨z, ez, q4⟩ := q3.lft
  cases rv with
  | str y =>
    obtain ⟨hz, rfl⟩ := ite_some ez
    exact ⟨y, rfl, to_line hz, q4 H3 Ext.refl E3 _ (.str _)⟩
  | _ => cases ez
theorem pd_ixS (ha : PE X a (rdE C W f)) (hb : PE X b (rdE C W h)) (hs : PlainIx b := by exact fun _ _ => rfl) : PE X (.Subscript a b pos) (rdE C W (d2 gIxS f h)) := (pe_ix ix_str ha hb hs).imp fun _ _ _ p => rd_two k_ixS p
/-- sep.join(list) -/
theorem strs_of {A : Addr → Prop} : ∀ {l : List Str} {vs : List V}, RepL K H A (l.map .str) vs → vs = l.map V.str
  | [], _, .nil => rfl
  | x :: l, _, .cons (.str _) t => by rw [strs_of t]; rfl
theorem rep_strs {A : Addr → Prop} : ∀ (l : List Str), RepL K H A (l.map .str) (l.map V.str)
  | [] => .nil
  | x :: l => .cons (.str x) (rep_strs l)
theorem pd_join (ha : PE X a (rdE C W f)) (hb : PE X b (rdE C W h)) (hK : X.K = C.K) (hst : starEach [b] X.env = (false, eval b X.env) :: starEach [] X.env := by rfl)
    (hba : attributeBase a "join" X.env (eval a X.env) = eval a X.env := by rfl)
    (hfew : ((backTo p3 (starEach [b] X.env)).all (fun x => !x.1) && (backToKw p3 (keywordEach [] X.env)).all (fun x => x.1.isSome)
      && decide ([b].length + ([] : List Keyword).length + (if ([] : List Keyword).isEmpty then 0 else 1) < 30)) = true := by rfl) (hl : (p2.endLine == p3.line) = true := by rfl) :
    PE X (.Call (.Attribute a "join" p2) [b] [] p3) (rdE C W (dT2 gJoin f h)) := by
  refine (pe_bm PySem.F.plainAttrs_str PySem.F.slot_str_join PySem.F.type_str_join mt_join ha (pa_cons hb pa_nil hst) hba hfew hl hst).imp fun σ H Q ⟨ρ, δ, E, p⟩ => ?_
  rw [hK]
  refine ⟨ρ, δ, E, (p.seq anti_E).mono fun d δ1 H1 x1 E1 q v rv => ?_⟩
  cases rv with
  | str z =>
    refine ⟨rfl, ρ, δ1, E1, (Post.seq (R := oE C σ ρ Q) q anti_E).mono fun d2 δ2 H2 x2 E2 q2 w rw => ?_⟩
    obtain ⟨y, ey, q3⟩ := q2.lft
    cases rw with
    | lst s1 s2 s3 =>
      rename_i al xs ds
      cases es : asStrs ds with
      | none => simp [es] at ey
      | some ys =>
        simp only [gJoin, es] at ey
        obtain ⟨hz, rfl⟩ := ite_some ey
        rw [asStrs_eq es] at s3
        refine ⟨z, al, ys, rfl, rfl, .inl (.inl (.inl ?_)), by omega, q3 H2 Ext.refl E2 _ (.str _)⟩
        rw [s2, strs_of s3]
    | _ => cases ey
  | _ => exact q.elim
/-- text.split(sep): a new list -/
theorem pd_split (ha : PE X a (rdE C W f)) (hb : PE X b (rdE C W h)) (hst : starEach [b] X.env = (false, eval b X.env) :: starEach [] X.env := by rfl)
    (hba : attributeBase a "split" X.env (eval a X.env) = eval a X.env := by rfl)
    (hfew : ((backTo p3 (starEach [b] X.env)).all (fun x => !x.1) && (backToKw p3 (keywordEach [] X.env)).all (fun x => x.1.isSome)
      && decide ([b].length + ([] : List Keyword).length + (if ([] : List Keyword).isEmpty then 0 else 1) < 30)) = true := by rfl) (hl : (p2.endLine == p3.line) = true := by rfl) :
    PE X (.Call (.Attribute a "split" p2) [b] [] p3) (rdF C W (fT2 gSplit f h)) := by
  refine (pe_bm PySem.F.plainAttrs_str PySem.F.slot_str_split PySem.F.type_str_split mt_split ha (pa_cons hb pa_nil hst) hba hfew hl hst).imp fun σ H Q ⟨ρ, δ, E, p⟩ => ?_
  refine ⟨ρ, δ, E, (Post.seq (R := fun _ ds _ H' => ∀ p vs, Np H p → H' p = some (.lst vs) → RepL C.K H' (fun a => Av C σ ρ a ∧ a ≠ p) ds vs → Q (.ref p) H') p anti_F).mono fun d δ1 H1 x1 E1 q v rv => ?_⟩
  cases rv with
  | str z =>
    refine ⟨rfl, ρ, δ1, E1, (Post.seq (R := fun _ ds _ H' => ∀ p vs, Np H p → H' p = some (.lst vs) → RepL C.K H' (fun a => Av C σ ρ a ∧ a ≠ p) ds vs → Q (.ref p) H') q anti_F).mono fun d2 δ2 H2 x2 E2 q2 w rw => ?_⟩
    obtain ⟨y, ey, q3⟩ := q2.lft
    cases rw with
    | str u =>
      obtain ⟨⟨h1, h2⟩, rfl⟩ := ite_some ey
      have h3 := to_line h2
      refine ⟨z, u, rfl, rfl, h1, ?_, fun p hp => ?_⟩
      · have : z.length + 2 ≤ 100002 := by omega
        exact Nat.le_trans this (by decide)
      · exact q3 _ (same_ext (same_new hp)) (E2.grow0 (same_new hp)) p _ (ext_same_none E (x1.trans x2) E2 (np_none hp)) upd_same (rep_strs _)
    | _ => cases ey
  | _ => exact q.elim
/-! ### f-strings -/
@[simp] noncomputable def gFmt : D → Option D
  | .str y => if y.length ≤ 100000 then some (.str y) else none
  | .int i => if cdec (i.natAbs.log2 < 1920) = true then some (.str (toString i)) else none
  | _ => none
theorem pd_fmt (ha : PE X a (rdE C W f)) : PE X (.FormattedValue a (-1) none pos) (rdE C W (d1 gFmt f)) := (pe_fmt ha).imp fun σ H Q ⟨ρ, δ, E, p⟩ => by
  refine ⟨ρ, δ, E, (p.seq anti_E).mono fun d δ1 H1 x1 E1 q v rv => ?_⟩
  obtain ⟨z, ez, q⟩ := q.lft
  cases rv with
  | str y =>
    obtain ⟨hl, rfl⟩ := ite_some ez
    exact .inl ⟨y, rfl, to_line hl, q H1 Ext.refl E1 _ (.str _)⟩
  | int i =>
    obtain ⟨hl, rfl⟩ := ite_some ez
    exact .inr ⟨i, rfl, cdec_iff.mp hl, q H1 Ext.refl E1 _ (.str _)⟩
  | _ => cases ez
/-- the parts one behind the other -/
@[simp] def dJs : List DE → Str → DE
  | [], acc => fun _ δ => some (.ok (.str acc), δ)
  | f :: fs, acc => fun ρ δ => bnd (f ρ δ) fun d δ => match d with
    | .str y => if (acc ++ y).length ≤ 100000 then dJs fs (acc ++ y) ρ δ else none
    | _ => none
inductive PJd (X : Cx) (C : Ct) (W : Wx) : List Expr → List DE → Prop
  | nil : PJd X C W [] []
  | cons {e : Expr} {f : DE} {es : List Expr} {fs : List DE} : PE X e (rdE C W f) → PJd X C W es fs → PJd X C W (e :: es) (f :: fs)
theorem PJd.pj {es : List Expr} {fs : List DE} (p : PJd X C W es fs) : PJ X es (fs.map (rdE C W)) := by
  induction p with
  | nil => exact .nil
  | cons h _ ih => exact .cons h ih
theorem js_rd : ∀ (fs : List DE) (acc : Str) {σ : L2.St} {ρ : Rho} {δ : Dl} {H : Hp} {Q : VK}, EnvOk C H σ ρ δ → Post C W σ ρ (oE C σ ρ Q) H (dJs fs acc ρ δ) → tJs (fs.map (rdE C W)) acc σ H fun out H1 => Q (.str out) H1
  | [], acc, σ, ρ, δ, H, Q, E, p => p.val E _ (.str _)
  | f :: fs, acc, σ, ρ, δ, H, Q, E, p => by
    refine ⟨ρ, δ, E, (Post.seq (R := oE C σ ρ Q) p anti_E).mono fun d δ1 H1 x1 E1 q v rv => ?_⟩
    cases rv with
    | str y =>
      have q : Post C W σ ρ (oE C σ ρ Q) H1 (if (acc ++ y).length ≤ 100000 then dJs fs (acc ++ y) ρ δ1 else none) := q
      by_cases hz : (acc ++ y).length ≤ 100000
      · rw [if_pos hz] at q
        exact ⟨y, rfl, to_line hz, js_rd fs (acc ++ y) E1 q⟩
      · rw [if_neg hz] at q
        exact q.elim
    | _ => exact q.elim
theorem pd_joined {v1 v2 : Expr} {rest : List Expr} {f1' f2' : DE} {fs : List DE} (h : PJd X C W (v1 :: v2 :: rest) (f1' :: f2' :: fs)) : PE X (.JoinedStr (v1 :: v2 :: rest) pos) (rdE C W (dJs (f1' :: f2' :: fs) Str.empty)) :=
  (pe_joined h.pj).imp fun σ H Q ⟨ρ, δ, E, p⟩ => js_rd _ _ E p
/-! ### enumerate(text) -/
theorem two_line : 2 ≤ sizeLine := to_line (by omega)
def ItE (z : Str) : It := ⟨fun i _ => i < z.cps.size, fun i H v H' => ∃ T c, v = .ref T ∧ H T = none ∧ H' = upd H T (.tup [.int (i : Nat), .str ⟨#[c]⟩]) ∧ z.cps[i]? = some c, fun i _ => i = z.cps.size⟩
theorem drawsS {P : Program} {w : World} {A : Around} (hh : A.handled = none) (it : Addr) (z : Str) (t : Tok) : Draws P w A it [it] z.cps.size (fun i v => ∃ c u, z.cps[i]? = some c ∧ v = .str ⟨#[c]⟩ u) (fun i h => h.IsStrIter it (strIterType z) z t i) := by
  unfold strIterType
  split
  · exact Draws.strAscii hh it z t
  · exact Draws.strWide hh it z t
theorem turnE {P : Program} {w : World} {K : PySem.W.Frag} {elts : List Expr} {kk : Nat} {tpos : Pos} (z : Str) (t : Tok) (e it : Addr) :
    Turn P w K (.Tuple elts kk tpos) (ItE z) [e, it] e (fun i h => (∃ old, IsEnum h e it ((i : Nat) : Int) old) ∧ h.IsStrIter it (strIterType z) z t i ∧ e ≠ it) where
  mem := List.mem_cons_self ..
  obj := fun i h ⟨⟨old, he⟩, ⟨o, ho, hc, hd⟩, _⟩ b hb => by
    rcases List.mem_cons.mp hb with rfl | hb
    · exact ⟨_, he, fun v q => nomatch q⟩
    · cases List.mem_singleton.mp hb
      exact ⟨o, ho, fun v q => by rw [hd] at q; cases q⟩
  keep := fun i h h' ⟨⟨old, he⟩, ⟨o, ho, hr⟩, hne⟩ k => ⟨⟨old, k e (List.mem_cons_self ..) _ he⟩, ⟨o, k it (List.mem_cons_of_mem _ (List.mem_singleton.mpr rfl)) o ho, hr⟩, hne⟩
  item := fun {X} hP hw hK hc i pins s σ H E I hf st hg => by
    subst hP hw hK
    obtain ⟨⟨old, he⟩, hit, hne⟩ := st
    have lo : e < s.heap.objs.size := Heap.lt_size he
    have li : it < s.heap.objs.size := let ⟨_, q, _⟩ := hit; Heap.lt_size q
    refine wpAny_pyNext_enum_itemD (drawsS (A := X.A.in1) (I.ok.hd hc) it z t) he hit hg hne (fun q => hne (List.mem_singleton.mp q)) fun x h1 tk ⟨c, u, hcx, hx⟩ ho st1 hT hsz hk => ?_
    subst hx
    refine ⟨_, rfl, wpAny_letOwnedTupleGo_enum (s := { s with heap := h1, toks := tk + 1 }) ho fun h2 he2 sb => ?_⟩
    have hT2 := (sb.2 s.heap.objs.size (Nat.ne_of_gt lo)).trans hT
    have nw : ObjOk X.prog X.w (upd H s.heap.objs.size (.tup [.int (i : Nat), .str ⟨#[c]⟩])) h2 s.heap.objs.size (.tup [.int (i : Nat), .str ⟨#[c]⟩]) :=
      ⟨two_line, _, .cons ⟨tk, rfl⟩ (.cons ⟨u, rfl⟩ .nil), ⟨_, hT2, rfl, _, rfl⟩⟩
    have kp : ∀ b o, b ∉ [e, it] → s.heap.get? b = some o → h2.get? b = some o := fun b o nb q => by
      have n1 : b ≠ e := fun y => nb (by rw [y]; exact List.mem_cons_self ..)
      have n2 : b ≠ it := fun y => nb (by rw [y]; exact List.mem_cons_of_mem _ (List.mem_singleton.mpr rfl))
      exact (sb.2 b n1).trans (hk b o n1 n2 q)
    have J := I.turnedNew (t' := tk + 1) kp hf (Nat.le_refl _) nw
    refine ⟨.ref s.heap.objs.size, _, J, rfl, ⟨_, c, rfl, I.hok.fresh (Nat.le_refl _), rfl, hcx⟩, ⟨⟨.str ⟨#[c]⟩ u, ?_⟩, ?_, hne⟩, fun b hb => ?_⟩
    · rw [show ((i + 1 : Nat) : Int) = (i : Int) + 1 by omega]
      exact he2
    · obtain ⟨o, q, r⟩ := st1
      exact ⟨o, (sb.2 it (Ne.symm hne)).trans q, r⟩
    · have lb : b < s.heap.objs.size := by
        rcases List.mem_cons.mp hb with rfl | hb
        · exact lo
        · cases List.mem_singleton.mp hb
          exact li
      rw [upd_ne (Nat.ne_of_lt lb)]
      exact (hf b hb).1
  done := fun {X} hP hw hK hc i pins s σ H E I hf st hg => by
    subst hP hw hK
    obtain ⟨⟨old, he⟩, hit, hne⟩ := st
    have hg : i = z.cps.size := hg
    subst hg
    obtain ⟨f0, f1, f2, f3, f4, f5⟩ := hf it (List.mem_cons_of_mem _ (List.mem_singleton.mpr rfl))
    exact wpAny_pyNext_enum_endD (drawsS (A := X.A.in1) (I.ok.hd hc) it z t) he hit fun h1 eb => ⟨rfl, I.turned (t' := s.toks) (fun b o nb q => eb b o nb q) f0 f1 f3 f4 f5⟩
  self := fun A i s Q E ⟨⟨_, he⟩, _⟩ h => wpAny_pyIter_enum he h
def enumS (z : Str) : List D := enumD (signsD z)
@[simp] def gEnumS : D → Option (List D)
  | .str z => some (enumS z)
  | _ => none
theorem walkE {z : Str} : Walk (ItE z) z.cps.size (fun _ => True) (YPair (fun i => some (.int (i : Nat))) (fun i => z.cps[i]?.map fun c => .str ⟨#[c]⟩)) :=
  ⟨fun _ _ hi _ => hi, fun _ _ => rfl, fun i H v H' hi _ ⟨T, c, h1, h2, h3, h4⟩ => ⟨T, _, _, h1, h2, h3, rfl, by show z.cps[i]?.map _ = _; rw [h4]; rfl⟩⟩
theorem walkD_enumS {A : Addr → Prop} {z : Str} : WalkD C A (ItE z) z.cps.size (enumS z) (fun _ => True) where
  w := by
    refine ⟨_, walkE, fun i H1 v H2 hi k ⟨T, x, y, hv, hT, hH, hx, hy⟩ => ?_⟩
    cases hx
    have hy : (z.cps[i]?.map fun c => V.str ⟨#[c]⟩) = some y := hy
    cases ec : z.cps[i]? with
    | none => rw [ec] at hy; cases hy
    | some c =>
      rw [ec] at hy
      cases hy
      subst hv hH
      refine ⟨same_new hT, .tuple [.int (i : Nat), chD c], ?_, .tup (.inl (.inl upd_same)) (.cons (.int _) (.cons (.str _) .nil))⟩
      unfold enumS enumD signsD
      rw [List.getElem?_map, List.getElem?_zipIdx, List.getElem?_map, Array.getElem?_toList, ec]
      simp
  keep := fun _ _ _ _ => trivial
  len := by
    unfold enumS enumD signsD
    rw [List.length_map, List.length_zipIdx, List.length_map, Array.length_toList]
theorem i_enumS {elts : List Expr} {kk : Nat} {tpos : Pos} (hm : X.mg "enumerate" = none) (ha : PE X a (rdE C W f)) (hg : Gl X "enumerate" := by rfl) (hs : starEach [a] X.env = [(false, eval a X.env)] := by rfl) :
    PI X (.Tuple elts kk tpos) (.Call (.Name "enumerate" p) [a] [] pos) (rdI C W (f1 gEnumS f)) := by
  refine ⟨fun pins s σ H R I ⟨ρ, δ, E, q⟩ => ?_⟩
  have pa := pa_cons ha pa_nil hs
  refine Call_ (ld_blt I hg hm boot_enumerate (PyProof.Rows.callWith_type1 (thn (pa.run pos pins s σ H (fun vs H1 => ∃ z, vs = [V.str z] ∧ R (ItE z) H1) I ?_) fun us s1 ⟨vs, H1, I1, r1, z, ez, q1⟩ => ?_) hs rfl))
  · refine ⟨ρ, δ, E, (q.seq anti_I).mono fun d δ1 H1 x1 E1 q v rv => ?_⟩
    obtain ⟨ds, e, q⟩ := q.lft
    cases rv with
    | str z =>
      cases e
      exact ⟨z, rfl, q H1 Ext.refl E1 _ _ _ walkD_enumS trivial⟩
    | _ => cases e
  · subst ez
    cases r1 with
    | cons r rr =>
      cases rr
      obtain ⟨t, rfl⟩ := r
      refine call_enumerate_str fun h1 he hit hsz hk => wpAny_pyIter_enum he ?_
      refine ⟨_, [s1.heap.objs.size + 1, s1.heap.objs.size], _, ItE z, H1, rfl, I1.kept (t' := s1.toks) hk, turnE z t _ _, ⟨⟨.none, he⟩, hit, Nat.succ_ne_self _⟩, fun b hb => ?_, q1⟩
      have le : s1.heap.objs.size ≤ b := by
        rcases List.mem_cons.mp hb with rfl | hb
        · exact Nat.le_succ _
        · cases List.mem_singleton.mp hb
          exact Nat.le_refl _
      exact I1.fpOk le (I1.hok.fresh le)
end
end G8

set_option Elab.async false
set_option linter.all false
set_option maxRecDepth 100000
set_option maxHeartbeats 1000000
namespace G8
open PySem PySem.Spec PyProof.Rows L2
noncomputable def b__wall_l0 : DS :=
    sBad
noncomputable def b__wall : DS :=
    (sSeq (sWhile 1000 (dC (.bool true)) b__wall_l0)
    sNil)
noncomputable def g__wall : Fs := run 1 1 b__wall
theorem eq__wall : ∀ ds r, g__wall ds = some r → run 1 1 b__wall ds = some r := fun _ _ h => h
noncomputable def b_is_whole : DS :=
    (sSeq (sRet (dAnd (d1 (gIsi PyData.isInt) (dV 0)) (dAnd (dNot (d1 (gIsi PyData.isBool) (dV 0))) (dChain gLe gLe (dV 1) (dV 0) (dV 2)))))
    sNil)
noncomputable def g_is_whole : Fs := run 3 3 b_is_whole
theorem eq_is_whole : ∀ ds r, g_is_whole ds = some r → run 3 3 b_is_whole ds = some r := fun _ _ h => h
noncomputable def b_is_ring : DS :=
    (sSeq (sRet (dAnd (d1 (gIsi PyData.isTuple) (dV 0)) (dAnd (d2 gEq (dCB gLen (aCons (dV 0) aNil)) (dC (.int 2))) (dAnd (dCall g_is_whole (aCons (d2 gIx (dB 0) (dC (.int 0))) (aCons (dC (.int 4)) (aCons (dC (.int 24)) aNil)))) (dCall g_is_whole (aCons (d2 gIx (dB 0) (dC (.int 1))) (aCons (dC (.int 1)) (aCons (dC (.int 3)) aNil))))))))
    sNil)
noncomputable def g_is_ring : Fs := run 1 1 b_is_ring
theorem eq_is_ring : ∀ ds r, g_is_ring ds = some r → run 1 1 b_is_ring ds = some r := fun _ _ h => h
noncomputable def b_need_ring : DS :=
    (sSeq (sIf (dNot (dCall g_is_ring (aCons (dV 0) aNil))) (sSeq (sExc "BadRing")
    sNil) sNil)
    sNil)
noncomputable def g_need_ring : Fs := run 1 1 b_need_ring
theorem eq_need_ring : ∀ ds r, g_need_ring ds = some r → run 1 1 b_need_ring ds = some r := fun _ _ h => h
noncomputable def b_is_good_row : DS :=
    (sSeq (sIf (dOr (dNot (d1 (gIsi PyData.isTuple) (dV 1))) (dOr (d2 gEq (dV 1) (dTup aNil)) (dNot (dCB gAll (aCons (dL (fLc (fSeq (dV 1)) (tgN 2) dYes (dCall g_is_whole (aCons (dV 2) (aCons (dC (.int 0)) (aCons (d2 gSub (d2 gIx (dB 0) (dC (.int 0))) (dC (.int 1))) aNil)))) [2])) aNil))))) (sSeq (sRet (dC (.bool false)))
    sNil) sNil)
    (sSeq (sRet (dCB gAll (aCons (dL (fLc (f2 gZip (dV 1) (dSl (dV 1) (some (dC (.int 1))) none)) (tgT [2, 3]) dYes (d2 gLt (dV 2) (dV 3)) [2, 3])) aNil)))
    sNil))
noncomputable def g_is_good_row : Fs := run 4 2 b_is_good_row
theorem eq_is_good_row : ∀ ds r, g_is_good_row ds = some r → run 4 2 b_is_good_row ds = some r := fun _ _ h => h
noncomputable def b_is_row : DS :=
    (sSeq (sDrop (dCall g_need_ring (aCons (dV 0) aNil)))
    (sSeq (sRet (dCall g_is_good_row (aCons (dV 0) (aCons (dV 1) aNil))))
    sNil))
noncomputable def g_is_row : Fs := run 2 2 b_is_row
theorem eq_is_row : ∀ ds r, g_is_row ds = some r → run 2 2 b_is_row ds = some r := fun _ _ h => h
noncomputable def b_need_row : DS :=
    (sSeq (sDrop (dCall g_need_ring (aCons (dV 0) aNil)))
    (sSeq (sIf (dNot (dCall g_is_good_row (aCons (dV 0) (aCons (dV 1) aNil)))) (sSeq (sExc "BadRow")
    sNil) sNil)
    sNil))
noncomputable def g_need_row : Fs := run 2 2 b_need_row
theorem eq_need_row : ∀ ds r, g_need_row ds = some r → run 2 2 b_need_row ds = some r := fun _ _ h => h
noncomputable def b_all_gaps : DS :=
    (sSeq (sSet 2 (d2 gAdd (dL (fCB gList (aCons (dSl (dV 1) (some (dC (.int 1))) none) aNil))) (dL (fLst (aCons (d2 gAdd (d2 gIx (dB 1) (dC (.int 0))) (d2 gIx (dB 0) (dC (.int 0)))) aNil)))))
    (sSeq (sRet (dCB gTuple (aCons (dL (fLc (f2 gZip (dV 1) (dV 2)) (tgT [3, 4]) dYes (d2 gSub (d2 gSub (dV 4) (dV 3)) (dC (.int 1))) [3, 4])) aNil)))
    sNil))
noncomputable def g_all_gaps : Fs := run 5 2 b_all_gaps
theorem eq_all_gaps : ∀ ds r, g_all_gaps ds = some r → run 5 2 b_all_gaps ds = some r := fun _ _ h => h
noncomputable def b_gaps : DS :=
    (sSeq (sDrop (dCall g_need_row (aCons (dV 0) (aCons (dV 1) aNil))))
    (sSeq (sRet (dCall g_all_gaps (aCons (dV 0) (aCons (dV 1) aNil))))
    sNil))
noncomputable def g_gaps : Fs := run 2 2 b_gaps
theorem eq_gaps : ∀ ds r, g_gaps ds = some r → run 2 2 b_gaps ds = some r := fun _ _ h => h
noncomputable def b_goings : DS :=
    (sSeq (sRet (dCB gTuple (aCons (dL (fLc (fSeq (dCall g_all_gaps (aCons (dV 0) (aCons (dV 1) aNil)))) (tgN 2) dYes (dCB gMin (aCons (d2 gIx (dB 0) (dC (.int 1))) (aCons (dV 2) aNil))) [2])) aNil)))
    sNil)
noncomputable def g_goings : Fs := run 3 2 b_goings
theorem eq_goings : ∀ ds r, g_goings ds = some r → run 3 2 b_goings ds = some r := fun _ _ h => h
noncomputable def b_moved : DS :=
    (sSeq (sRet (dCB gTuple (aCons (dL (fCB gSorted (aCons (dL (fLc (f2 gZip (dV 1) (dV 2)) (tgT [3, 4]) dYes (d2 gMod (d2 gAdd (dV 3) (dV 4)) (d2 gIx (dB 0) (dC (.int 0)))) [3, 4])) aNil))) aNil)))
    sNil)
noncomputable def g_moved : Fs := run 5 3 b_moved
theorem eq_moved : ∀ ds r, g_moved ds = some r → run 5 3 b_moved ds = some r := fun _ _ h => h
noncomputable def b_next_row : DS :=
    (sSeq (sRet (dCall g_moved (aCons (dV 0) (aCons (dV 1) (aCons (dCall g_goings (aCons (dV 0) (aCons (dV 1) aNil))) aNil)))))
    sNil)
noncomputable def g_next_row : Fs := run 2 2 b_next_row
theorem eq_next_row : ∀ ds r, g_next_row ds = some r → run 2 2 b_next_row ds = some r := fun _ _ h => h
noncomputable def b_beat : DS :=
    (sSeq (sDrop (dCall g_need_row (aCons (dV 0) (aCons (dV 1) aNil))))
    (sSeq (sRet (dCall g_next_row (aCons (dV 0) (aCons (dV 1) aNil))))
    sNil))
noncomputable def g_beat : Fs := run 2 2 b_beat
theorem eq_beat : ∀ ds r, g_beat ds = some r → run 2 2 b_beat ds = some r := fun _ _ h => h
noncomputable def b_lowest : DS :=
    (sSeq (sPar [2, 3] (aCons (dV 0) (aCons (dV 1) aNil)))
    (sSeq (sWhile 1000 (d2 gNe (dV 3) (dC (.int 0))) (sSeq (sPar [2, 3] (aCons (dV 3) (aCons (d2 gMod (dV 2) (dV 3)) aNil)))
    sNil))
    (sSeq (sRet (dTup (aCons (d2 gDiv (dV 0) (dV 2)) (aCons (d2 gDiv (dV 1) (dV 2)) aNil))))
    sNil)))
noncomputable def g_lowest : Fs := run 4 2 b_lowest
theorem eq_lowest : ∀ ds r, g_lowest ds = some r → run 4 2 b_lowest ds = some r := fun _ _ h => h
noncomputable def b_pace : DS :=
    (sSeq (sDrop (dCall g_need_row (aCons (dV 0) (aCons (dV 1) aNil))))
    (sSeq (sUnp [2, 3] (dV 0))
    (sSeq (sSet 4 (dCB gLen (aCons (dV 1) aNil)))
    (sSeq (sRet (dIf (d2 gGe (dV 2) (d2 gMul (dV 4) (d2 gAdd (dV 3) (dC (.int 1))))) (dTup (aCons (dV 3) (aCons (dC (.int 1)) aNil))) (dCall g_lowest (aCons (d2 gSub (dV 2) (dV 4)) (aCons (dV 4) aNil)))))
    sNil))))
noncomputable def g_pace : Fs := run 5 2 b_pace
theorem eq_pace : ∀ ds r, g_pace ds = some r → run 5 2 b_pace ds = some r := fun _ _ h => h
noncomputable def b_need_moment : DS :=
    (sSeq (sIf (dNot (dCall g_is_whole (aCons (dV 0) (aCons (dC (.int 0)) (aCons (dC (.int 1000000000000000000)) aNil))))) (sSeq (sExc "BadNumber")
    sNil) sNil)
    sNil)
noncomputable def g_need_moment : Fs := run 1 1 b_need_moment
theorem eq_need_moment : ∀ ds r, g_need_moment ds = some r → run 1 1 b_need_moment ds = some r := fun _ _ h => h
noncomputable def b_need_all : DS :=
    (sSeq (sDrop (dCall g_need_row (aCons (dV 0) (aCons (dV 1) aNil))))
    (sSeq (sDrop (dCall g_need_moment (aCons (dV 2) aNil)))
    sNil))
noncomputable def g_need_all : Fs := run 3 3 b_need_all
theorem eq_need_all : ∀ ds r, g_need_all ds = some r → run 3 3 b_need_all ds = some r := fun _ _ h => h
noncomputable def b_ahead_of : DS :=
    (sSeq (sSet 4 (d2 gDiv (d2 gAdd (dV 2) (dV 3)) (dCB gLen (aCons (dV 1) aNil))))
    (sSeq (sRet (d2 gSub (d2 gAdd (d2 gMul (dV 4) (d2 gIx (dB 0) (dC (.int 0)))) (d2 gIx (dB 1) (d2 gMod (d2 gAdd (dV 2) (dV 3)) (dCB gLen (aCons (dV 1) aNil))))) (d2 gIx (dB 1) (dV 2))))
    sNil))
noncomputable def g_ahead_of : Fs := run 5 4 b_ahead_of
theorem eq_ahead_of : ∀ ds r, g_ahead_of ds = some r → run 5 4 b_ahead_of ds = some r := fun _ _ h => h
noncomputable def b_asked : DS :=
    (sSeq (sSet 3 (dCB gLen (aCons (dV 1) aNil)))
    (sSeq (sIf (d2 gLt (dV 2) (d2 gMul (dC (.int 2)) (dV 3))) (sSeq (sRet (dL (f1 gLR1 (d2 gAdd (dV 2) (dC (.int 1))))))
    sNil) sNil)
    (sSeq (sIf (d2 gGe (d2 gIx (dB 0) (dC (.int 0))) (d2 gMul (dV 3) (d2 gAdd (d2 gIx (dB 0) (dC (.int 1))) (dC (.int 1))))) (sSeq (sRet (dL (f1 gLR1 (dV 3))))
    sNil) sNil)
    (sSeq (sRet (dL (f2 gLR2 (d2 gAdd (d2 gSub (dV 2) (dV 3)) (dC (.int 1))) (d2 gAdd (dV 2) (dC (.int 1))))))
    sNil))))
noncomputable def g_asked : Fs := run 4 3 b_asked
theorem eq_asked : ∀ ds r, g_asked ds = some r → run 4 3 b_asked ds = some r := fun _ _ h => h
noncomputable def b_least_at : DS :=
    (sSeq (sSetF 4 (fLst aNil))
    (sSeq (sFor (fSeq (dCall g_asked (aCons (dV 0) (aCons (dV 1) (aCons (dV 3) aNil))))) (tgN 5) (sSeq (sApp 4 (dTup (aCons (d2 gSub (d2 gAdd (dCall g_ahead_of (aCons (dV 0) (aCons (dV 1) (aCons (dV 2) (aCons (dV 5) aNil))))) (d2 gMul (d2 gIx (dB 0) (dC (.int 1))) (d2 gSub (dV 3) (dV 5)))) (dV 5)) (aCons (dV 5) aNil))))
    sNil))
    (sFrz 4 (sSeq (sRet (dCB gMin (aCons (dV 4) aNil)))
    sNil))))
noncomputable def g_least_at : Fs := run 6 4 b_least_at
theorem eq_least_at : ∀ ds r, g_least_at ds = some r → run 6 4 b_least_at ds = some r := fun _ _ h => h
noncomputable def b_all_gone : DS :=
    (sSeq (sRet (dCB gTuple (aCons (dL (fLc (f1 gRng1 (dCB gLen (aCons (dV 1) aNil))) (tgN 3) dYes (d2 gIx (dCall g_least_at (aCons (dV 0) (aCons (dV 1) (aCons (dV 3) (aCons (dV 2) aNil))))) (dC (.int 0))) [3])) aNil)))
    sNil)
noncomputable def g_all_gone : Fs := run 4 3 b_all_gone
theorem eq_all_gone : ∀ ds r, g_all_gone ds = some r → run 4 3 b_all_gone ds = some r := fun _ _ h => h
noncomputable def b_gone : DS :=
    (sSeq (sDrop (dCall g_need_all (aCons (dV 0) (aCons (dV 1) (aCons (dV 2) aNil)))))
    (sSeq (sRet (dCall g_all_gone (aCons (dV 0) (aCons (dV 1) (aCons (dV 2) aNil)))))
    sNil))
noncomputable def g_gone : Fs := run 3 3 b_gone
theorem eq_gone : ∀ ds r, g_gone ds = some r → run 3 3 b_gone ds = some r := fun _ _ h => h
noncomputable def b_row_at : DS :=
    (sSeq (sRet (dCall g_moved (aCons (dV 0) (aCons (dV 1) (aCons (dCall g_all_gone (aCons (dV 0) (aCons (dV 1) (aCons (dV 2) aNil)))) aNil)))))
    sNil)
noncomputable def g_row_at : Fs := run 3 3 b_row_at
theorem eq_row_at : ∀ ds r, g_row_at ds = some r → run 3 3 b_row_at ds = some r := fun _ _ h => h
noncomputable def b_after : DS :=
    (sSeq (sDrop (dCall g_need_all (aCons (dV 0) (aCons (dV 1) (aCons (dV 2) aNil)))))
    (sSeq (sRet (dCall g_row_at (aCons (dV 0) (aCons (dV 1) (aCons (dV 2) aNil)))))
    sNil))
noncomputable def g_after : Fs := run 3 3 b_after
theorem eq_after : ∀ ds r, g_after ds = some r → run 3 3 b_after ds = some r := fun _ _ h => h
noncomputable def b_need_cell : DS :=
    (sSeq (sIf (dNot (dCall g_is_whole (aCons (dV 1) (aCons (dC (.int 0)) (aCons (d2 gSub (d2 gIx (dB 0) (dC (.int 0))) (dC (.int 1))) aNil))))) (sSeq (sExc "BadCell")
    sNil) sNil)
    sNil)
noncomputable def g_need_cell : Fs := run 2 2 b_need_cell
theorem eq_need_cell : ∀ ds r, g_need_cell ds = some r → run 2 2 b_need_cell ds = some r := fun _ _ h => h
noncomputable def b_heard_now : DS :=
    (sSeq (sSet 3 (dCall g_goings (aCons (dV 0) (aCons (dV 1) aNil))))
    (sSeq (sRet (dCB gLen (aCons (dL (fLc (f2 gZip (dV 1) (dV 3)) (tgT [4, 5]) (d2 gLt (d2 gMod (d2 gSub (dV 2) (dV 4)) (d2 gIx (dB 0) (dC (.int 0)))) (dV 5)) (dV 4) [4, 5])) aNil)))
    sNil))
noncomputable def g_heard_now : Fs := run 6 3 b_heard_now
theorem eq_heard_now : ∀ ds r, g_heard_now ds = some r → run 6 3 b_heard_now ds = some r := fun _ _ h => h
noncomputable def b_heard_l0 : DS :=
    (sSeq (sApp 4 (dCall g_heard_now (aCons (dV 0) (aCons (dV 1) (aCons (dV 2) aNil)))))
    (sSeq (sSet 1 (dCall g_next_row (aCons (dV 0) (aCons (dV 1) aNil))))
    sNil))
noncomputable def b_heard : DS :=
    (sSeq (sDrop (dCall g_need_row (aCons (dV 0) (aCons (dV 1) aNil))))
    (sSeq (sDrop (dCall g_need_cell (aCons (dV 0) (aCons (dV 2) aNil))))
    (sSeq (sIf (dNot (dCall g_is_whole (aCons (dV 3) (aCons (dC (.int 0)) (aCons (dC (.int 100)) aNil))))) (sSeq (sExc "BadNumber")
    sNil) sNil)
    (sSeq (sSetF 4 (fLst aNil))
    (sSeq (sFor (f1 gRng1 (dV 3)) (tgN 5) b_heard_l0)
    (sFrz 4 (sSeq (sRet (dB 4))
    sNil)))))))
noncomputable def g_heard : Fs := run 6 4 b_heard
theorem eq_heard : ∀ ds r, g_heard ds = some r → run 6 4 b_heard ds = some r := fun _ _ h => h
noncomputable def b_is_room : DS :=
    (sSeq (sRet (d2 gGe (d2 gIx (dB 0) (dC (.int 0))) (d2 gMul (dCB gLen (aCons (dV 1) aNil)) (d2 gAdd (d2 gIx (dB 0) (dC (.int 1))) (dC (.int 1))))))
    sNil)
noncomputable def g_is_room : Fs := run 2 2 b_is_room
theorem eq_is_room : ∀ ds r, g_is_room ds = some r → run 2 2 b_is_room ds = some r := fun _ _ h => h
noncomputable def b_need_room : DS :=
    (sSeq (sDrop (dCall g_need_row (aCons (dV 0) (aCons (dV 1) aNil))))
    (sSeq (sIf (dNot (dCall g_is_room (aCons (dV 0) (aCons (dV 1) aNil)))) (sSeq (sExc "Nothing")
    sNil) sNil)
    sNil))
noncomputable def g_need_room : Fs := run 2 2 b_need_room
theorem eq_need_room : ∀ ds r, g_need_room ds = some r → run 2 2 b_need_room ds = some r := fun _ _ h => h
noncomputable def b_all_mates_l0 : DS :=
    (sSeq (sIf (d2 gIn (dV 6) (dV 1)) (sSeq (sSet 5 (dIdx (dV 1) (dV 6)))
    (sSeq (sIf (dAnd (d2 gNotIn (dV 5) (dB 4)) (d2 gEq (d2 gIx (dB 2) (dV 5)) (dTup aNil))) (sSeq (sApp 4 (dV 5))
    sNil) sNil)
    sNil)) (sSeq (sIf (dAnd (d2 gNe (dV 4) (dL (fLst aNil))) (d2 gNotIn (dV 6) (dB 3))) (sSeq (sSet 5 (d2 gIx (dB 4) (d1 gNeg (dC (.int 1)))))
    (sSeq (sApp 3 (dV 6))
    sBad)) sNil)
    sNil))
    sNil)
noncomputable def b_all_mates : DS :=
    (sSeq (sParM [2, 3, 4] (mO (fLc (fSeq (dV 1)) (tgN 5) dYes (dTup aNil) [5]) (mO (fLst aNil) (mO (fLst aNil) mNil))))
    (sSeq (sFor (fSeq (d2 gAdd (dL (f1 gLR1 (d2 gIx (dB 0) (dC (.int 0))))) (dL (f1 gLR1 (d2 gIx (dB 0) (dC (.int 0))))))) (tgN 6) b_all_mates_l0)
    (sFrz 4 (sFrz 3 (sFrz 2 (sSeq (sRet (dB 2))
    sNil))))))
noncomputable def g_all_mates : Fs := run 7 2 b_all_mates
theorem eq_all_mates : ∀ ds r, g_all_mates ds = some r → run 7 2 b_all_mates ds = some r := fun _ _ h => h
noncomputable def b_mates : DS :=
    (sSeq (sDrop (dCall g_need_room (aCons (dV 0) (aCons (dV 1) aNil))))
    (sSeq (sRet (dCall g_all_mates (aCons (dV 0) (aCons (dV 1) aNil))))
    sNil))
noncomputable def g_mates : Fs := run 2 2 b_mates
theorem eq_mates : ∀ ds r, g_mates ds = some r → run 2 2 b_mates ds = some r := fun _ _ h => h
noncomputable def b_all_later : DS :=
    (sSeq (sSet 4 (dCB gTuple (aCons (dL (fCB gSorted (aCons (d2 gAdd (dV 1) (dTup (aCons (dV 2) aNil))) aNil))) aNil)))
    (sSeq (sSetF 5 (fLc (f2 gZip (dV 4) (dCall g_all_gone (aCons (dV 0) (aCons (dV 4) (aCons (dV 3) aNil))))) (tgT [6, 7]) (d2 gNe (dV 6) (dV 2)) (dV 7) [6, 7]))
    (sFrz 5 (sSeq (sRet (dCB gTuple (aCons (dL (fLc (f2 gZip (dCall g_all_gone (aCons (dV 0) (aCons (dV 1) (aCons (dV 3) aNil)))) (dV 5)) (tgT [8, 7]) dYes (d2 gSub (dV 8) (dV 7)) [8, 7])) aNil)))
    sNil))))
noncomputable def g_all_later : Fs := run 9 4 b_all_later
theorem eq_all_later : ∀ ds r, g_all_later ds = some r → run 9 4 b_all_later ds = some r := fun _ _ h => h
noncomputable def b_later : DS :=
    (sSeq (sDrop (dCall g_need_row (aCons (dV 0) (aCons (dV 1) aNil))))
    (sSeq (sIf (dOr (dNot (dCall g_is_whole (aCons (dV 2) (aCons (dC (.int 0)) (aCons (d2 gSub (d2 gIx (dB 0) (dC (.int 0))) (dC (.int 1))) aNil))))) (d2 gIn (dV 2) (dV 1))) (sSeq (sExc "BadCell")
    sNil) sNil)
    (sSeq (sDrop (dCall g_need_moment (aCons (dV 3) aNil)))
    (sSeq (sRet (dCall g_all_later (aCons (dV 0) (aCons (dV 1) (aCons (dV 2) (aCons (dV 3) aNil))))))
    sNil))))
noncomputable def g_later : Fs := run 4 4 b_later
theorem eq_later : ∀ ds r, g_later ds = some r → run 4 4 b_later ds = some r := fun _ _ h => h
noncomputable def b_Road : DS :=
    (sSeq (sDrop (dCall g_need_ring (aCons (dV 1) aNil)))
    (sSeq (sIf (dNot (dCall g_is_good_row (aCons (dV 1) (aCons (dV 2) aNil)))) (sSeq (sExc "BadRow")
    sNil) sNil)
    sBad))
noncomputable def g_Road : Fs := runI 3 2 b_Road
theorem eq_Road : ∀ ds r, g_Road ds = some r → runI 3 2 b_Road ds = some r := fun _ _ h => h
noncomputable def b_is_look : DS :=
    (sSeq (sIf (dOr (dNot (d1 (gIsi PyData.isTuple) (dV 1))) (dOr (d2 gNe (dCB gLen (aCons (dV 1) aNil)) (dC (.int 3))) (dNot (dCall g_is_whole (aCons (d2 gIx (dB 1) (dC (.int 0))) (aCons (dC (.int 0)) (aCons (dC (.int 24)) aNil))))))) (sSeq (sRet (dC (.bool false)))
    sNil) sNil)
    (sSeq (sRet (dAnd (dCall g_is_whole (aCons (d2 gIx (dB 1) (dC (.int 1))) (aCons (dC (.int 0)) (aCons (d2 gSub (d2 gIx (dB 0) (dC (.int 0))) (dC (.int 1))) aNil)))) (d1 (gIsi PyData.isBool) (d2 gIx (dB 1) (dC (.int 2))))))
    sNil))
noncomputable def g_is_look : Fs := run 2 2 b_is_look
theorem eq_is_look : ∀ ds r, g_is_look ds = some r → run 2 2 b_is_look ds = some r := fun _ _ h => h
noncomputable def b_need_looks : DS :=
    (sSeq (sDrop (dCall g_need_ring (aCons (dV 0) aNil)))
    (sSeq (sIf (d2 gGt (d2 gIx (dB 0) (dC (.int 0))) (dC (.int 10))) (sSeq (sExc "Full")
    sNil) sNil)
    (sSeq (sIf (dNot (dCall g_is_whole (aCons (dV 1) (aCons (dC (.int 1)) (aCons (d2 gIx (dB 0) (dC (.int 0))) aNil))))) (sSeq (sExc "BadNumber")
    sNil) sNil)
    (sSeq (sIf (dOr (dNot (d1 (gIsi PyData.isList) (dV 2))) (dOr (d2 gGt (dCB gLen (aCons (dV 2) aNil)) (dC (.int 4))) (dNot (dCB gAll (aCons (dL (fLc (fSeq (dV 2)) (tgN 3) dYes (dCall g_is_look (aCons (dV 0) (aCons (dV 3) aNil))) [3])) aNil))))) (sSeq (sExc "BadLooks")
    sNil) sNil)
    sNil))))
noncomputable def g_need_looks : Fs := run 4 3 b_need_looks
theorem eq_need_looks : ∀ ds r, g_need_looks ds = some r → run 4 3 b_need_looks ds = some r := fun _ _ h => h
noncomputable def b_chosen_l0 (g_rec : Fs) : DS :=
    (sSeq (sSet 3 (d2 gAdd (dV 3) (dL (fLc (fSeq (dCall g_rec (aCons (d2 gAdd (dV 4) (dC (.int 1))) (aCons (dV 1) (aCons (d2 gSub (dV 2) (dC (.int 1))) aNil))))) (tgN 5) dYes (d2 gAdd (dTup (aCons (dV 4) aNil)) (dV 5)) [5]))))
    sNil)
noncomputable def b_chosen (g_rec : Fs) : DS :=
    (sSeq (sIf (d2 gEq (dV 2) (dC (.int 0))) (sSeq (sRet (dL (fLst (aCons (dTup aNil) aNil))))
    sNil) sNil)
    (sSeq (sSet 3 (dL (fLst aNil)))
    (sSeq (sFor (f2 gRng2 (dV 0) (dV 1)) (tgN 4) (b_chosen_l0 g_rec))
    (sSeq (sRet (dB 3))
    sNil))))
noncomputable def gN_chosen : Nat → Fs
  | 0 => fun _ => none
  | k + 1 => run 6 3 (b_chosen (gN_chosen k))
noncomputable def g_chosen : Fs := gN_chosen 9
noncomputable def b_does_fit : DS :=
    (sSeq (sRet (dCB gAll (aCons (dL (fLc (fSeq (dV 2)) (tgT [3, 4, 5]) dYes (d2 gEq (d2 gIn (dV 4) (dCall g_row_at (aCons (dV 0) (aCons (dV 1) (aCons (dV 3) aNil))))) (dV 5)) [3, 4, 5])) aNil)))
    sNil)
noncomputable def g_does_fit : Fs := run 6 3 b_does_fit
theorem eq_does_fit : ∀ ds r, g_does_fit ds = some r → run 6 3 b_does_fit ds = some r := fun _ _ h => h
noncomputable def b_all_fitting : DS :=
    (sSeq (sRet (dL (fLc (fSeq (dCall g_chosen (aCons (dC (.int 0)) (aCons (d2 gIx (dB 0) (dC (.int 0))) (aCons (dV 1) aNil))))) (tgN 3) (dCall g_does_fit (aCons (dV 0) (aCons (dV 3) (aCons (dV 2) aNil)))) (dV 3) [3])))
    sNil)
noncomputable def g_all_fitting : Fs := run 4 3 b_all_fitting
theorem eq_all_fitting : ∀ ds r, g_all_fitting ds = some r → run 4 3 b_all_fitting ds = some r := fun _ _ h => h
noncomputable def b_rows_for : DS :=
    (sSeq (sDrop (dCall g_need_looks (aCons (dV 0) (aCons (dV 1) (aCons (dV 2) aNil)))))
    (sSeq (sRet (dCall g_all_fitting (aCons (dV 0) (aCons (dV 1) (aCons (dV 2) aNil)))))
    sNil))
noncomputable def g_rows_for : Fs := run 3 3 b_rows_for
theorem eq_rows_for : ∀ ds r, g_rows_for ds = some r → run 3 3 b_rows_for ds = some r := fun _ _ h => h
noncomputable def b_goes_before : DS :=
    (sSeq (sIf (d2 gGt (dV 2) (dV 1)) (sSeq (sRet (dL (fLst aNil)))
    sNil) sNil)
    (sSeq (sRet (dIf (d2 gEq (dV 2) (dV 1)) (dL (f1 gLR1 (d2 gAdd (dV 0) (dC (.int 1))))) (dL (fLst (aCons (dV 0) aNil)))))
    sNil))
noncomputable def g_goes_before : Fs := run 3 3 b_goes_before
theorem eq_goes_before : ∀ ds r, g_goes_before ds = some r → run 3 3 b_goes_before ds = some r := fun _ _ h => h
noncomputable def b_count_of_l0 : DS :=
    (sSeq (sDiP 7 (dV 9) (d2 gAdd (dDGet 7 (dV 9) (dC (.int 0))) (dDIx 5 (dV 8))))
    sNil)
noncomputable def b_count_of_l1 : DS :=
    (sSeq (sFor (fSeq (dCall g_goes_before (aCons (d2 gIx (dB 0) (dC (.int 1))) (aCons (dV 6) (aCons (dV 8) aNil))))) (tgN 9) b_count_of_l0)
    sNil)
noncomputable def b_count_of_l2 : DS :=
    (sSeq (sSetD 7)
    (sSeq (sFor (fKeys 5) (tgN 8) b_count_of_l1)
    (sFrzD 7 (sSeq (sSet 5 (dV 7))
    sNil))))
noncomputable def b_count_of_l3 : DS :=
    (sSeq (sSetD1 5 4 1)
    (sFrzD 5 (sSeq (sFor (fSeq (d1 gRev (dV 3))) (tgN 6) b_count_of_l2)
    (sSeq (sSet 2 (d2 gAdd (dV 2) (dDGet 5 (dV 4) (dC (.int 0)))))
    sNil))))
noncomputable def b_count_of : DS :=
    (sSeq (sPar [2, 3] (aCons (dC (.int 0)) (aCons (dCall g_all_gaps (aCons (dV 0) (aCons (dV 1) aNil))) aNil)))
    (sSeq (sFor (f1 gRng1 (d2 gAdd (d2 gIx (dB 0) (dC (.int 1))) (dC (.int 1)))) (tgN 4) b_count_of_l3)
    (sSeq (sRet (dB 2))
    sNil)))
noncomputable def g_count_of : Fs := run 10 2 b_count_of
theorem eq_count_of : ∀ ds r, g_count_of ds = some r → run 10 2 b_count_of ds = some r := fun _ _ h => h
noncomputable def b_how_many : DS :=
    (sSeq (sDrop (dCall g_need_row (aCons (dV 0) (aCons (dV 1) aNil))))
    (sSeq (sRet (dCall g_count_of (aCons (dV 0) (aCons (dV 1) aNil))))
    sNil))
noncomputable def g_how_many : Fs := run 2 2 b_how_many
theorem eq_how_many : ∀ ds r, g_how_many ds = some r → run 2 2 b_how_many ds = some r := fun _ _ h => h
noncomputable def b_written : DS :=
    (sSeq (sRet (dT2 gJoin (dC (.str "")) (dL (fLc (f1 gRng1 (d2 gIx (dB 0) (dC (.int 0)))) (tgN 2) dYes (dIf (d2 gIn (dV 2) (dV 1)) (dC (.str "o")) (dC (.str "."))) [2]))))
    sNil)
noncomputable def g_written : Fs := run 3 2 b_written
theorem eq_written : ∀ ds r, g_written ds = some r → run 3 2 b_written ds = some r := fun _ _ h => h
noncomputable def b_row_text : DS :=
    (sSeq (sDrop (dCall g_need_row (aCons (dV 0) (aCons (dV 1) aNil))))
    (sSeq (sRet (dCall g_written (aCons (dV 0) (aCons (dV 1) aNil))))
    sNil))
noncomputable def g_row_text : Fs := run 2 2 b_row_text
theorem eq_row_text : ∀ ds r, g_row_text ds = some r → run 2 2 b_row_text ds = some r := fun _ _ h => h
noncomputable def b_ring_text : DS :=
    (sSeq (sDrop (dCall g_need_ring (aCons (dV 0) aNil)))
    (sSeq (sRet (dJs [(d1 gFmt (d2 gIx (dB 0) (dC (.int 0)))), (dC (.str " cells, reach ")), (d1 gFmt (d2 gIx (dB 0) (dC (.int 1))))] Str.empty))
    sNil))
noncomputable def g_ring_text : Fs := run 1 1 b_ring_text
theorem eq_ring_text : ∀ ds r, g_ring_text ds = some r → run 1 1 b_ring_text ds = some r := fun _ _ h => h
noncomputable def b__law_drawn : DS :=
    (sSeq (sSet 2 (d2 gMod (d2 gAdd (d2 gMul (dV 0) (dC (.int 6364136223846793005))) (d2 gMul (d2 gAdd (dV 1) (dC (.int 1))) (dC (.int 1442695040888963407)))) (dC (.int 340282366920938463463374607431768211507))))
    (sSeq (sSet 2 (d2 gMod (d2 gMul (dV 2) (dV 2)) (dC (.int 340282366920938463463374607431768211297))))
    (sSeq (sSet 2 (d2 gMul (d2 gMul (d2 gAdd (d2 gMod (dV 2) (dC (.int 18446744073709551557))) (dC (.int 1))) (d2 gAdd (d2 gDiv (dV 2) (dC (.int 18446744073709551557))) (dC (.int 1)))) (dV 2)))
    (sSeq (sRet (d2 gMod (dV 2) (dC (.int 340282366920938463463374607431768211507))))
    sNil))))
noncomputable def g__law_drawn : Fs := run 3 2 b__law_drawn
theorem eq__law_drawn : ∀ ds r, g__law_drawn ds = some r → run 3 2 b__law_drawn ds = some r := fun _ _ h => h
noncomputable def b__law_roll : DS :=
    (sSeq (sIf (d2 gGe (dDice 0 false) (d2 gPow (dC (.int 10)) (dC (.int 18)))) (sSeq (sSet 2 (d2 gMod (dDice 0 false) (dV 1)))
    (sSeq (sDice 0 false (d2 gDiv (dDice 0 false) (dV 1)))
    (sSeq (sRet (dB 2))
    sNil))) sNil)
    (sSeq (sDice 0 true (d2 gAdd (dDice 0 true) (dC (.int 1))))
    (sSeq (sRet (d2 gMod (d2 gDiv (dCall g__law_drawn (aCons (dDice 0 false) (aCons (dDice 0 true) aNil))) (dC (.int 8))) (dV 1)))
    sNil)))
noncomputable def g__law_roll : Fd := runD 3 1 b__law_roll
theorem eq__law_roll : ∀ ds δ r, g__law_roll ds δ = some r → runD 3 1 b__law_roll ds δ = some r := fun _ _ _ h => h
noncomputable def b__law_any_ring : DS :=
    (sSeq (sRet (dTup (aCons (d2 gAdd (dC (.int 4)) (dCallD 0 g__law_roll (aCons (d2 gSub (dV 1) (dC (.int 3))) aNil))) (aCons (d2 gAdd (dC (.int 1)) (dCallD 0 g__law_roll (aCons (dC (.int 3)) aNil))) aNil))))
    sNil)
noncomputable def g__law_any_ring : Fd := runD 2 1 b__law_any_ring
theorem eq__law_any_ring : ∀ ds δ r, g__law_any_ring ds δ = some r → runD 2 1 b__law_any_ring ds δ = some r := fun _ _ _ h => h
noncomputable def b__law_any_row : DS :=
    (sSeq (sPar [2, 3] (aCons (dCallD 0 g__law_roll (aCons (dC (.int 4)) aNil)) (aCons (d2 gIx (dB 1) (dC (.int 0))) aNil)))
    (sSeq (sSetF 4 (fLc (f1 gRng1 (dV 3)) (tgN 5) (d2 gEq (dCallD 0 g__law_roll (aCons (d2 gIx (dL (fLst (aCons (dC (.int 2)) (aCons (dC (.int 3)) (aCons (dC (.int 5)) (aCons (dC (.int 4)) aNil)))))) (dV 2)) aNil)) (dC (.int 0))) (dV 5) [5]))
    (sFrz 4 (sSeq (sIf (d2 gEq (dV 2) (dC (.int 3))) (sSeq (sSet 4 (d2 gAdd (dL (f1 gLR1 (d2 gAdd (d2 gDiv (dCallD 0 g__law_roll (aCons (dV 3) aNil)) (dC (.int 2))) (dC (.int 1))))) (dL (fLc (fSeq (dV 4)) (tgN 5) (d2 gGt (d2 gMul (dC (.int 2)) (dV 5)) (dV 3)) (dV 5) [5]))))
    sNil) sNil)
    (sSeq (sSet 4 (dIf (d2 gNe (dV 4) (dL (fLst aNil))) (dV 4) (dL (fLst (aCons (dCallD 0 g__law_roll (aCons (dV 3) aNil)) aNil)))))
    (sSeq (sRet (dCB gTuple (aCons (dL (f1 gSS1 (dV 4))) aNil)))
    sNil))))))
noncomputable def g__law_any_row : Fd := runD 6 1 b__law_any_row
theorem eq__law_any_row : ∀ ds δ r, g__law_any_row ds δ = some r → runD 6 1 b__law_any_row ds δ = some r := fun _ _ _ h => h
noncomputable def b__law_step : DS :=
    (sSeq (sSetF 2 (fLst aNil))
    (sSeq (sFor (f1 gEnum (dV 1)) (tgT [3, 4]) (sSeq (sSet 5 (dIf (d2 gLt (d2 gAdd (dV 3) (dC (.int 1))) (dCB gLen (aCons (dV 1) aNil))) (d2 gIx (dB 1) (d2 gAdd (dV 3) (dC (.int 1)))) (d2 gAdd (d2 gIx (dB 1) (dC (.int 0))) (d2 gIx (dB 0) (dC (.int 0))))))
    (sSeq (sSet 6 (dV 4))
    (sSeq (sWhile 1000 (dAnd (d2 gLt (d2 gSub (dV 6) (dV 4)) (d2 gIx (dB 0) (dC (.int 1)))) (d2 gLt (d2 gAdd (dV 6) (dC (.int 1))) (dV 5))) (sSeq (sSet 6 (d2 gAdd (dV 6) (dC (.int 1))))
    sNil))
    (sSeq (sApp 2 (dV 6))
    sNil)))))
    (sFrz 2 (sSeq (sRet (dB 2))
    sNil))))
noncomputable def g__law_step : Fs := run 7 2 b__law_step
theorem eq__law_step : ∀ ds r, g__law_step ds = some r → run 7 2 b__law_step ds = some r := fun _ _ h => h
noncomputable def b__law_as_row : DS :=
    (sSeq (sRet (dCB gTuple (aCons (dL (fCB gSorted (aCons (dL (fLc (fSeq (dV 1)) (tgN 2) dYes (d2 gMod (dV 2) (d2 gIx (dB 0) (dC (.int 0)))) [2])) aNil))) aNil)))
    sNil)
noncomputable def g__law_as_row : Fs := run 3 2 b__law_as_row
theorem eq__law_as_row : ∀ ds r, g__law_as_row ds = some r → run 3 2 b__law_as_row ds = some r := fun _ _ h => h
noncomputable def b__law_rings_refused_l0 : DS :=
    (sSeq (sSetF 4 (fLst (aCons (dTold (dCall g_gaps (aCons (dV 0) (aCons (dV 3) aNil)))) aNil)))
    (sSeq (sApp 4 (dTold (dCall g_beat (aCons (dV 0) (aCons (dV 3) aNil)))))
    (sSeq (sApp 4 (dTold (dCall g_after (aCons (dV 0) (aCons (dV 3) (aCons (dC .none) aNil))))))
    (sSeq (sApp 4 (dTold (dCall g_pace (aCons (dV 0) (aCons (dV 3) aNil)))))
    (sSeq (sApp 4 (dTold (dCall g_mates (aCons (dV 0) (aCons (dV 3) aNil)))))
    (sSeq (sApp 4 (dTold (dCall g_how_many (aCons (dV 0) (aCons (dV 3) aNil)))))
    (sSeq (sApp 4 (dTold (dCall g_heard (aCons (dV 0) (aCons (dV 3) (aCons (dC .none) (aCons (dC .none) aNil)))))))
    (sSeq (sApp 4 (dTold (dCall g_later (aCons (dV 0) (aCons (dV 3) (aCons (dC .none) (aCons (dC .none) aNil)))))))
    (sSeq (sApp 4 (dTold (dCall g_row_text (aCons (dV 0) (aCons (dV 3) aNil)))))
    (sFrz 4 (sSeq (sIf (dOr (d2 gIsNot (dCall g_is_row (aCons (dV 0) (aCons (dV 3) aNil))) (dC (.bool false))) (d2 gNe (dV 4) (d2 gMul (dL (fLst (aCons (dTup (aCons (dC (.str "refused")) (aCons (dC (.str "BadRow")) aNil))) aNil))) (dC (.int 9))))) (sSeq (sRet (dC (.bool false)))
    sNil) sNil)
    sNil)))))))))))
noncomputable def b__law_rings_refused_l1 : DS :=
    (sSeq (sSetF 4 (fLst (aCons (dTold (dCall g_is_row (aCons (dV 3) (aCons (dC .none) aNil)))) aNil)))
    (sSeq (sApp 4 (dTold (dCall g_beat (aCons (dV 3) (aCons (dC .none) aNil)))))
    (sSeq (sApp 4 (dTold (dCall g_Road (aCons (dV 3) (aCons (dC .none) aNil)))))
    (sSeq (sApp 4 (dTold (dCall g_gone (aCons (dV 3) (aCons (dC .none) (aCons (dC .none) aNil))))))
    (sSeq (sApp 4 (dTold (dCall g_rows_for (aCons (dV 3) (aCons (dC .none) (aCons (dC .none) aNil))))))
    (sSeq (sApp 4 (dTold (dCall g_ring_text (aCons (dV 3) aNil))))
    (sFrz 4 (sSeq (sIf (dOr (d2 gIsNot (dCall g_is_ring (aCons (dV 3) aNil)) (dC (.bool false))) (d2 gNe (dV 4) (d2 gMul (dL (fLst (aCons (dTup (aCons (dC (.str "refused")) (aCons (dC (.str "BadRing")) aNil))) aNil))) (dC (.int 6))))) (sSeq (sRet (dC (.bool false)))
    sNil) sNil)
    sNil))))))))
noncomputable def b__law_rings_refused : DS :=
    (sSeq (sSet 2 (dL (fLst (aCons (dC .none) (aCons (dC (.int 5)) (aCons (dTup aNil) (aCons (dTup (aCons (dC (.int 3)) (aCons (dC (.int 1)) aNil))) (aCons (dTup (aCons (dC (.int 25)) (aCons (dC (.int 1)) aNil))) (aCons (dTup (aCons (dC (.int 4)) (aCons (dC (.int 0)) aNil))) (aCons (dTup (aCons (dC (.int 4)) (aCons (dC (.int 4)) aNil))) (aCons (dTup (aCons (dC (.int 4)) aNil)) (aCons (dL (fLst (aCons (dC (.int 4)) (aCons (dC (.int 1)) aNil)))) (aCons (dTup (aCons (dC (.bool true)) (aCons (dC (.int 1)) aNil))) (aCons (dTup (aCons (dC (.int 4)) (aCons (dC (.bool true)) aNil))) aNil))))))))))))))
    (sSeq (sSet 2 (d2 gAdd (dV 2) (dL (fLst (aCons (dTup (aCons (dC (.int 4)) (aCons (dC (.int 1)) (aCons (dC (.int 1)) aNil)))) aNil)))))
    (sSeq (sFor (fSeq (dV 2)) (tgN 3) b__law_rings_refused_l1)
    (sSeq (sSet 2 (dL (fLst (aCons (dC .none) (aCons (dC (.int 5)) (aCons (dTup aNil) (aCons (dL (fCB gList (aCons (dV 1) aNil))) (aCons (d2 gAdd (dV 1) (dSl (dV 1) none (some (dC (.int 1))))) (aCons (dTup (aCons (d2 gIx (dB 0) (dC (.int 0))) aNil)) (aCons (dTup (aCons (d1 gNeg (dC (.int 1))) aNil)) (aCons (dTup (aCons (dC (.bool true)) aNil)) (aCons (dTup (aCons (dC (.int 1)) (aCons (dC (.int 0)) aNil))) (aCons (dTup (aCons (dC (.int 2)) (aCons (dC (.int 2)) aNil))) aNil)))))))))))))
    (sSeq (sSet 2 (d2 gAdd (dV 2) (dL (fLst (aCons (dTup (aCons (dC .none) aNil)) (aCons (dC (.str "o")) aNil))))))
    (sSeq (sFor (fSeq (dV 2)) (tgN 3) b__law_rings_refused_l0)
    (sSeq (sRet (dC (.bool true)))
    sNil)))))))
noncomputable def g__law_rings_refused : Fs := run 5 2 b__law_rings_refused
theorem eq__law_rings_refused : ∀ ds r, g__law_rings_refused ds = some r → run 5 2 b__law_rings_refused ds = some r := fun _ _ h => h
noncomputable def b_held : DS :=
    (sSeq (sDrop (dCall g_need_all (aCons (dV 0) (aCons (dV 1) (aCons (dV 2) aNil)))))
    (sSeq (sRet (dCB gTuple (aCons (dL (fLc (fSeq (dCall g_all_gone (aCons (dV 0) (aCons (dV 1) (aCons (dV 2) aNil))))) (tgN 3) dYes (d2 gSub (d2 gMul (d2 gIx (dB 0) (dC (.int 1))) (dV 2)) (dV 3)) [3])) aNil)))
    sNil))
noncomputable def g_held : Fs := run 4 3 b_held
theorem eq_held : ∀ ds r, g_held ds = some r → run 4 3 b_held ds = some r := fun _ _ h => h
noncomputable def b_held_by : DS :=
    (sSeq (sDrop (dCall g_need_all (aCons (dV 0) (aCons (dV 1) (aCons (dV 2) aNil)))))
    (sSeq (sRet (dCB gTuple (aCons (dL (fLc (f1 gRng1 (dCB gLen (aCons (dV 1) aNil))) (tgN 3) dYes (d2 gIx (dCall g_least_at (aCons (dV 0) (aCons (dV 1) (aCons (dV 3) (aCons (dV 2) aNil))))) (dC (.int 1))) [3])) aNil)))
    sNil))
noncomputable def g_held_by : Fs := run 4 3 b_held_by
theorem eq_held_by : ∀ ds r, g_held_by ds = some r → run 4 3 b_held_by ds = some r := fun _ _ h => h
noncomputable def b__law_walk : DS :=
    (sSeq (sSetF 3 (fLst (aCons (dL (fCB gList (aCons (dV 1) aNil))) aNil)))
    (sSeq (sFor (f1 gRng1 (dV 2)) (tgN 4) (sSeq (sApp 3 (dCall g__law_step (aCons (dV 0) (aCons (d2 gIx (dB 3) (d1 gNeg (dC (.int 1)))) aNil))))
    sNil))
    (sFrz 3 (sSeq (sRet (dB 3))
    sNil))))
noncomputable def g__law_walk : Fs := run 5 3 b__law_walk
theorem eq__law_walk : ∀ ds r, g__law_walk ds = some r → run 5 3 b__law_walk ds = some r := fun _ _ h => h
noncomputable def b__law_ahead : DS :=
    (sSeq (sSet 4 (dL (fLst aNil)))
    (sSeq (sFor (f1 gRng1 (d2 gAdd (d2 gDiv (d2 gAdd (dV 2) (dV 3)) (dCB gLen (aCons (dV 1) aNil))) (dC (.int 1)))) (tgN 5) (sSeq (sSet 4 (d2 gAdd (dV 4) (dL (fLc (fSeq (dV 1)) (tgN 6) dYes (d2 gAdd (dV 6) (d2 gMul (dV 5) (d2 gIx (dB 0) (dC (.int 0))))) [6]))))
    sNil))
    (sSeq (sRet (d2 gSub (d2 gIx (dB 4) (d2 gAdd (dV 2) (dV 3))) (d2 gIx (dB 1) (dV 2))))
    sNil)))
noncomputable def g__law_ahead : Fs := run 7 4 b__law_ahead
theorem eq__law_ahead : ∀ ds r, g__law_ahead ds = some r → run 7 4 b__law_ahead ds = some r := fun _ _ h => h
noncomputable def b__law_way : DS :=
    (sSeq (sSet 5 (d2 gAdd (dV 2) (dV 3)))
    (sSeq (sSet 6 (d2 gSub (d2 gAdd (d2 gMul (d2 gDiv (dV 5) (dCB gLen (aCons (dV 1) aNil))) (d2 gIx (dB 0) (dC (.int 0)))) (d2 gIx (dB 1) (d2 gMod (dV 5) (dCB gLen (aCons (dV 1) aNil))))) (d2 gIx (dB 1) (dV 2))))
    (sSeq (sRet (d2 gSub (d2 gAdd (dV 6) (d2 gMul (d2 gIx (dB 0) (dC (.int 1))) (d2 gSub (dV 4) (dV 3)))) (dV 3)))
    sNil)))
noncomputable def g__law_way : Fs := run 7 5 b__law_way
theorem eq__law_way : ∀ ds r, g__law_way ds = some r → run 7 5 b__law_way ds = some r := fun _ _ h => h
noncomputable def b__law_far_held_by : DS :=
    (sSeq (sPar [3, 4, 5] (aCons (dCall g_gone (aCons (dV 0) (aCons (dV 1) (aCons (dV 2) aNil)))) (aCons (dCall g_held_by (aCons (dV 0) (aCons (dV 1) (aCons (dV 2) aNil)))) (aCons (dCB gLen (aCons (dV 1) aNil)) aNil))))
    (sSeq (sFor (f1 gRng1 (dV 5)) (tgN 6) (sSeq (sIf (dOr (dNot (dChain gLe gLe (dC (.int 0)) (d2 gIx (dB 4) (dV 6)) (dV 2))) (d2 gNe (dCall g__law_way (aCons (dV 0) (aCons (dV 1) (aCons (dV 6) (aCons (d2 gIx (dB 4) (dV 6)) (aCons (dV 2) aNil)))))) (d2 gIx (dB 3) (dV 6)))) (sSeq (sRet (dC (.bool false)))
    sNil) sNil)
    (sSeq (sFor (fSeq (d2 gAdd (dL (f2 gLR2 (dCB gMax (aCons (dC (.int 0)) (aCons (d2 gSub (d2 gIx (dB 4) (dV 6)) (d2 gMul (dC (.int 2)) (dV 5))) aNil))) (d2 gIx (dB 4) (dV 6)))) (dL (f1 gLR1 (dV 5))))) (tgN 7) (sSeq (sSet 8 (dCall g__law_way (aCons (dV 0) (aCons (dV 1) (aCons (dV 6) (aCons (dV 7) (aCons (dV 2) aNil)))))))
    (sSeq (sIf (dOr (d2 gLt (dV 8) (d2 gIx (dB 3) (dV 6))) (dAnd (d2 gLt (dV 7) (d2 gIx (dB 4) (dV 6))) (d2 gEq (dV 8) (d2 gIx (dB 3) (dV 6))))) (sSeq (sRet (dC (.bool false)))
    sNil) sNil)
    sNil)))
    sNil)))
    (sSeq (sRet (dC (.bool true)))
    sNil)))
noncomputable def g__law_far_held_by : Fs := run 9 3 b__law_far_held_by
theorem eq__law_far_held_by : ∀ ds r, g__law_far_held_by ds = some r → run 9 3 b__law_far_held_by ds = some r := fun _ _ h => h
noncomputable def b__law_moments_refused : DS :=
    (sSeq (sFor (fSeq (dL (fLst (aCons (d1 gNeg (dC (.int 1))) (aCons (d2 gAdd (d2 gPow (dC (.int 10)) (dC (.int 18))) (dC (.int 1))) (aCons (dC (.bool true)) (aCons (dC .none) (aCons (dC (.str "1")) aNil)))))))) (tgN 2) (sSeq (sSetF 3 (fLst (aCons (dTold (dCall g_gone (aCons (dV 0) (aCons (dV 1) (aCons (dV 2) aNil))))) aNil)))
    (sSeq (sApp 3 (dTold (dCall g_after (aCons (dV 0) (aCons (dV 1) (aCons (dV 2) aNil))))))
    (sSeq (sApp 3 (dTold (dCall g_held (aCons (dV 0) (aCons (dV 1) (aCons (dV 2) aNil))))))
    (sFrz 3 (sSeq (sIf (d2 gNe (d2 gAdd (dV 3) (dL (fLst (aCons (dTold (dCall g_held_by (aCons (dV 0) (aCons (dV 1) (aCons (dV 2) aNil))))) aNil)))) (d2 gMul (dL (fLst (aCons (dTup (aCons (dC (.str "refused")) (aCons (dC (.str "BadNumber")) aNil))) aNil))) (dC (.int 4)))) (sSeq (sRet (dC (.bool false)))
    sNil) sNil)
    sNil))))))
    (sSeq (sRet (dC (.bool true)))
    sNil))
noncomputable def g__law_moments_refused : Fs := run 4 2 b__law_moments_refused
theorem eq__law_moments_refused : ∀ ds r, g__law_moments_refused ds = some r → run 4 2 b__law_moments_refused ds = some r := fun _ _ h => h
noncomputable def b_does_run : DS :=
    (sSeq (sRet (d2 gGe (dCB gMin (aCons (dCall g_all_gaps (aCons (dV 0) (aCons (dV 1) aNil))) aNil)) (d2 gIx (dB 0) (dC (.int 1)))))
    sNil)
noncomputable def g_does_run : Fs := run 2 2 b_does_run
theorem eq_does_run : ∀ ds r, g_does_run ds = some r → run 2 2 b_does_run ds = some r := fun _ _ h => h
noncomputable def b_does_back : DS :=
    (sSeq (sRet (d2 gLe (dCB gMax (aCons (dCall g_all_gaps (aCons (dV 0) (aCons (dV 1) aNil))) aNil)) (d2 gIx (dB 0) (dC (.int 1)))))
    sNil)
noncomputable def g_does_back : Fs := run 2 2 b_does_back
theorem eq_does_back : ∀ ds r, g_does_back ds = some r → run 2 2 b_does_back ds = some r := fun _ _ h => h
noncomputable def b_runs : DS :=
    (sSeq (sDrop (dCall g_need_row (aCons (dV 0) (aCons (dV 1) aNil))))
    (sSeq (sRet (dCall g_does_run (aCons (dV 0) (aCons (dV 1) aNil))))
    sNil))
noncomputable def g_runs : Fs := run 2 2 b_runs
theorem eq_runs : ∀ ds r, g_runs ds = some r → run 2 2 b_runs ds = some r := fun _ _ h => h
noncomputable def b_backs : DS :=
    (sSeq (sDrop (dCall g_need_row (aCons (dV 0) (aCons (dV 1) aNil))))
    (sSeq (sRet (dCall g_does_back (aCons (dV 0) (aCons (dV 1) aNil))))
    sNil))
noncomputable def g_backs : Fs := run 2 2 b_backs
theorem eq_backs : ∀ ds r, g_backs ds = some r → run 2 2 b_backs ds = some r := fun _ _ h => h
noncomputable def b_settled : DS :=
    (sSeq (sSet 2 (dC (.int 0)))
    (sSeq (sWhile 1000 (dAnd (dNot (dCall g_does_run (aCons (dV 0) (aCons (dV 1) aNil)))) (dNot (dCall g_does_back (aCons (dV 0) (aCons (dV 1) aNil))))) (sSeq (sPar [2, 1] (aCons (d2 gAdd (dV 2) (dC (.int 1))) (aCons (dCall g_next_row (aCons (dV 0) (aCons (dV 1) aNil))) aNil)))
    sNil))
    (sSeq (sRet (dTup (aCons (dV 2) (aCons (dIf (dCall g_does_run (aCons (dV 0) (aCons (dV 1) aNil))) (dC (.str "runs")) (dC (.str "backs"))) (aCons (dV 1) aNil)))))
    sNil)))
noncomputable def g_settled : Fs := run 3 2 b_settled
theorem eq_settled : ∀ ds r, g_settled ds = some r → run 3 2 b_settled ds = some r := fun _ _ h => h
noncomputable def b_settles : DS :=
    (sSeq (sDrop (dCall g_need_row (aCons (dV 0) (aCons (dV 1) aNil))))
    (sSeq (sRet (dSl (dCall g_settled (aCons (dV 0) (aCons (dV 1) aNil))) none (some (dC (.int 2)))))
    sNil))
noncomputable def g_settles : Fs := run 2 2 b_settles
theorem eq_settles : ∀ ds r, g_settles ds = some r → run 2 2 b_settles ds = some r := fun _ _ h => h
noncomputable def b_round_at : DS :=
    (sSeq (sUnp [2, 3, 4] (dCall g_settled (aCons (dV 0) (aCons (dV 1) aNil))))
    (sSeq (sPar [5, 6] (aCons (dCall g_next_row (aCons (dV 0) (aCons (dV 4) aNil))) (aCons (dC (.int 1)) aNil)))
    (sSeq (sWhile 1000 (d2 gNe (dV 5) (dV 4)) (sSeq (sPar [5, 6] (aCons (dCall g_next_row (aCons (dV 0) (aCons (dV 5) aNil))) (aCons (d2 gAdd (dV 6) (dC (.int 1))) aNil)))
    sNil))
    (sSeq (sRet (dTup (aCons (dV 2) (aCons (dV 6) aNil))))
    sNil))))
noncomputable def g_round_at : Fs := run 7 2 b_round_at
theorem eq_round_at : ∀ ds r, g_round_at ds = some r → run 7 2 b_round_at ds = some r := fun _ _ h => h
noncomputable def b_round_of : DS :=
    (sSeq (sDrop (dCall g_need_row (aCons (dV 0) (aCons (dV 1) aNil))))
    (sSeq (sRet (dCall g_round_at (aCons (dV 0) (aCons (dV 1) aNil))))
    sNil))
noncomputable def g_round_of : Fs := run 2 2 b_round_of
theorem eq_round_of : ∀ ds r, g_round_of ds = some r → run 2 2 b_round_of ds = some r := fun _ _ h => h
noncomputable def b_has_room : DS :=
    (sSeq (sDrop (dCall g_need_row (aCons (dV 0) (aCons (dV 1) aNil))))
    (sSeq (sRet (dCall g_is_room (aCons (dV 0) (aCons (dV 1) aNil))))
    sNil))
noncomputable def g_has_room : Fs := run 2 2 b_has_room
theorem eq_has_room : ∀ ds r, g_has_room ds = some r → run 2 2 b_has_room ds = some r := fun _ _ h => h
noncomputable def b__law_low_l0 : DS :=
    (sSeq (sPar [2, 3] (aCons (dV 3) (aCons (d2 gMod (dV 2) (dV 3)) aNil)))
    sNil)
noncomputable def b__law_low : DS :=
    (sSeq (sPar [2, 3] (aCons (dV 0) (aCons (dV 1) aNil)))
    (sSeq (sWhile 1000 (d2 gNe (dV 3) (dC (.int 0))) b__law_low_l0)
    (sSeq (sRet (dTup (aCons (d2 gDiv (dV 0) (dV 2)) (aCons (d2 gDiv (dV 1) (dV 2)) aNil))))
    sNil)))
noncomputable def g__law_low : Fs := run 4 2 b__law_low
theorem eq__law_low : ∀ ds r, g__law_low ds = some r → run 4 2 b__law_low ds = some r := fun _ _ h => h
noncomputable def b__law_far_right : DS :=
    (sSeq (sUnp [5, 6] (dV 3))
    (sSeq (sSet 7 (d2 gSub (dCB gSum (aCons (d2 gIx (dB 2) (d2 gAdd (dV 5) (dV 6))) aNil)) (dCB gSum (aCons (d2 gIx (dB 2) (dV 5)) aNil))))
    (sSeq (sSet 8 (d2 gAdd (dV 5) (d2 gMul (dV 6) (dV 4))))
    (sSeq (sIf (d2 gNe (dCall g_after (aCons (dV 0) (aCons (dV 1) (aCons (dV 8) aNil)))) (dCall g__law_as_row (aCons (dV 0) (aCons (d2 gIx (dB 2) (dV 5)) aNil)))) (sSeq (sRet (dC (.bool false)))
    sNil) sNil)
    (sSeq (sIf (d2 gNe (dCall g_after (aCons (dV 0) (aCons (dV 1) (aCons (d2 gAdd (dV 8) (dC (.int 1))) aNil)))) (dCall g__law_as_row (aCons (dV 0) (aCons (d2 gIx (dB 2) (d2 gAdd (dV 5) (dC (.int 1)))) aNil)))) (sSeq (sRet (dC (.bool false)))
    sNil) sNil)
    (sSeq (sIf (d2 gNe (dCB gSum (aCons (dCall g_gone (aCons (dV 0) (aCons (dV 1) (aCons (dV 8) aNil)))) aNil)) (d2 gAdd (d2 gSub (dCB gSum (aCons (d2 gIx (dB 2) (dV 5)) aNil)) (dCB gSum (aCons (dV 1) aNil))) (d2 gMul (dV 4) (dV 7)))) (sSeq (sRet (dC (.bool false)))
    sNil) sNil)
    (sSeq (sRet (dC (.bool true)))
    sNil)))))))
noncomputable def g__law_far_right : Fs := run 9 5 b__law_far_right
theorem eq__law_far_right : ∀ ds r, g__law_far_right ds = some r → run 9 5 b__law_far_right ds = some r := fun _ _ h => h
noncomputable def b__law_marks : DS :=
    (sSeq (sSetF 2 (fLst aNil))
    (sSeq (sFor (f2 gZip (dV 1) (dSl (dV 1) (some (dC (.int 1))) none)) (tgT [3, 4]) (sSeq (sSet 5 (d2 gAdd (dSl (dV 3) (some (dC (.int 1))) none) (dL (fLst (aCons (d2 gAdd (d2 gIx (dB 3) (dC (.int 0))) (d2 gIx (dB 0) (dC (.int 0)))) aNil)))))
    (sSeq (sSet 6 (d2 gEq (dL (fLc (f2 gZip (dV 3) (dV 4)) (tgT [7, 8]) (d2 gNe (d2 gSub (dV 8) (dV 7)) (d2 gIx (dB 0) (dC (.int 1)))) (dC (.int 1)) [7, 8])) (dL (fLst aNil))))
    (sSeq (sSet 9 (d2 gEq (dL (fLc (f2 gZip (dV 5) (dV 4)) (tgT [10, 8]) (d2 gNe (dV 8) (d2 gSub (dV 10) (dC (.int 1)))) (dC (.int 1)) [10, 8])) (dL (fLst aNil))))
    (sSeq (sApp 2 (dIf (dV 6) (dC (.str "runs")) (dIf (dV 9) (dC (.str "backs")) (dC (.str "neither")))))
    sNil)))))
    (sFrz 2 (sSeq (sRet (dB 2))
    sNil))))
noncomputable def g__law_marks : Fs := run 11 2 b__law_marks
theorem eq__law_marks : ∀ ds r, g__law_marks ds = some r → run 11 2 b__law_marks ds = some r := fun _ _ h => h
noncomputable def b_depth_of : DS :=
    (sSeq (sRet (dCB gMax (aCons (dL (fLc (f1 gRng1 (dCB gLen (aCons (dV 1) aNil))) (tgN 3) dYes (d2 gSub (d2 gMul (d2 gAdd (d2 gIx (dB 0) (dC (.int 1))) (dC (.int 1))) (dV 3)) (dCall g_ahead_of (aCons (dV 0) (aCons (dV 1) (aCons (dV 2) (aCons (dV 3) aNil)))))) [3])) aNil)))
    sNil)
noncomputable def g_depth_of : Fs := run 4 3 b_depth_of
theorem eq_depth_of : ∀ ds r, g_depth_of ds = some r → run 4 3 b_depth_of ds = some r := fun _ _ h => h
noncomputable def b_deep : DS :=
    (sSeq (sDrop (dCall g_need_room (aCons (dV 0) (aCons (dV 1) aNil))))
    (sSeq (sRet (dCB gTuple (aCons (dL (fLc (f1 gRng1 (dCB gLen (aCons (dV 1) aNil))) (tgN 2) dYes (dCall g_depth_of (aCons (dV 0) (aCons (dV 1) (aCons (dV 2) aNil)))) [2])) aNil)))
    sNil))
noncomputable def g_deep : Fs := run 3 2 b_deep
theorem eq_deep : ∀ ds r, g_deep ds = some r → run 3 2 b_deep ds = some r := fun _ _ h => h
noncomputable def b_last_held_l0 : DS :=
    (sSeq (sSet 6 (d2 gAdd (dSl (dV 3) (some (dC (.int 1))) none) (dL (fLst (aCons (d2 gAdd (d2 gIx (dB 3) (dC (.int 0))) (d2 gIx (dB 0) (dC (.int 0)))) aNil)))))
    (sSeq (sSetF 7 (fLc (f2 gZip (dV 3) (dV 6)) (tgT [8, 9]) dYes (dCB gMin (aCons (d2 gIx (dB 0) (dC (.int 1))) (aCons (d2 gSub (d2 gSub (dV 9) (dV 8)) (dC (.int 1))) aNil))) [8, 9]))
    (sFrz 7 (sSeq (sSetF 2 (fLc (f2 gZip (dV 7) (dV 2)) (tgT [10, 11]) dYes (dIf (d2 gLt (dV 10) (d2 gIx (dB 0) (dC (.int 1)))) (dV 4) (dV 11)) [10, 11]))
    (sFrz 2 (sSeq (sSetF 3 (fLc (f2 gZip (dV 3) (dV 7)) (tgT [5, 10]) dYes (d2 gAdd (dV 5) (dV 10)) [5, 10]))
    (sFrz 3 (sSeq (sSet 4 (d2 gAdd (dV 4) (dC (.int 1))))
    sNil))))))))
noncomputable def b_last_held : DS :=
    (sSeq (sDrop (dCall g_need_room (aCons (dV 0) (aCons (dV 1) aNil))))
    (sSeq (sPar [2, 3, 4] (aCons (d2 gMul (dL (fLst (aCons (dC .none) aNil))) (dCB gLen (aCons (dV 1) aNil))) (aCons (dL (fCB gList (aCons (dV 1) aNil))) (aCons (dC (.int 0)) aNil))))
    (sSeq (sWhile 1000 (dNot (dCall g_does_run (aCons (dV 0) (aCons (dCB gTuple (aCons (dL (fCB gSorted (aCons (dL (fLc (fSeq (dV 3)) (tgN 5) dYes (d2 gMod (dV 5) (d2 gIx (dB 0) (dC (.int 0)))) [5])) aNil))) aNil)) aNil)))) b_last_held_l0)
    (sSeq (sRet (dCB gTuple (aCons (dV 2) aNil)))
    sNil))))
noncomputable def g_last_held : Fs := run 12 2 b_last_held
theorem eq_last_held : ∀ ds r, g_last_held ds = some r → run 12 2 b_last_held ds = some r := fun _ _ h => h
noncomputable def b_idle : DS :=
    (sSeq (sDrop (dCall g_need_room (aCons (dV 0) (aCons (dV 1) aNil))))
    sBad)
noncomputable def g_idle : Fs := run 5 2 b_idle
theorem eq_idle : ∀ ds r, g_idle ds = some r → run 5 2 b_idle ds = some r := fun _ _ h => h
noncomputable def b__law_mates_l0 : DS :=
    (sSeq (sSet 5 (d2 gAdd (dV 5) (dC (.int 1))))
    (sSeq (sIf (d2 gIn (d2 gMod (dV 5) (d2 gIx (dB 0) (dC (.int 0)))) (dV 1)) (sSeq (sSet 4 (d2 gAdd (dV 4) (d2 gIx (dB 0) (dC (.int 1)))))
    sNil) (sSeq (sIf (d2 gGt (dV 4) (dC (.int 0))) (sSeq (sSet 4 (d2 gSub (dV 4) (dC (.int 1))))
    sNil) (sSeq (sApp 3 (d2 gMod (dV 5) (d2 gIx (dB 0) (dC (.int 0)))))
    sNil))
    sNil))
    sNil))
noncomputable def b__law_mates : DS :=
    (sSeq (sParM [3, 4, 5] (mO (fLst aNil) (mV (dC (.int 0)) (mV (d2 gIx (dB 1) (dV 2)) mNil))))
    (sSeq (sWhile 1000 (d2 gLt (dCB gLen (aCons (dV 3) aNil)) (d2 gIx (dB 0) (dC (.int 1)))) b__law_mates_l0)
    (sFrz 3 (sSeq (sRet (dCB gTuple (aCons (dV 3) aNil)))
    sNil))))
noncomputable def g__law_mates : Fs := run 6 3 b__law_mates
theorem eq__law_mates : ∀ ds r, g__law_mates ds = some r → run 6 3 b__law_mates ds = some r := fun _ _ h => h
noncomputable def b_all_sources_l0 : DS :=
    (sSeq (sIf (d2 gEq (d2 gIx (dB 8) (dC (.int 0))) (dV 4)) (sSeq (sApp 2 (dCall g_moved (aCons (dV 0) (aCons (dV 1) (aCons (dL (fLc (fSeq (dSl (dV 8) none (some (d1 gNeg (dC (.int 1)))))) (tgN 9) dYes (d1 gNeg (dV 9)) [9])) aNil)))))
    sNil) sNil)
    sNil)
noncomputable def b_all_sources_l1 : DS :=
    (sSeq (sSet 7 (d2 gAdd (dV 7) (dL (fLc (fSeq (dCall g_goes_before (aCons (d2 gIx (dB 0) (dC (.int 1))) (aCons (dV 6) (aCons (d2 gIx (dB 8) (dC (.int 0))) aNil))))) (tgN 9) dYes (d2 gAdd (dTup (aCons (dV 9) aNil)) (dV 8)) [9]))))
    sNil)
noncomputable def b_all_sources_l2 : DS :=
    (sSeq (sSet 7 (dL (fLst aNil)))
    (sSeq (sFor (fSeq (dV 5)) (tgN 8) b_all_sources_l1)
    (sSeq (sSet 5 (dV 7))
    sNil)))
noncomputable def b_all_sources_l3 : DS :=
    (sSeq (sSet 5 (dL (fLst (aCons (dTup (aCons (dV 4) aNil)) aNil))))
    (sSeq (sFor (fSeq (d1 gRev (dV 3))) (tgN 6) b_all_sources_l2)
    (sSeq (sFor (fSeq (dV 5)) (tgN 8) b_all_sources_l0)
    sNil)))
noncomputable def b_all_sources : DS :=
    (sSeq (sParM [2, 3] (mO (fLst aNil) (mV (dCall g_all_gaps (aCons (dV 0) (aCons (dV 1) aNil))) mNil)))
    (sSeq (sFor (f1 gRng1 (d2 gAdd (d2 gIx (dB 0) (dC (.int 1))) (dC (.int 1)))) (tgN 4) b_all_sources_l3)
    (sFrz 2 (sSeq (sRet (dL (fCB gSortL (aCons (dV 2) aNil))))
    sNil))))
noncomputable def g_all_sources : Fs := run 10 2 b_all_sources
theorem eq_all_sources : ∀ ds r, g_all_sources ds = some r → run 10 2 b_all_sources ds = some r := fun _ _ h => h
noncomputable def b_sources : DS :=
    (sSeq (sDrop (dCall g_need_row (aCons (dV 0) (aCons (dV 1) aNil))))
    (sSeq (sIf (d2 gGt (dCall g_count_of (aCons (dV 0) (aCons (dV 1) aNil))) (dC (.int 300))) (sSeq (sExc "Full")
    sNil) sNil)
    (sSeq (sRet (dCall g_all_sources (aCons (dV 0) (aCons (dV 1) aNil))))
    sNil)))
noncomputable def g_sources : Fs := run 2 2 b_sources
theorem eq_sources : ∀ ds r, g_sources ds = some r → run 2 2 b_sources ds = some r := fun _ _ h => h
noncomputable def b_is_lone : DS :=
    (sSeq (sDrop (dCall g_need_row (aCons (dV 0) (aCons (dV 1) aNil))))
    (sSeq (sRet (d2 gEq (dCall g_count_of (aCons (dV 0) (aCons (dV 1) aNil))) (dC (.int 0))))
    sNil))
noncomputable def g_is_lone : Fs := run 2 2 b_is_lone
theorem eq_is_lone : ∀ ds r, g_is_lone ds = some r → run 2 2 b_is_lone ds = some r := fun _ _ h => h
noncomputable def b_depth_l0 : DS :=
    (sSeq (sIf (d2 gGt (dCB gSum (aCons (dL (fLc (fSeq (dV 2)) (tgN 4) dYes (dCall g_count_of (aCons (dV 0) (aCons (dV 4) aNil))) [4])) aNil)) (dC (.int 300))) (sSeq (sExc "Full")
    sNil) sNil)
    sBad)
noncomputable def b_depth : DS :=
    (sSeq (sDrop (dCall g_need_row (aCons (dV 0) (aCons (dV 1) aNil))))
    (sSeq (sIf (dOr (dCall g_does_run (aCons (dV 0) (aCons (dV 1) aNil))) (dCall g_does_back (aCons (dV 0) (aCons (dV 1) aNil)))) (sSeq (sRet (dC .none))
    sNil) sNil)
    (sSeq (sPar [2, 3] (aCons (dL (fLst (aCons (dV 1) aNil))) (aCons (dC (.int 0)) aNil)))
    (sSeq (sWhile 1000 (d2 gNe (dV 2) (dL (fLst aNil))) b_depth_l0)
    (sSeq (sRet (d2 gSub (dV 3) (dC (.int 1))))
    sNil)))))
noncomputable def g_depth : Fs := run 6 2 b_depth
theorem eq_depth : ∀ ds r, g_depth ds = some r → run 6 2 b_depth ds = some r := fun _ _ h => h
noncomputable def b__law_rows_l0 : DS :=
    (sSeq (sSet 2 (d2 gAdd (dV 2) (dL (fLc (fSeq (dV 2)) (tgN 4) (d2 gLt (dCB gLen (aCons (dV 4) aNil)) (dV 1)) (d2 gAdd (dTup (aCons (dV 3) aNil)) (dV 4)) [4]))))
    sNil)
noncomputable def b__law_rows : DS :=
    (sSeq (sSet 2 (dL (fLst (aCons (dTup aNil) aNil))))
    (sSeq (sFor (f3 gRng3 (d2 gSub (d2 gIx (dB 0) (dC (.int 0))) (dC (.int 1))) (d1 gNeg (dC (.int 1))) (d1 gNeg (dC (.int 1)))) (tgN 3) b__law_rows_l0)
    (sSeq (sRet (dL (fCB gSortL (aCons (dL (fLc (fSeq (dV 2)) (tgN 4) (d2 gEq (dCB gLen (aCons (dV 4) aNil)) (dV 1)) (dV 4) [4])) aNil))))
    sNil)))
noncomputable def g__law_rows : Fs := run 5 2 b__law_rows
theorem eq__law_rows : ∀ ds r, g__law_rows ds = some r → run 5 2 b__law_rows ds = some r := fun _ _ h => h
noncomputable def b__law_known_numbers : DS :=
    (sSeq (sSet 0 (dTup (aCons (dC (.int 24)) (aCons (dC (.int 3)) aNil))))
    sBad)
noncomputable def g__law_known_numbers : Fs := run 4 0 b__law_known_numbers
theorem eq__law_known_numbers : ∀ ds r, g__law_known_numbers ds = some r → run 4 0 b__law_known_numbers ds = some r := fun _ _ h => h
noncomputable def b_sure_cells : DS :=
    (sSeq (sDrop (dCall g_need_looks (aCons (dV 0) (aCons (dV 1) (aCons (dV 2) aNil)))))
    (sSeq (sIf (dNot (dCall g_is_whole (aCons (dV 3) (aCons (dC (.int 0)) (aCons (dC (.int 24)) aNil))))) (sSeq (sExc "BadNumber")
    sNil) sNil)
    (sSeq (sSet 4 (dL (fLc (fSeq (dCall g_all_fitting (aCons (dV 0) (aCons (dV 1) (aCons (dV 2) aNil))))) (tgN 5) dYes (dCall g_row_at (aCons (dV 0) (aCons (dV 5) (aCons (dV 3) aNil)))) [5])))
    (sSeq (sIf (d2 gEq (dV 4) (dL (fLst aNil))) (sSeq (sExc "Nothing")
    sNil) sNil)
    (sSeq (sSet 6 (dL (f1 gLR1 (d2 gIx (dB 0) (dC (.int 0))))))
    (sSeq (sSetF 7 (fLc (fSeq (dV 6)) (tgN 8) (dCB gAll (aCons (dL (fLc (fSeq (dV 4)) (tgN 5) dYes (d2 gIn (dV 8) (dV 5)) [5])) aNil)) (dV 8) [8]))
    (sFrz 7 (sSeq (sRet (dTup (aCons (dV 7) (aCons (dL (fLc (fSeq (dV 6)) (tgN 8) (dCB gAny (aCons (dL (fLc (fSeq (dV 4)) (tgN 5) dYes (d2 gIn (dV 8) (dV 5)) [5])) aNil)) (dV 8) [8])) aNil))))
    sNil))))))))
noncomputable def g_sure_cells : Fs := run 9 4 b_sure_cells
theorem eq_sure_cells : ∀ ds r, g_sure_cells ds = some r → run 9 4 b_sure_cells ds = some r := fun _ _ h => h
noncomputable def b__law_looks_refused_l0 : DS :=
    (sSeq (sSetF 3 (fLst (aCons (dTold (dCall g_sure_cells (aCons (dV 0) (aCons (dV 1) (aCons (dL (fLst aNil)) (aCons (dV 4) aNil)))))) aNil)))
    (sSeq (sApp 3 (dTold (dCall g_sure_cells (aCons (dV 0) (aCons (dV 1) (aCons (dV 6) (aCons (dV 4) aNil)))))))
    (sFrz 3 (sSeq (sIf (d2 gNe (dV 3) (d2 gMul (dL (fLst (aCons (dTup (aCons (dC (.str "refused")) (aCons (dC (.str "BadNumber")) aNil))) aNil))) (dC (.int 2)))) (sSeq (sRet (dC (.bool false)))
    sNil) sNil)
    sNil))))
noncomputable def b__law_looks_refused_l1 : DS :=
    (sSeq (sSetF 3 (fLst (aCons (dTold (dCall g_rows_for (aCons (dV 0) (aCons (dV 1) (aCons (dV 4) aNil))))) aNil)))
    (sSeq (sApp 3 (dTold (dCall g_sure_cells (aCons (dV 0) (aCons (dV 1) (aCons (dV 4) (aCons (dC .none) aNil)))))))
    (sFrz 3 (sSeq (sIf (d2 gNe (dV 3) (d2 gMul (dL (fLst (aCons (dTup (aCons (dC (.str "refused")) (aCons (dC (.str "BadLooks")) aNil))) aNil))) (dC (.int 2)))) (sSeq (sRet (dC (.bool false)))
    sNil) sNil)
    sNil))))
noncomputable def b__law_looks_refused_l2 : DS :=
    (sSeq (sIf (d2 gNe (dTold (dCall g_rows_for (aCons (dV 0) (aCons (dV 4) (aCons (dC .none) aNil))))) (dTup (aCons (dC (.str "refused")) (aCons (dC (.str "BadNumber")) aNil)))) (sSeq (sRet (dC (.bool false)))
    sNil) sNil)
    sNil)
noncomputable def b__law_looks_refused : DS :=
    (sSeq (sSet 2 (dTup (aCons (d2 gAdd (dC (.int 11)) (d2 gIx (dB 0) (dC (.int 0)))) (aCons (d2 gIx (dB 0) (dC (.int 1))) aNil))))
    (sSeq (sSetF 3 (fLst (aCons (dTold (dCall g_rows_for (aCons (dV 2) (aCons (dC .none) (aCons (dC .none) aNil))))) aNil)))
    (sSeq (sApp 3 (dTold (dCall g_sure_cells (aCons (dV 2) (aCons (dC .none) (aCons (dC .none) (aCons (dC .none) aNil)))))))
    (sFrz 3 (sSeq (sIf (d2 gNe (dV 3) (d2 gMul (dL (fLst (aCons (dTup (aCons (dC (.str "refused")) (aCons (dC (.str "Full")) aNil))) aNil))) (dC (.int 2)))) (sSeq (sRet (dC (.bool false)))
    sNil) sNil)
    (sSeq (sFor (fSeq (dL (fLst (aCons (dC (.int 0)) (aCons (d2 gAdd (d2 gIx (dB 0) (dC (.int 0))) (dC (.int 1))) (aCons (dC (.bool true)) (aCons (dC .none) aNil))))))) (tgN 4) b__law_looks_refused_l2)
    (sSeq (sSet 5 (dL (fLst (aCons (dC .none) (aCons (dC (.int 5)) (aCons (dTup aNil) (aCons (dL (fLst (aCons (dC .none) aNil))) (aCons (dL (fLst (aCons (dTup (aCons (dC (.int 0)) (aCons (dC (.int 0)) aNil))) aNil))) (aCons (dL (fLst (aCons (dTup (aCons (dC (.int 25)) (aCons (dC (.int 0)) (aCons (dC (.bool true)) aNil)))) aNil))) (aCons (dL (fLst (aCons (dTup (aCons (dC (.int 0)) (aCons (d2 gIx (dB 0) (dC (.int 0))) (aCons (dC (.bool true)) aNil)))) aNil))) (aCons (dL (fLst (aCons (dTup (aCons (dC (.int 0)) (aCons (dC (.int 0)) (aCons (dC (.int 1)) aNil)))) aNil))) aNil)))))))))))
    (sSeq (sSet 5 (d2 gAdd (dV 5) (dL (fLst (aCons (d2 gMul (dL (fLst (aCons (dTup (aCons (dC (.int 0)) (aCons (dC (.int 0)) (aCons (dC (.bool true)) aNil)))) aNil))) (dC (.int 5))) (aCons (dL (fLst (aCons (dL (fLst (aCons (dC (.int 0)) (aCons (dC (.int 0)) (aCons (dC (.bool true)) aNil))))) aNil))) (aCons (dL (fLst (aCons (dTup (aCons (dC (.bool true)) (aCons (dC (.int 0)) (aCons (dC (.bool true)) aNil)))) aNil))) aNil)))))))
    (sSeq (sFor (fSeq (dV 5)) (tgN 4) b__law_looks_refused_l1)
    (sSeq (sSet 6 (dL (fLst (aCons (dTup (aCons (dC (.int 0)) (aCons (dC (.int 0)) (aCons (dC (.bool true)) aNil)))) (aCons (dTup (aCons (dC (.int 0)) (aCons (dC (.int 0)) (aCons (dC (.bool false)) aNil)))) aNil)))))
    (sSeq (sFor (fSeq (dL (fLst (aCons (d1 gNeg (dC (.int 1))) (aCons (dC (.int 25)) (aCons (dC (.bool true)) (aCons (dC .none) aNil))))))) (tgN 4) b__law_looks_refused_l0)
    (sSeq (sIf (d2 gNe (dTold (dCall g_sure_cells (aCons (dV 0) (aCons (dV 1) (aCons (dV 6) (aCons (dC (.int 0)) aNil)))))) (dTup (aCons (dC (.str "refused")) (aCons (dC (.str "Nothing")) aNil)))) (sSeq (sRet (dC (.bool false)))
    sNil) sNil)
    (sSeq (sRet (dC (.bool true)))
    sNil)))))))))))))
noncomputable def g__law_looks_refused : Fs := run 7 2 b__law_looks_refused
theorem eq__law_looks_refused : ∀ ds r, g__law_looks_refused ds = some r → run 7 2 b__law_looks_refused ds = some r := fun _ _ h => h
noncomputable def b_passed_by : DS :=
    (sSeq (sSet 4 (dC (.int 0)))
    (sSeq (sFor (f2 gZip (dV 1) (dCall g_all_gone (aCons (dV 0) (aCons (dV 1) (aCons (dV 3) aNil))))) (tgT [5, 6]) (sSeq (sSet 4 (d2 gSub (d2 gAdd (dV 4) (d2 gDiv (d2 gSub (d2 gSub (d2 gAdd (dV 5) (dV 6)) (dV 2)) (dC (.int 1))) (d2 gIx (dB 0) (dC (.int 0))))) (d2 gDiv (d2 gSub (d2 gSub (dV 5) (dV 2)) (dC (.int 1))) (d2 gIx (dB 0) (dC (.int 0))))))
    sNil))
    (sSeq (sRet (dB 4))
    sNil)))
noncomputable def g_passed_by : Fs := run 7 4 b_passed_by
theorem eq_passed_by : ∀ ds r, g_passed_by ds = some r → run 7 4 b_passed_by ds = some r := fun _ _ h => h
noncomputable def b_heard_by : DS :=
    (sSeq (sDrop (dCall g_need_row (aCons (dV 0) (aCons (dV 1) aNil))))
    (sSeq (sDrop (dCall g_need_cell (aCons (dV 0) (aCons (dV 2) aNil))))
    (sSeq (sDrop (dCall g_need_moment (aCons (dV 3) aNil)))
    (sSeq (sRet (dCall g_passed_by (aCons (dV 0) (aCons (dV 1) (aCons (dV 2) (aCons (dV 3) aNil))))))
    sNil))))
noncomputable def g_heard_by : Fs := run 4 4 b_heard_by
theorem eq_heard_by : ∀ ds r, g_heard_by ds = some r → run 4 4 b_heard_by ds = some r := fun _ _ h => h
noncomputable def b_unlike_l0 : DS :=
    (sSeq (sIf (d2 gNe (dCall g_heard_now (aCons (dV 0) (aCons (dV 1) (aCons (dV 3) aNil)))) (dCall g_heard_now (aCons (dV 0) (aCons (dV 2) (aCons (dV 3) aNil))))) (sSeq (sRet (dB 6))
    sNil) sNil)
    (sSeq (sPar [1, 2] (aCons (dCall g_next_row (aCons (dV 0) (aCons (dV 1) aNil))) (aCons (dCall g_next_row (aCons (dV 0) (aCons (dV 2) aNil))) aNil)))
    sNil))
noncomputable def b_unlike : DS :=
    (sSeq (sDrop (dCall g_need_row (aCons (dV 0) (aCons (dV 1) aNil))))
    (sSeq (sDrop (dCall g_need_row (aCons (dV 0) (aCons (dV 2) aNil))))
    (sSeq (sDrop (dCall g_need_cell (aCons (dV 0) (aCons (dV 3) aNil))))
    (sSeq (sPar [4, 5] (aCons (dCall g_round_at (aCons (dV 0) (aCons (dV 1) aNil))) (aCons (dCall g_round_at (aCons (dV 0) (aCons (dV 2) aNil))) aNil)))
    (sSeq (sFor (f1 gRng1 (d2 gAdd (dCB gMax (aCons (d2 gIx (dB 4) (dC (.int 0))) (aCons (d2 gIx (dB 5) (dC (.int 0))) aNil))) (d2 gMul (d2 gIx (dB 4) (dC (.int 1))) (d2 gIx (dB 5) (dC (.int 1)))))) (tgN 6) b_unlike_l0)
    (sSeq (sRet (dC .none))
    sNil))))))
noncomputable def g_unlike : Fs := run 7 4 b_unlike
theorem eq_unlike : ∀ ds r, g_unlike ds = some r → run 7 4 b_unlike ds = some r := fun _ _ h => h
noncomputable def b__law_passes_l0 : DS :=
    (sSeq (sSet 4 (d2 gAdd (dV 4) (dCB gLen (aCons (dL (fLc (f2 gRng2 (dV 5) (dV 6)) (tgN 7) (d2 gEq (d2 gMod (dV 7) (d2 gIx (dB 0) (dC (.int 0)))) (dV 3)) (dC (.int 1)) [7])) aNil))))
    sNil)
noncomputable def b__law_passes : DS :=
    (sSeq (sSet 4 (dC (.int 0)))
    (sSeq (sFor (f2 gZip (dV 1) (dV 2)) (tgT [5, 6]) b__law_passes_l0)
    (sSeq (sRet (dB 4))
    sNil)))
noncomputable def g__law_passes : Fs := run 8 4 b__law_passes
theorem eq__law_passes : ∀ ds r, g__law_passes ds = some r → run 8 4 b__law_passes ds = some r := fun _ _ h => h
noncomputable def b__law_gates_refused_l0 : DS :=
    (sSeq (sIf (d2 gNe (dTold (dCall g_heard_by (aCons (dV 0) (aCons (dV 1) (aCons (dV 3) (aCons (dV 4) aNil)))))) (dTup (aCons (dC (.str "refused")) (aCons (dC (.str "BadNumber")) aNil)))) (sSeq (sRet (dC (.bool false)))
    sNil) sNil)
    sNil)
noncomputable def b__law_gates_refused_l1 : DS :=
    (sSeq (sIf (d2 gNe (dTold (dCall g_heard (aCons (dV 0) (aCons (dV 1) (aCons (dV 3) (aCons (dV 4) aNil)))))) (dTup (aCons (dC (.str "refused")) (aCons (dC (.str "BadNumber")) aNil)))) (sSeq (sRet (dC (.bool false)))
    sNil) sNil)
    sNil)
noncomputable def b__law_gates_refused_l2 : DS :=
    (sSeq (sSetF 5 (fLst (aCons (dTold (dCall g_heard (aCons (dV 0) (aCons (dV 1) (aCons (dV 4) (aCons (dC .none) aNil)))))) aNil)))
    (sSeq (sApp 5 (dTold (dCall g_heard_by (aCons (dV 0) (aCons (dV 1) (aCons (dV 4) (aCons (dC .none) aNil)))))))
    (sFrz 5 (sSeq (sIf (d2 gNe (d2 gAdd (dV 5) (dL (fLst (aCons (dTold (dCall g_unlike (aCons (dV 0) (aCons (dV 1) (aCons (dV 2) (aCons (dV 4) aNil)))))) aNil)))) (d2 gMul (dL (fLst (aCons (dTup (aCons (dC (.str "refused")) (aCons (dC (.str "BadCell")) aNil))) aNil))) (dC (.int 3)))) (sSeq (sRet (dC (.bool false)))
    sNil) sNil)
    sNil))))
noncomputable def b__law_gates_refused : DS :=
    (sSeq (sFor (fSeq (dL (fLst (aCons (d1 gNeg (dC (.int 1))) (aCons (d2 gIx (dB 0) (dC (.int 0))) (aCons (dC (.bool true)) (aCons (dC .none) (aCons (dC (.str "0")) aNil)))))))) (tgN 4) b__law_gates_refused_l2)
    (sSeq (sFor (fSeq (dL (fLst (aCons (d1 gNeg (dC (.int 1))) (aCons (dC (.int 101)) (aCons (dC (.bool true)) (aCons (dC .none) aNil))))))) (tgN 4) b__law_gates_refused_l1)
    (sSeq (sFor (fSeq (dL (fLst (aCons (d1 gNeg (dC (.int 1))) (aCons (d2 gAdd (d2 gPow (dC (.int 10)) (dC (.int 18))) (dC (.int 1))) (aCons (dC (.bool true)) (aCons (dC .none) aNil))))))) (tgN 4) b__law_gates_refused_l0)
    (sSeq (sRet (dC (.bool true)))
    sNil))))
noncomputable def g__law_gates_refused : Fs := run 6 4 b__law_gates_refused
theorem eq__law_gates_refused : ∀ ds r, g__law_gates_refused ds = some r → run 6 4 b__law_gates_refused ds = some r := fun _ _ h => h
noncomputable def b_worst : DS :=
    (sSeq (sDrop (dCall g_need_all (aCons (dV 0) (aCons (dV 1) (aCons (dV 2) aNil)))))
    (sSeq (sSetF 3 (fLc (f1 gRng1 (d2 gIx (dB 0) (dC (.int 0)))) (tgN 4) (d2 gNotIn (dV 4) (dV 1)) (dV 4) [4]))
    (sFrz 3 (sSeq (sIf (d2 gEq (dV 3) (dL (fLst aNil))) (sSeq (sExc "Nothing")
    sNil) sNil)
    (sSeq (sUnp [5, 6] (dCB gMax (aCons (dL (fLc (fSeq (dV 3)) (tgN 4) dYes (dTup (aCons (dCB gSum (aCons (dCall g_all_later (aCons (dV 0) (aCons (dV 1) (aCons (dV 4) (aCons (dV 2) aNil))))) aNil)) (aCons (d1 gNeg (dV 4)) aNil))) [4])) aNil)))
    (sSeq (sRet (dTup (aCons (dV 5) (aCons (d1 gNeg (dV 6)) aNil))))
    sNil))))))
noncomputable def g_worst : Fs := run 7 3 b_worst
theorem eq_worst : ∀ ds r, g_worst ds = some r → run 7 3 b_worst ds = some r := fun _ _ h => h
noncomputable def b__law_less : DS :=
    (sSeq (sSet 4 (dCB gTuple (aCons (dL (fCB gSorted (aCons (d2 gAdd (dV 1) (dTup (aCons (dV 2) aNil))) aNil))) aNil)))
    (sSeq (sPar [5, 6] (aCons (d2 gIx (dCall g__law_walk (aCons (dV 0) (aCons (dV 4) (aCons (dV 3) aNil)))) (d1 gNeg (dC (.int 1)))) (aCons (d2 gIx (dCall g__law_walk (aCons (dV 0) (aCons (dV 1) (aCons (dV 3) aNil)))) (d1 gNeg (dC (.int 1)))) aNil)))
    (sSeq (sSetF 7 (fLc (f2 gZip (dV 5) (dV 4)) (tgT [8, 9]) (d2 gNe (dV 9) (dV 2)) (dV 8) [8, 9]))
    (sFrz 7 (sSeq (sRet (dCB gTuple (aCons (dL (fLc (f2 gZip (dV 6) (dV 7)) (tgT [10, 11]) dYes (d2 gSub (dV 10) (dV 11)) [10, 11])) aNil)))
    sNil)))))
noncomputable def g__law_less : Fs := run 12 4 b__law_less
theorem eq__law_less : ∀ ds r, g__law_less ds = some r → run 12 4 b__law_less ds = some r := fun _ _ h => h
noncomputable def b__law_without : DS :=
    (sSeq (sRet (dCB gTuple (aCons (dL (fLc (fSeq (dV 0)) (tgN 2) (d2 gNe (dV 2) (dV 1)) (dV 2) [2])) aNil)))
    sNil)
noncomputable def g__law_without : Fs := run 3 2 b__law_without
theorem eq__law_without : ∀ ds r, g__law_without ds = some r → run 3 2 b__law_without ds = some r := fun _ _ h => h
noncomputable def b__law_deed : DS :=
    (sSeq (sPar [4, 5] (aCons (dCallD 0 g__law_roll (aCons (dC (.int 5)) aNil)) (aCons (dCallD 0 g__law_roll (aCons (d2 gIx (dB 2) (dC (.int 0))) aNil)) aNil)))
    (sSeq (sIf (d2 gEq (dV 4) (dC (.int 0))) (sSeq (sSet 6 (dCallD 0 g__law_roll (aCons (dC (.int 6)) aNil)))
    (sSeq (sSet 7 (dTup (aCons (dCall g__law_as_row (aCons (dV 2) (aCons (d2 gIx (dCall g__law_walk (aCons (dV 2) (aCons (d2 gIx (dB 3) (dC (.int 0))) (aCons (dV 6) aNil)))) (d1 gNeg (dC (.int 1)))) aNil))) (aCons (d2 gAdd (d2 gIx (dB 3) (dC (.int 1))) (dV 6)) (aCons (d2 gAdd (d2 gIx (dB 3) (dC (.int 2))) (dL (fLst (aCons (dV 3) aNil)))) aNil)))))
    sBad)) sNil)
    (sSeq (sIf (d2 gEq (dV 4) (dC (.int 1))) (sSeq (sSet 8 (dIf (d2 gIn (dV 5) (d2 gIx (dB 3) (dC (.int 0)))) (dTup (aCons (dC (.str "refused")) (aCons (dC (.str "BadCell")) aNil))) (dC .none)))
    (sSeq (sSet 7 (dTup (aCons (dCB gTuple (aCons (dL (f1 gSS1 (d2 gAdd (d2 gIx (dB 3) (dC (.int 0))) (dTup (aCons (dV 5) aNil))))) aNil)) (aCons (d2 gIx (dB 3) (dC (.int 1))) (aCons (d2 gAdd (d2 gIx (dB 3) (dC (.int 2))) (dL (fLst (aCons (dV 3) aNil)))) aNil)))))
    sBad)) sNil)
    (sSeq (sIf (d2 gLt (dV 4) (dC (.int 4))) (sSeq (sSet 5 (dIf (d2 gEq (dV 4) (dC (.int 2))) (d2 gIx (d2 gIx (dB 3) (dC (.int 0))) (d2 gMod (dV 5) (dCB gLen (aCons (d2 gIx (dB 3) (dC (.int 0))) aNil)))) (dV 5)))
    (sSeq (sSet 8 (dIf (d2 gIn (dV 5) (d2 gIx (dB 3) (dC (.int 0)))) (dC .none) (dTup (aCons (dC (.str "refused")) (aCons (dC (.str "BadCell")) aNil)))))
    (sSeq (sSet 8 (dIf (d2 gEq (d2 gIx (dB 3) (dC (.int 0))) (dTup (aCons (dV 5) aNil))) (dTup (aCons (dC (.str "refused")) (aCons (dC (.str "Nothing")) aNil))) (dV 8)))
    (sSeq (sSet 7 (dTup (aCons (dCall g__law_without (aCons (d2 gIx (dB 3) (dC (.int 0))) (aCons (dV 5) aNil))) (aCons (d2 gIx (dB 3) (dC (.int 1))) (aCons (d2 gAdd (d2 gIx (dB 3) (dC (.int 2))) (dL (fLst (aCons (dV 3) aNil)))) aNil)))))
    sBad)))) sNil)
    (sSeq (sIf (d2 gEq (d2 gIx (dB 3) (dC (.int 2))) (dL (fLst aNil))) sBad sNil)
    sBad)))))
noncomputable def g__law_deed : Fd := runD 9 3 b__law_deed
theorem eq__law_deed : ∀ ds δ r, g__law_deed ds δ = some r → runD 9 3 b__law_deed ds δ = some r := fun _ _ _ h => h
noncomputable def b__law_roads_refused_l0 : DS :=
    sBad
noncomputable def b__law_roads_refused_l1 : DS :=
    sBad
noncomputable def b__law_roads_refused : DS :=
    (sSeq (sFor (fSeq (dL (fLst (aCons (d1 gNeg (dC (.int 1))) (aCons (d2 gIx (dB 1) (dC (.int 0))) (aCons (dC (.bool true)) (aCons (dC .none) (aCons (dC (.str "0")) aNil)))))))) (tgN 2) b__law_roads_refused_l1)
    (sSeq (sFor (fSeq (dL (fLst (aCons (d1 gNeg (dC (.int 1))) (aCons (d2 gAdd (d2 gPow (dC (.int 10)) (dC (.int 18))) (dC (.int 1))) (aCons (dC (.bool true)) (aCons (dC .none) aNil))))))) (tgN 2) b__law_roads_refused_l0)
    (sSeq (sRet (d2 gEq (dTold (dCall g_Road (aCons (dV 1) (aCons (dC .none) aNil)))) (dTup (aCons (dC (.str "refused")) (aCons (dC (.str "BadRow")) aNil)))))
    sNil)))
noncomputable def g__law_roads_refused : Fs := run 4 2 b__law_roads_refused
theorem eq__law_roads_refused : ∀ ds r, g__law_roads_refused ds = some r → run 4 2 b__law_roads_refused ds = some r := fun _ _ h => h
noncomputable def b_need_text : DS :=
    (sSeq (sIf (dNot (d1 (gIsi PyData.isStr) (dV 0))) (sSeq (sExc "BadText")
    sNil) sNil)
    sNil)
noncomputable def g_need_text : Fs := run 1 1 b_need_text
theorem eq_need_text : ∀ ds r, g_need_text ds = some r → run 1 1 b_need_text ds = some r := fun _ _ h => h
noncomputable def b_row_in : DS :=
    (sSeq (sSet 2 (dCB gTuple (aCons (dL (fLc (f1 gEnumS (dV 1)) (tgT [3, 4]) (d2 gEq (dV 4) (dC (.str "o"))) (dV 3) [3, 4])) aNil)))
    (sSeq (sIf (dOr (d2 gNe (dCB gLen (aCons (dV 1) aNil)) (d2 gIx (dB 0) (dC (.int 0)))) (dOr (dNot (dCB gAll (aCons (dL (fLc (f1 gSgn (dV 1)) (tgN 4) dYes (d2 gInS (dV 4) (dC (.str "o."))) [4])) aNil))) (dNot (dCall g_is_good_row (aCons (dV 0) (aCons (dV 2) aNil)))))) (sSeq (sExc "BadText")
    sNil) sNil)
    (sSeq (sRet (dB 2))
    sNil)))
noncomputable def g_row_in : Fs := run 5 2 b_row_in
theorem eq_row_in : ∀ ds r, g_row_in ds = some r → run 5 2 b_row_in ds = some r := fun _ _ h => h
noncomputable def b_read_row : DS :=
    (sSeq (sDrop (dCall g_need_ring (aCons (dV 0) aNil)))
    (sSeq (sDrop (dCall g_need_text (aCons (dV 1) aNil)))
    (sSeq (sRet (dCall g_row_in (aCons (dV 0) (aCons (dV 1) aNil))))
    sNil)))
noncomputable def g_read_row : Fs := run 2 2 b_read_row
theorem eq_read_row : ∀ ds r, g_read_row ds = some r → run 2 2 b_read_row ds = some r := fun _ _ h => h
noncomputable def b_number_in : DS :=
    (sSeq (sIf (dOr (dNot (dChain gLe gLe (dC (.int 1)) (dCB gLen (aCons (dV 0) aNil)) (dC (.int 40)))) (dOr (dNot (dCB gAll (aCons (dL (fLc (f1 gSgn (dV 0)) (tgN 1) dYes (d2 gInS (dV 1) (dC (.str "0123456789"))) [1])) aNil))) (d2 gNe (dCB gStr (aCons (dCB gIntS (aCons (dV 0) aNil)) aNil)) (dV 0)))) (sSeq (sExc "BadText")
    sNil) sNil)
    (sSeq (sRet (dCB gIntS (aCons (dV 0) aNil)))
    sNil))
noncomputable def g_number_in : Fs := run 2 1 b_number_in
theorem eq_number_in : ∀ ds r, g_number_in ds = some r → run 2 1 b_number_in ds = some r := fun _ _ h => h
noncomputable def b_read_ring : DS :=
    (sSeq (sDrop (dCall g_need_text (aCons (dV 0) aNil)))
    (sSeq (sSet 1 (dL (fT2 gSplit (dV 0) (dC (.str " ")))))
    (sSeq (sIf (dOr (d2 gNe (dCB gLen (aCons (dV 1) aNil)) (dC (.int 4))) (dOr (d2 gNe (d2 gIx (dB 1) (dC (.int 1))) (dC (.str "cells,"))) (d2 gNe (d2 gIx (dB 1) (dC (.int 2))) (dC (.str "reach"))))) (sSeq (sExc "BadText")
    sNil) sNil)
    (sSeq (sSet 2 (dTup (aCons (dCall g_number_in (aCons (d2 gIx (dB 1) (dC (.int 0))) aNil)) (aCons (dCall g_number_in (aCons (d2 gIx (dB 1) (dC (.int 3))) aNil)) aNil))))
    (sSeq (sIf (dNot (dCall g_is_ring (aCons (dV 2) aNil))) (sSeq (sExc "BadText")
    sNil) sNil)
    (sSeq (sRet (dB 2))
    sNil))))))
noncomputable def g_read_ring : Fs := run 3 1 b_read_ring
theorem eq_read_ring : ∀ ds r, g_read_ring ds = some r → run 3 1 b_read_ring ds = some r := fun _ _ h => h
noncomputable def b__law_spoilt : DS :=
    (sSeq (sPar [3, 4] (aCons (dCallD 0 g__law_roll (aCons (d2 gAdd (dCB gLen (aCons (dV 1) aNil)) (dC (.int 1))) aNil)) (aCons (dCallD 0 g__law_roll (aCons (dC (.int 3)) aNil)) aNil)))
    (sSeq (sSet 5 (dIf (d2 gLt (dV 4) (dC (.int 2))) (d2 gIxS (dV 2) (dCallD 0 g__law_roll (aCons (dCB gLen (aCons (dV 2) aNil)) aNil))) (dC (.str ""))))
    (sSeq (sRet (d2 gAdd (d2 gAdd (dSlS (dV 1) none (some (dV 3))) (dV 5)) (dSlS (dV 1) (some (d2 gAdd (dV 3) (dCB gInt (aCons (d2 gGt (dV 4) (dC (.int 0))) aNil)))) none)))
    sNil)))
noncomputable def g__law_spoilt : Fd := runD 6 2 b__law_spoilt
theorem eq__law_spoilt : ∀ ds δ r, g__law_spoilt ds δ = some r → runD 6 2 b__law_spoilt ds δ = some r := fun _ _ _ h => h
noncomputable def b__law_far_texts_l0 : DS :=
    (sSeq (sIf (d2 gNe (dTold (dCall g_read_ring (aCons (dV 4) aNil))) (dTup (aCons (dC (.str "refused")) (aCons (dC (.str "BadText")) aNil)))) (sSeq (sRet (dC (.bool false)))
    sNil) sNil)
    sNil)
noncomputable def b__law_far_texts_l1 : DS :=
    (sSeq (sIf (d2 gNe (dTold (dCall g_read_row (aCons (dV 0) (aCons (dV 4) aNil)))) (dTup (aCons (dC (.str "refused")) (aCons (dC (.str "BadText")) aNil)))) (sSeq (sRet (dC (.bool false)))
    sNil) sNil)
    sNil)
noncomputable def b__law_far_texts : DS :=
    (sSeq (sSet 3 (dL (fLst (aCons (dC .none) (aCons (dC (.int 5)) (aCons (dC (.bool true)) (aCons (dC (.str "")) (aCons (d2 gAdd (dV 1) (dC (.str "o"))) (aCons (dSlS (dV 1) (some (dC (.int 1))) none) (aCons (d2 gMulS (dC (.str ".")) (d2 gIx (dB 0) (dC (.int 0)))) (aCons (d2 gMulS (dC (.str "x")) (d2 gIx (dB 0) (dC (.int 0)))) (aCons (d2 gAdd (dV 1) (dC (.str " "))) (aCons (dL (fLst (aCons (dV 1) aNil))) aNil)))))))))))))
    (sSeq (sFor (fSeq (dV 3)) (tgN 4) b__law_far_texts_l1)
    (sSeq (sSet 3 (dL (fLst (aCons (dC .none) (aCons (dC (.int 5)) (aCons (dC (.bool true)) (aCons (dC (.str "")) (aCons (d2 gAdd (dV 2) (dC (.str " "))) (aCons (d2 gAdd (dC (.str " ")) (dV 2)) (aCons (dC (.str "3 cells, reach 1")) (aCons (dC (.str "25 cells, reach 1")) aNil)))))))))))
    (sSeq (sSet 3 (d2 gAdd (dV 3) (dL (fLst (aCons (dC (.str "4 cells, reach 0")) (aCons (dC (.str "4 cells, reach 4")) (aCons (dC (.str "04 cells, reach 1")) (aCons (dC (.str "4 cells reach 1")) aNil))))))))
    (sSeq (sSet 3 (d2 gAdd (dV 3) (dL (fLst (aCons (dL (fLst (aCons (dV 2) aNil))) aNil)))))
    (sSeq (sFor (fSeq (dV 3)) (tgN 4) b__law_far_texts_l0)
    (sSeq (sRet (dAnd (d2 gEq (dCall g_read_ring (aCons (dC (.str "24 cells, reach 3")) aNil)) (dTup (aCons (dC (.int 24)) (aCons (dC (.int 3)) aNil)))) (d2 gEq (dCall g_read_row (aCons (dTup (aCons (dC (.int 4)) (aCons (dC (.int 1)) aNil))) (aCons (dC (.str "...o")) aNil))) (dTup (aCons (dC (.int 3)) aNil)))))
    sNil)))))))
noncomputable def g__law_far_texts : Fs := run 5 3 b__law_far_texts
theorem eq__law_far_texts : ∀ ds r, g__law_far_texts ds = some r → run 5 3 b__law_far_texts ds = some r := fun _ _ h => h
noncomputable def b_saved : DS :=
    sBad
noncomputable def g_saved : Fs := run 5 1 b_saved
theorem eq_saved : ∀ ds r, g_saved ds = some r → run 5 1 b_saved ds = some r := fun _ _ h => h
noncomputable def b_state_in : DS :=
    (sSeq (sSet 2 (dL (fT2 gSplit (dV 1) (dC (.str "=")))))
    (sSeq (sIf (d2 gNe (dCB gLen (aCons (dV 2) aNil)) (dC (.int 2))) (sSeq (sExc "BadText")
    sNil) sNil)
    (sSeq (sRet (dTup (aCons (dCall g_row_in (aCons (dV 0) (aCons (d2 gIx (dB 2) (dC (.int 0))) aNil))) (aCons (dCall g_number_in (aCons (d2 gIx (dB 2) (dC (.int 1))) aNil)) aNil))))
    sNil)))
noncomputable def g_state_in : Fs := run 3 2 b_state_in
theorem eq_state_in : ∀ ds r, g_state_in ds = some r → run 3 2 b_state_in ds = some r := fun _ _ h => h
noncomputable def b_road_of : DS :=
    (sSeq (sSet 1 (dL (fT2 gSplit (dV 0) (dC (.str "~")))))
    (sSeq (sSet 2 (dCall g_read_ring (aCons (d2 gIx (dB 1) (dC (.int 0))) aNil)))
    (sSeq (sSetF 3 (fLc (fSeq (dSl (dV 1) (some (dC (.int 1))) none)) (tgN 4) dYes (dCall g_state_in (aCons (dV 2) (aCons (dV 4) aNil))) [4]))
    (sFrz 3 (sSeq (sIf (d2 gEq (dV 3) (dL (fLst aNil))) (sSeq (sExc "BadText")
    sNil) sNil)
    (sSeq (sSet 5 (dCall g_Road (aCons (dV 2) (aCons (d2 gIx (d2 gIx (dB 3) (d1 gNeg (dC (.int 1)))) (dC (.int 0))) aNil))))
    sBad))))))
noncomputable def g_road_of : Fs := run 6 1 b_road_of
theorem eq_road_of : ∀ ds r, g_road_of ds = some r → run 6 1 b_road_of ds = some r := fun _ _ h => h
noncomputable def b_woken : DS :=
    (sSeq (sIf (dOr (dNot (d1 (gIsi PyData.isStr) (dV 0))) (d2 gNe (dSlS (dV 0) (some (d1 gNeg (dC (.int 1)))) none) (dC (.str "#")))) (sSeq (sExc "BadText")
    sNil) sNil)
    sBad)
noncomputable def g_woken : Fs := run 1 1 b_woken
theorem eq_woken : ∀ ds r, g_woken ds = some r → run 1 1 b_woken ds = some r := fun _ _ h => h
noncomputable def b__law_photo : DS :=
    sBad
noncomputable def g__law_photo : Fs := run 1 1 b__law_photo
theorem eq__law_photo : ∀ ds r, g__law_photo ds = some r → run 1 1 b__law_photo ds = some r := fun _ _ h => h
noncomputable def b__law_some_deeds_l0 : DS :=
    (sSeq (sPar [4, 5] (aCons (dCallD 0 g__law_roll (aCons (dC (.int 3)) aNil)) (aCons (dCallD 0 g__law_roll (aCons (d2 gIx (dB 2) (dC (.int 0))) aNil)) aNil)))
    (sSeq (sIf (d2 gEq (dV 4) (dC (.int 0))) sBad (sSeq (sIf (d2 gEq (dV 4) (dC (.int 1))) sBad sBad)
    sNil))
    sNil))
noncomputable def b__law_some_deeds : DS :=
    (sSeq (sFor (f1 gRng1 (dCallD 0 g__law_roll (aCons (dC (.int 8)) aNil))) (tgN 3) b__law_some_deeds_l0)
    (sSeq (sRet (dCB gLen (aCons (dV 1) aNil)))
    sNil))
noncomputable def g__law_some_deeds : Fd := runD 6 2 b__law_some_deeds
theorem eq__law_some_deeds : ∀ ds δ r, g__law_some_deeds ds δ = some r → runD 6 2 b__law_some_deeds ds δ = some r := fun _ _ _ h => h
noncomputable def b__law_asked : DS :=
    (sSeq (sSetF 3 (fLst (aCons (dCall g_sources (aCons (dV 0) (aCons (dV 1) aNil))) (aCons (dCall g_rows_for (aCons (dV 0) (aCons (dCB gLen (aCons (dV 1) aNil)) (aCons (dV 2) aNil)))) (aCons (dCall g_heard (aCons (dV 0) (aCons (dV 1) (aCons (dC (.int 0)) (aCons (dC (.int 6)) aNil))))) aNil)))))
    (sSeq (sApp 3 (dL (fLst (aCons (dCall g_how_many (aCons (dV 0) (aCons (dV 1) aNil))) (aCons (dCall g_gaps (aCons (dV 0) (aCons (dV 1) aNil))) (aCons (dCall g_settles (aCons (dV 0) (aCons (dV 1) aNil))) (aCons (dCall g_round_of (aCons (dV 0) (aCons (dV 1) aNil))) (aCons (dCall g_pace (aCons (dV 0) (aCons (dV 1) aNil))) aNil))))))))
    (sSeq (sApp 3 (dL (fLst (aCons (dCall g_gone (aCons (dV 0) (aCons (dV 1) (aCons (dC (.int 7)) aNil)))) (aCons (dCall g_held_by (aCons (dV 0) (aCons (dV 1) (aCons (dC (.int 5)) aNil)))) (aCons (dCall g_unlike (aCons (dV 0) (aCons (dV 1) (aCons (dCall g_beat (aCons (dV 0) (aCons (dV 1) aNil))) (aCons (dC (.int 1)) aNil))))) aNil))))))
    (sFrz 3 (sSeq (sIf (dCall g_has_room (aCons (dV 0) (aCons (dV 1) aNil))) (sSeq (sSet 3 (d2 gAdd (dV 3) (dL (fLst (aCons (dCall g_mates (aCons (dV 0) (aCons (dV 1) aNil))) (aCons (dCall g_idle (aCons (dV 0) (aCons (dV 1) aNil))) (aCons (dL (fLst (aCons (dCall g_deep (aCons (dV 0) (aCons (dV 1) aNil))) (aCons (dCall g_last_held (aCons (dV 0) (aCons (dV 1) aNil))) aNil)))) aNil)))))))
    (sFrz 3 sNil)) sNil)
    (sSeq (sIf (d2 gNe (dCall g_rows_for (aCons (dV 0) (aCons (dCB gLen (aCons (dV 1) aNil)) (aCons (dV 2) aNil)))) (dL (fLst aNil))) (sSeq (sSet 3 (d2 gAdd (dV 3) (dL (fCB gList (aCons (dCall g_sure_cells (aCons (dV 0) (aCons (dCB gLen (aCons (dV 1) aNil)) (aCons (dV 2) (aCons (dC (.int 2)) aNil))))) aNil)))))
    (sFrz 3 sNil)) sNil)
    (sSeq (sRet (dB 3))
    sNil)))))))
noncomputable def g__law_asked : Fs := run 4 3 b__law_asked
theorem eq__law_asked : ∀ ds r, g__law_asked ds = some r → run 4 3 b__law_asked ds = some r := fun _ _ h => h
noncomputable def b_is_shut : DS :=
    (sSeq (sIf (dOr (dNot (d1 (gIsi PyData.isTuple) (dV 1))) (dOr (d2 gNe (dCB gLen (aCons (dV 1) aNil)) (dC (.int 2))) (dNot (dCall g_is_whole (aCons (d2 gIx (dB 1) (dC (.int 0))) (aCons (dC (.int 0)) (aCons (d2 gSub (d2 gIx (dB 0) (dC (.int 0))) (dC (.int 1))) aNil))))))) (sSeq (sRet (dC (.bool false)))
    sNil) sNil)
    (sSeq (sRet (dCall g_is_whole (aCons (d2 gIx (dB 1) (dC (.int 1))) (aCons (dC (.int 0)) (aCons (dC (.int 59)) aNil)))))
    sNil))
noncomputable def g_is_shut : Fs := run 2 2 b_is_shut
theorem eq_is_shut : ∀ ds r, g_is_shut ds = some r → run 2 2 b_is_shut ds = some r := fun _ _ h => h
noncomputable def b_need_shuts : DS :=
    (sSeq (sDrop (dCall g_need_row (aCons (dV 0) (aCons (dV 1) aNil))))
    (sSeq (sIf (dOr (dNot (d1 (gIsi PyData.isList) (dV 2))) (dOr (d2 gGt (dCB gLen (aCons (dV 2) aNil)) (dC (.int 6))) (dNot (dCB gAll (aCons (dL (fLc (fSeq (dV 2)) (tgN 3) dYes (dCall g_is_shut (aCons (dV 0) (aCons (dV 3) aNil))) [3])) aNil))))) (sSeq (sExc "BadShuts")
    sNil) sNil)
    (sSeq (sIf (dNot (dCB gAll (aCons (dL (fLc (f2 gZip (dV 2) (dSl (dV 2) (some (dC (.int 1))) none)) (tgT [3, 4]) dYes (d2 gLt (dV 3) (dV 4)) [3, 4])) aNil))) (sSeq (sExc "BadShuts")
    sNil) sNil)
    sNil)))
noncomputable def g_need_shuts : Fs := run 5 3 b_need_shuts
theorem eq_need_shuts : ∀ ds r, g_need_shuts ds = some r → run 5 3 b_need_shuts ds = some r := fun _ _ h => h
noncomputable def b_need_late : DS :=
    (sSeq (sIf (dNot (dCall g_is_whole (aCons (dV 0) (aCons (dC (.int 0)) (aCons (dC (.int 60)) aNil))))) (sSeq (sExc "BadNumber")
    sNil) sNil)
    sNil)
noncomputable def g_need_late : Fs := run 1 1 b_need_late
theorem eq_need_late : ∀ ds r, g_need_late ds = some r → run 1 1 b_need_late ds = some r := fun _ _ h => h
noncomputable def b_step_l0 : DS :=
    (sSeq (sSet 7 (dCB gMin (aCons (d2 gAdd (dL (fLst (aCons (d2 gIx (dB 0) (dC (.int 1))) (aCons (d2 gSub (d2 gSub (dV 6) (dV 5)) (dC (.int 1))) aNil)))) (dL (fLc (fSeq (dV 2)) (tgN 8) dYes (d2 gMod (d2 gSub (dV 8) (dV 5)) (d2 gIx (dB 0) (dC (.int 0)))) [8]))) aNil)))
    (sSeq (sApp 4 (d2 gAdd (dV 5) (dV 7)))
    sNil))
noncomputable def b_step : DS :=
    (sSeq (sParM [3, 4] (mV (d2 gAdd (dSl (dV 1) (some (dC (.int 1))) none) (dL (fLst (aCons (d2 gAdd (d2 gIx (dB 1) (dC (.int 0))) (d2 gIx (dB 0) (dC (.int 0)))) aNil)))) (mO (fLst aNil) mNil)))
    (sSeq (sFor (f2 gZip (dV 1) (dV 3)) (tgT [5, 6]) b_step_l0)
    (sFrz 4 (sSeq (sRet (dB 4))
    sNil))))
noncomputable def g_step : Fs := run 9 3 b_step
theorem eq_step : ∀ ds r, g_step ds = some r → run 9 3 b_step ds = some r := fun _ _ h => h
noncomputable def b_way_gone_l0 : DS :=
    (sSeq (sSet 4 (dCall g_step (aCons (dV 0) (aCons (dV 4) (aCons (dL (fLc (fSeq (dV 2)) (tgT [6, 7]) (d2 gEq (dV 7) (dV 5)) (dV 6) [6, 7])) aNil)))))
    sNil)
noncomputable def b_way_gone : DS :=
    (sSeq (sSet 4 (dL (fCB gList (aCons (dV 1) aNil))))
    (sSeq (sFor (f1 gRng1 (dV 3)) (tgN 5) b_way_gone_l0)
    (sSeq (sRet (dCB gTuple (aCons (dL (fLc (f2 gZip (dV 4) (dV 1)) (tgT [8, 6]) dYes (d2 gSub (dV 8) (dV 6)) [8, 6])) aNil)))
    sNil)))
noncomputable def g_way_gone : Fs := run 9 4 b_way_gone
theorem eq_way_gone : ∀ ds r, g_way_gone ds = some r → run 9 4 b_way_gone ds = some r := fun _ _ h => h
noncomputable def b_all_lost : DS :=
    (sSeq (sPar [4, 5] (aCons (dCall g_way_gone (aCons (dV 0) (aCons (dV 1) (aCons (dL (fLst aNil)) (aCons (dV 3) aNil))))) (aCons (dCall g_way_gone (aCons (dV 0) (aCons (dV 1) (aCons (dV 2) (aCons (dV 3) aNil))))) aNil)))
    (sSeq (sRet (dCB gTuple (aCons (dL (fLc (f2 gZip (dV 4) (dV 5)) (tgT [6, 7]) dYes (d2 gSub (dV 6) (dV 7)) [6, 7])) aNil)))
    sNil))
noncomputable def g_all_lost : Fs := run 8 4 b_all_lost
theorem eq_all_lost : ∀ ds r, g_all_lost ds = some r → run 8 4 b_all_lost ds = some r := fun _ _ h => h
noncomputable def b_lost : DS :=
    (sSeq (sDrop (dCall g_need_shuts (aCons (dV 0) (aCons (dV 1) (aCons (dV 2) aNil)))))
    (sSeq (sDrop (dCall g_need_late (aCons (dV 3) aNil)))
    (sSeq (sRet (dCall g_all_lost (aCons (dV 0) (aCons (dV 1) (aCons (dV 2) (aCons (dV 3) aNil))))))
    sNil)))
noncomputable def g_lost : Fs := run 4 4 b_lost
theorem eq_lost : ∀ ds r, g_lost ds = some r → run 4 4 b_lost ds = some r := fun _ _ h => h
noncomputable def b__law_met : DS :=
    sBad
noncomputable def g__law_met : Fs := run 1 1 b__law_met
theorem eq__law_met : ∀ ds r, g__law_met ds = some r → run 1 1 b__law_met ds = some r := fun _ _ h => h
noncomputable def b__law_alone : DS :=
    sBad
noncomputable def g__law_alone : Fs := run 4 2 b__law_alone
theorem eq__law_alone : ∀ ds r, g__law_alone ds = some r → run 4 2 b__law_alone ds = some r := fun _ _ h => h
noncomputable def b__law_turned : DS :=
    (sSeq (sRet (dCB gTuple (aCons (dL (fCB gSorted (aCons (dL (fLc (fSeq (dV 1)) (tgN 3) dYes (d2 gMod (d2 gAdd (dV 3) (dV 2)) (d2 gIx (dB 0) (dC (.int 0)))) [3])) aNil))) aNil)))
    sNil)
noncomputable def g__law_turned : Fs := run 4 3 b__law_turned
theorem eq__law_turned : ∀ ds r, g__law_turned ds = some r → run 4 3 b__law_turned ds = some r := fun _ _ h => h
noncomputable def b__law_stays_ahead : DS :=
    (sSeq (sSetF 5 (fLc (fSeq (dV 2)) (tgN 6) dYes (d2 gAdd (dV 6) (dCallD 0 g__law_roll (aCons (dC (.int 2)) aNil))) [6]))
    (sFrz 5 (sSeq (sSet 7 (d2 gAdd (dSl (dV 5) (some (dC (.int 1))) none) (dL (fLst (aCons (d2 gAdd (d2 gIx (dB 5) (dC (.int 0))) (d2 gIx (dB 1) (dC (.int 0)))) aNil)))))
    (sSeq (sSetF 8 (fLc (f2 gZip (dV 5) (dV 7)) (tgT [9, 10]) (d2 gGe (dV 9) (dV 10)) (dC (.int 1)) [9, 10]))
    (sFrz 8 (sSeq (sIf (dAnd (d2 gEq (dV 8) (dL (fLst aNil))) (d2 gLt (d2 gIx (dB 5) (d1 gNeg (dC (.int 1)))) (d2 gIx (dB 1) (dC (.int 0))))) (sSeq (sSetF 11 (fLc (f2 gZip (dV 5) (dCall g_gone (aCons (dV 1) (aCons (dCB gTuple (aCons (dV 5) aNil)) (aCons (dV 4) aNil))))) (tgT [6, 12]) dYes (d2 gAdd (dV 6) (dV 12)) [6, 12]))
    (sFrz 11 (sSeq (sIf (d2 gNe (dL (fLc (f2 gZip (dV 3) (dV 11)) (tgT [9, 10]) (d2 gGt (dV 9) (dV 10)) (dC (.int 1)) [9, 10])) (dL (fLst aNil))) (sSeq (sRet (dC (.bool false)))
    sNil) sNil)
    sNil))) sNil)
    (sSeq (sRet (dC (.bool true)))
    sNil)))))))
noncomputable def g__law_stays_ahead : Fd := runD 13 4 b__law_stays_ahead
theorem eq__law_stays_ahead : ∀ ds δ r, g__law_stays_ahead ds δ = some r → runD 13 4 b__law_stays_ahead ds δ = some r := fun _ _ _ h => h
noncomputable def b_gone_shut : DS :=
    (sSeq (sDrop (dCall g_need_shuts (aCons (dV 0) (aCons (dV 1) (aCons (dV 2) aNil)))))
    (sSeq (sDrop (dCall g_need_late (aCons (dV 3) aNil)))
    (sSeq (sRet (dCall g_way_gone (aCons (dV 0) (aCons (dV 1) (aCons (dV 2) (aCons (dV 3) aNil))))))
    sNil)))
noncomputable def g_gone_shut : Fs := run 4 4 b_gone_shut
theorem eq_gone_shut : ∀ ds r, g_gone_shut ds = some r → run 4 4 b_gone_shut ds = some r := fun _ _ h => h
noncomputable def b_after_shut : DS :=
    (sSeq (sDrop (dCall g_need_shuts (aCons (dV 0) (aCons (dV 1) (aCons (dV 2) aNil)))))
    (sSeq (sDrop (dCall g_need_late (aCons (dV 3) aNil)))
    (sSeq (sRet (dCall g_moved (aCons (dV 0) (aCons (dV 1) (aCons (dCall g_way_gone (aCons (dV 0) (aCons (dV 1) (aCons (dV 2) (aCons (dV 3) aNil))))) aNil)))))
    sNil)))
noncomputable def g_after_shut : Fs := run 4 4 b_after_shut
theorem eq_after_shut : ∀ ds r, g_after_shut ds = some r → run 4 4 b_after_shut ds = some r := fun _ _ h => h
noncomputable def b_best_shut : DS :=
    (sSeq (sDrop (dCall g_need_row (aCons (dV 0) (aCons (dV 1) aNil))))
    (sSeq (sIf (dNot (dCall g_is_whole (aCons (dV 2) (aCons (dC (.int 0)) (aCons (d2 gSub (d2 gIx (dB 0) (dC (.int 0))) (dC (.int 1))) aNil))))) (sSeq (sExc "BadCell")
    sNil) sNil)
    (sSeq (sDrop (dCall g_need_late (aCons (dV 3) aNil)))
    (sSeq (sIf (d2 gEq (dV 3) (dC (.int 0))) (sSeq (sExc "Nothing")
    sNil) sNil)
    (sSeq (sRet (dCB gMin (aCons (dL (fLc (f1 gRng1 (dV 3)) (tgN 4) dYes (dTup (aCons (dCB gSum (aCons (dCall g_all_lost (aCons (dV 0) (aCons (dV 1) (aCons (dL (fLst (aCons (dTup (aCons (dV 2) (aCons (dV 4) aNil))) aNil))) (aCons (dV 3) aNil))))) aNil)) (aCons (dV 4) aNil))) [4])) aNil)))
    sNil)))))
noncomputable def g_best_shut : Fs := run 5 4 b_best_shut
theorem eq_best_shut : ∀ ds r, g_best_shut ds = some r → run 5 4 b_best_shut ds = some r := fun _ _ h => h
noncomputable def b__law_shut_step_l0 : DS :=
    (sSeq (sSet 7 (d2 gAdd (dV 7) (dC (.int 1))))
    sNil)
noncomputable def b__law_shut_step_l1 : DS :=
    (sSeq (sSet 6 (dIf (d2 gLt (d2 gAdd (dV 4) (dC (.int 1))) (dCB gLen (aCons (dV 1) aNil))) (d2 gIx (dB 1) (d2 gAdd (dV 4) (dC (.int 1)))) (d2 gAdd (d2 gIx (dB 1) (dC (.int 0))) (d2 gIx (dB 0) (dC (.int 0))))))
    (sSeq (sSet 7 (dV 5))
    (sSeq (sWhile 1000 (dAnd (d2 gLt (d2 gSub (dV 7) (dV 5)) (d2 gIx (dB 0) (dC (.int 1)))) (dAnd (d2 gLt (d2 gAdd (dV 7) (dC (.int 1))) (dV 6)) (d2 gNotIn (d2 gMod (dV 7) (d2 gIx (dB 0) (dC (.int 0)))) (dV 2)))) b__law_shut_step_l0)
    (sSeq (sApp 3 (dV 7))
    sNil))))
noncomputable def b__law_shut_step : DS :=
    (sSeq (sSetF 3 (fLst aNil))
    (sSeq (sFor (f1 gEnum (dV 1)) (tgT [4, 5]) b__law_shut_step_l1)
    (sFrz 3 (sSeq (sRet (dB 3))
    sNil))))
noncomputable def g__law_shut_step : Fs := run 8 3 b__law_shut_step
theorem eq__law_shut_step : ∀ ds r, g__law_shut_step ds = some r → run 8 3 b__law_shut_step ds = some r := fun _ _ h => h
noncomputable def b__law_shut_walk_l0 : DS :=
    (sSeq (sSet 4 (dCall g__law_shut_step (aCons (dV 0) (aCons (dV 4) (aCons (dL (fLc (fSeq (dV 2)) (tgT [6, 7]) (d2 gEq (dV 7) (dV 5)) (dV 6) [6, 7])) aNil)))))
    sNil)
noncomputable def b__law_shut_walk : DS :=
    (sSeq (sSet 4 (dL (fCB gList (aCons (dV 1) aNil))))
    (sSeq (sFor (f1 gRng1 (dV 3)) (tgN 5) b__law_shut_walk_l0)
    (sSeq (sRet (dCB gTuple (aCons (dL (fLc (f2 gZip (dV 4) (dV 1)) (tgT [8, 6]) dYes (d2 gSub (dV 8) (dV 6)) [8, 6])) aNil)))
    sNil)))
noncomputable def g__law_shut_walk : Fs := run 9 4 b__law_shut_walk
theorem eq__law_shut_walk : ∀ ds r, g__law_shut_walk ds = some r → run 9 4 b__law_shut_walk ds = some r := fun _ _ h => h
noncomputable def b__law_shuts_refused_l0 : DS :=
    (sSeq (sIf (d2 gNe (dTold (dCall g_best_shut (aCons (dV 0) (aCons (dV 1) (aCons (dV 4) (aCons (dC .none) aNil)))))) (dTup (aCons (dC (.str "refused")) (aCons (dC (.str "BadCell")) aNil)))) (sSeq (sRet (dC (.bool false)))
    sNil) sNil)
    sNil)
noncomputable def b__law_shuts_refused_l1 : DS :=
    (sSeq (sSetF 5 (fLst (aCons (dTold (dCall g_gone_shut (aCons (dV 0) (aCons (dV 1) (aCons (dL (fLst aNil)) (aCons (dV 4) aNil)))))) aNil)))
    (sSeq (sApp 5 (dTold (dCall g_after_shut (aCons (dV 0) (aCons (dV 1) (aCons (dL (fLst aNil)) (aCons (dV 4) aNil)))))))
    (sSeq (sApp 5 (dTold (dCall g_lost (aCons (dV 0) (aCons (dV 1) (aCons (dL (fLst aNil)) (aCons (dV 4) aNil)))))))
    (sSeq (sApp 5 (dTold (dCall g_best_shut (aCons (dV 0) (aCons (dV 1) (aCons (dC (.int 0)) (aCons (dV 4) aNil)))))))
    (sFrz 5 (sSeq (sIf (d2 gNe (dV 5) (d2 gMul (dL (fLst (aCons (dTup (aCons (dC (.str "refused")) (aCons (dC (.str "BadNumber")) aNil))) aNil))) (dC (.int 4)))) (sSeq (sRet (dC (.bool false)))
    sNil) sNil)
    sNil))))))
noncomputable def b__law_shuts_refused_l2 : DS :=
    (sSeq (sSetF 5 (fLst (aCons (dTold (dCall g_gone_shut (aCons (dV 0) (aCons (dV 1) (aCons (dV 4) (aCons (dC .none) aNil)))))) aNil)))
    (sSeq (sApp 5 (dTold (dCall g_after_shut (aCons (dV 0) (aCons (dV 1) (aCons (dV 4) (aCons (dC .none) aNil)))))))
    (sFrz 5 (sSeq (sIf (d2 gNe (d2 gAdd (dV 5) (dL (fLst (aCons (dTold (dCall g_lost (aCons (dV 0) (aCons (dV 1) (aCons (dV 4) (aCons (dC .none) aNil)))))) aNil)))) (d2 gMul (dL (fLst (aCons (dTup (aCons (dC (.str "refused")) (aCons (dC (.str "BadShuts")) aNil))) aNil))) (dC (.int 3)))) (sSeq (sRet (dC (.bool false)))
    sNil) sNil)
    sNil))))
noncomputable def b__law_shuts_refused : DS :=
    (sSeq (sSet 2 (dL (fLst (aCons (dC .none) (aCons (dC (.int 5)) (aCons (dTup aNil) (aCons (dL (fLst (aCons (dC .none) aNil))) (aCons (dL (fLst (aCons (dTup (aCons (dC (.int 0)) (aCons (dC (.int 60)) aNil))) aNil))) (aCons (dL (fLst (aCons (dTup (aCons (d2 gIx (dB 0) (dC (.int 0))) (aCons (dC (.int 0)) aNil))) aNil))) (aCons (dL (fLst (aCons (dTup (aCons (dC (.int 0)) (aCons (dC (.int 1)) aNil))) (aCons (dTup (aCons (dC (.int 0)) (aCons (dC (.int 1)) aNil))) aNil)))) (aCons (dL (fLst (aCons (dTup (aCons (dC (.int 1)) (aCons (dC (.int 0)) aNil))) (aCons (dTup (aCons (dC (.int 0)) (aCons (dC (.int 0)) aNil))) aNil)))) aNil)))))))))))
    (sSeq (sSet 2 (d2 gAdd (dV 2) (dL (fLst (aCons (dL (fLc (f1 gRng1 (dC (.int 7))) (tgN 3) dYes (dTup (aCons (dC (.int 0)) (aCons (dV 3) aNil))) [3])) (aCons (dL (fLst (aCons (dL (fLst (aCons (dC (.int 0)) (aCons (dC (.int 0)) aNil)))) aNil))) (aCons (dL (fLst (aCons (dTup (aCons (dC (.bool true)) (aCons (dC (.int 0)) aNil))) aNil))) aNil)))))))
    (sSeq (sFor (fSeq (dV 2)) (tgN 4) b__law_shuts_refused_l2)
    (sSeq (sFor (fSeq (dL (fLst (aCons (d1 gNeg (dC (.int 1))) (aCons (dC (.int 61)) (aCons (dC (.bool true)) (aCons (dC .none) aNil))))))) (tgN 4) b__law_shuts_refused_l1)
    (sSeq (sFor (fSeq (dL (fLst (aCons (d1 gNeg (dC (.int 1))) (aCons (d2 gIx (dB 0) (dC (.int 0))) (aCons (dC (.bool true)) (aCons (dC .none) aNil))))))) (tgN 4) b__law_shuts_refused_l0)
    (sSeq (sRet (d2 gEq (dTold (dCall g_best_shut (aCons (dV 0) (aCons (dV 1) (aCons (dC (.int 0)) (aCons (dC (.int 0)) aNil)))))) (dTup (aCons (dC (.str "refused")) (aCons (dC (.str "Nothing")) aNil)))))
    sNil))))))
noncomputable def g__law_shuts_refused : Fs := run 6 2 b__law_shuts_refused
theorem eq__law_shuts_refused : ∀ ds r, g__law_shuts_refused ds = some r → run 6 2 b__law_shuts_refused ds = some r := fun _ _ h => h
noncomputable def b_meets_l0 : DS :=
    (sSeq (sIf (d2 gEq (dV 1) (dV 2)) (sSeq (sRet (dB 5))
    sNil) sNil)
    (sSeq (sPar [1, 2] (aCons (dCall g_next_row (aCons (dV 0) (aCons (dV 1) aNil))) (aCons (dCall g_next_row (aCons (dV 0) (aCons (dV 2) aNil))) aNil)))
    sNil))
noncomputable def b_meets : DS :=
    (sSeq (sDrop (dCall g_need_row (aCons (dV 0) (aCons (dV 1) aNil))))
    (sSeq (sDrop (dCall g_need_row (aCons (dV 0) (aCons (dV 2) aNil))))
    (sSeq (sPar [3, 4] (aCons (dCall g_round_at (aCons (dV 0) (aCons (dV 1) aNil))) (aCons (dCall g_round_at (aCons (dV 0) (aCons (dV 2) aNil))) aNil)))
    (sSeq (sFor (f1 gRng1 (d2 gAdd (dCB gMax (aCons (d2 gIx (dB 3) (dC (.int 0))) (aCons (d2 gIx (dB 4) (dC (.int 0))) aNil))) (d2 gMul (d2 gIx (dB 3) (dC (.int 1))) (d2 gIx (dB 4) (dC (.int 1)))))) (tgN 5) b_meets_l0)
    (sSeq (sRet (dC .none))
    sNil)))))
noncomputable def g_meets : Fs := run 6 3 b_meets
theorem eq_meets : ∀ ds r, g_meets ds = some r → run 6 3 b_meets ds = some r := fun _ _ h => h
noncomputable def b_behind_in_l0 : DS :=
    (sSeq (sIf (d2 gEq (dV 1) (dV 2)) (sSeq (sRet (dB 3))
    sNil) sNil)
    (sSeq (sSet 1 (dCall g_next_row (aCons (dV 0) (aCons (dV 1) aNil))))
    sNil))
noncomputable def b_behind_in : DS :=
    (sSeq (sDrop (dCall g_need_row (aCons (dV 0) (aCons (dV 1) aNil))))
    (sSeq (sDrop (dCall g_need_row (aCons (dV 0) (aCons (dV 2) aNil))))
    (sSeq (sFor (f1 gRng1 (dCB gSum (aCons (dCall g_round_at (aCons (dV 0) (aCons (dV 1) aNil))) aNil))) (tgN 3) b_behind_in_l0)
    (sSeq (sRet (dC .none))
    sNil))))
noncomputable def g_behind_in : Fs := run 4 3 b_behind_in
theorem eq_behind_in : ∀ ds r, g_behind_in ds = some r → run 4 3 b_behind_in ds = some r := fun _ _ h => h
noncomputable def b_need_beats : DS :=
    (sSeq (sIf (dNot (dCall g_is_whole (aCons (dV 0) (aCons (dC (.int 0)) (aCons (dC (.int 12)) aNil))))) (sSeq (sExc "BadNumber")
    sNil) sNil)
    sNil)
noncomputable def g_need_beats : Fs := run 1 1 b_need_beats
theorem eq_need_beats : ∀ ds r, g_need_beats ds = some r → run 1 1 b_need_beats ds = some r := fun _ _ h => h
noncomputable def b_led_back_l0 : DS :=
    (sSeq (sIf (d2 gGt (dCB gSum (aCons (dL (fLc (fSeq (dV 3)) (tgN 5) dYes (dCall g_count_of (aCons (dV 0) (aCons (dV 5) aNil))) [5])) aNil)) (dC (.int 300))) (sSeq (sExc "Full")
    sNil) sNil)
    sBad)
noncomputable def b_led_back : DS :=
    (sSeq (sSet 3 (dL (fLst (aCons (dV 1) aNil))))
    (sSeq (sFor (f1 gRng1 (dV 2)) (tgN 4) b_led_back_l0)
    (sSeq (sRet (dCB gLen (aCons (dV 3) aNil)))
    sNil)))
noncomputable def g_led_back : Fs := run 7 3 b_led_back
theorem eq_led_back : ∀ ds r, g_led_back ds = some r → run 7 3 b_led_back ds = some r := fun _ _ h => h
noncomputable def b_ancestors : DS :=
    (sSeq (sDrop (dCall g_need_row (aCons (dV 0) (aCons (dV 1) aNil))))
    (sSeq (sDrop (dCall g_need_beats (aCons (dV 2) aNil)))
    (sSeq (sRet (dCall g_led_back (aCons (dV 0) (aCons (dV 1) (aCons (dV 2) aNil)))))
    sNil)))
noncomputable def g_ancestors : Fs := run 3 3 b_ancestors
theorem eq_ancestors : ∀ ds r, g_ancestors ds = some r → run 3 3 b_ancestors ds = some r := fun _ _ h => h
noncomputable def b_same_end : DS :=
    (sSeq (sDrop (dCall g_need_row (aCons (dV 0) (aCons (dV 1) aNil))))
    (sSeq (sDrop (dCall g_need_beats (aCons (dV 2) aNil)))
    (sSeq (sRet (dCall g_led_back (aCons (dV 0) (aCons (dCall g_row_at (aCons (dV 0) (aCons (dV 1) (aCons (dV 2) aNil)))) (aCons (dV 2) aNil)))))
    sNil)))
noncomputable def g_same_end : Fs := run 3 3 b_same_end
theorem eq_same_end : ∀ ds r, g_same_end ds = some r → run 3 3 b_same_end ds = some r := fun _ _ h => h
noncomputable def b_need_many : DS :=
    (sSeq (sDrop (dCall g_need_ring (aCons (dV 0) aNil)))
    (sSeq (sIf (dNot (dCall g_is_whole (aCons (dV 1) (aCons (dC (.int 1)) (aCons (d2 gIx (dB 0) (dC (.int 0))) aNil))))) (sSeq (sExc "BadNumber")
    sNil) sNil)
    sNil))
noncomputable def g_need_many : Fs := run 2 2 b_need_many
theorem eq_need_many : ∀ ds r, g_need_many ds = some r → run 2 2 b_need_many ds = some r := fun _ _ h => h
noncomputable def b_count_shared_l0 : DS :=
    (sSeq (sDiP 6 (d2 gAdd (dV 7) (dV 8)) (d2 gAdd (dDGet 6 (d2 gAdd (dV 7) (dV 8)) (dC (.int 0))) (dDIx 4 (dV 7))))
    sNil)
noncomputable def b_count_shared_l1 : DS :=
    (sSeq (sFor (f2 gRng2 (dV 2) (d2 gAdd (dCB gMin (aCons (dV 3) (aCons (d2 gSub (dV 0) (dV 7)) aNil))) (dC (.int 1)))) (tgN 8) b_count_shared_l0)
    sNil)
noncomputable def b_count_shared_l2 : DS :=
    (sSeq (sSetD 6)
    (sSeq (sFor (fKeys 4) (tgN 7) b_count_shared_l1)
    (sFrzD 6 (sSeq (sSet 4 (dV 6))
    sNil))))
noncomputable def b_count_shared : DS :=
    sBad
noncomputable def g_count_shared : Fs := run 9 4 b_count_shared
theorem eq_count_shared : ∀ ds r, g_count_shared ds = some r → run 9 4 b_count_shared ds = some r := fun _ _ h => h
noncomputable def b_count_rows : DS :=
    (sSeq (sRet (d2 gDiv (d2 gMul (dCall g_count_shared (aCons (d2 gSub (d2 gIx (dB 0) (dC (.int 0))) (dV 1)) (aCons (dV 1) (aCons (dV 2) (aCons (dV 3) aNil))))) (d2 gIx (dB 0) (dC (.int 0)))) (dV 1)))
    sNil)
noncomputable def g_count_rows : Fs := run 4 4 b_count_rows
theorem eq_count_rows : ∀ ds r, g_count_rows ds = some r → run 4 4 b_count_rows ds = some r := fun _ _ h => h
noncomputable def b_count_last : DS :=
    (sSeq (sUnp [2, 3] (dV 0))
    (sSeq (sSet 4 (dCall g_count_rows (aCons (dV 0) (aCons (dV 1) (aCons (dV 3) (aCons (dV 3) aNil))))))
    (sSeq (sRet (d2 gSub (d2 gAdd (dCall g_count_rows (aCons (dV 0) (aCons (dV 1) (aCons (dV 3) (aCons (dV 2) aNil))))) (dCall g_count_rows (aCons (dV 0) (aCons (dV 1) (aCons (dC (.int 0)) (aCons (dV 3) aNil)))))) (dV 4)))
    sNil)))
noncomputable def g_count_last : Fs := run 5 2 b_count_last
theorem eq_count_last : ∀ ds r, g_count_last ds = some r → run 5 2 b_count_last ds = some r := fun _ _ h => h
noncomputable def b_how_many_last : DS :=
    (sSeq (sDrop (dCall g_need_many (aCons (dV 0) (aCons (dV 1) aNil))))
    (sSeq (sRet (dCall g_count_last (aCons (dV 0) (aCons (dV 1) aNil))))
    sNil))
noncomputable def g_how_many_last : Fs := run 2 2 b_how_many_last
theorem eq_how_many_last : ∀ ds r, g_how_many_last ds = some r → run 2 2 b_how_many_last ds = some r := fun _ _ h => h
noncomputable def b_rows_with_l0 : DS :=
    (sSeq (sSet 9 (d2 gSub (d2 gSub (d2 gSub (d2 gAdd (d2 gIx (dB 8) (dC (.int 0))) (d2 gIx (dB 0) (dC (.int 0)))) (dV 5)) (dC (.int 1))) (dV 6)))
    (sSeq (sIf (dChain gLe gLe (d2 gMul (d2 gAdd (dV 6) (dC (.int 1))) (dV 2)) (dV 9) (d2 gMul (d2 gAdd (dV 6) (dC (.int 1))) (dV 3))) (sSeq (sApp 7 (d2 gAdd (dV 8) (dTup (aCons (dV 5) aNil))))
    sNil) sNil)
    sNil))
noncomputable def b_rows_with_l1 : DS :=
    (sSeq (sFor (f2 gRng2 (d2 gAdd (d2 gAdd (d2 gIx (dB 8) (d1 gNeg (dC (.int 1)))) (dV 2)) (dC (.int 1))) (d2 gAdd (dCB gMin (aCons (d2 gSub (d2 gIx (dB 0) (dC (.int 0))) (dC (.int 1))) (aCons (d2 gAdd (d2 gAdd (d2 gIx (dB 8) (d1 gNeg (dC (.int 1)))) (dV 3)) (dC (.int 1))) aNil))) (dC (.int 1)))) (tgN 5) b_rows_with_l0)
    sNil)
noncomputable def b_rows_with_l2 : DS :=
    (sSeq (sSetF 7 (fLst aNil))
    (sSeq (sFor (fSeq (dV 4)) (tgN 8) b_rows_with_l1)
    (sFrz 7 (sSeq (sSet 4 (dV 7))
    sNil))))
noncomputable def b_rows_with : DS :=
    (sSeq (sSetF 4 (fLc (f1 gRng1 (dCB gMin (aCons (d2 gIx (dB 0) (dC (.int 0))) (aCons (d2 gAdd (dV 3) (dC (.int 1))) aNil)))) (tgN 5) dYes (dTup (aCons (dV 5) aNil)) [5]))
    (sFrz 4 (sSeq (sFor (f3 gRng3 (d2 gSub (dV 1) (dC (.int 2))) (d1 gNeg (dC (.int 1))) (d1 gNeg (dC (.int 1)))) (tgN 6) b_rows_with_l2)
    (sSeq (sRet (dL (fLc (fSeq (dV 4)) (tgN 8) (dChain gLe gLe (dV 2) (d2 gSub (d2 gSub (d2 gAdd (d2 gIx (dB 8) (dC (.int 0))) (d2 gIx (dB 0) (dC (.int 0)))) (d2 gIx (dB 8) (d1 gNeg (dC (.int 1))))) (dC (.int 1))) (dV 3)) (dV 8) [8])))
    sNil))))
noncomputable def g_rows_with : Fs := run 10 4 b_rows_with
theorem eq_rows_with : ∀ ds r, g_rows_with ds = some r → run 10 4 b_rows_with ds = some r := fun _ _ h => h
noncomputable def b_last_rows : DS :=
    (sSeq (sDrop (dCall g_need_many (aCons (dV 0) (aCons (dV 1) aNil))))
    (sSeq (sIf (d2 gGt (dCall g_count_last (aCons (dV 0) (aCons (dV 1) aNil))) (dC (.int 300))) (sSeq (sExc "Full")
    sNil) sNil)
    (sSeq (sUnp [2, 3] (dV 0))
    (sSeq (sRet (dL (f1 gSS1 (d2 gAdd (dCall g_rows_with (aCons (dV 0) (aCons (dV 1) (aCons (dV 3) (aCons (dV 2) aNil))))) (dCall g_rows_with (aCons (dV 0) (aCons (dV 1) (aCons (dC (.int 0)) (aCons (dV 3) aNil)))))))))
    sNil))))
noncomputable def g_last_rows : Fs := run 4 2 b_last_rows
theorem eq_last_rows : ∀ ds r, g_last_rows ds = some r → run 4 2 b_last_rows ds = some r := fun _ _ h => h
noncomputable def b_flow_of : DS :=
    (sSeq (sRet (dCB gMin (aCons (d2 gMul (d2 gIx (dB 0) (dC (.int 1))) (dV 1)) (aCons (d2 gSub (d2 gIx (dB 0) (dC (.int 0))) (dV 1)) aNil))))
    sNil)
noncomputable def g_flow_of : Fs := run 2 2 b_flow_of
theorem eq_flow_of : ∀ ds r, g_flow_of ds = some r → run 2 2 b_flow_of ds = some r := fun _ _ h => h
noncomputable def b_flow : DS :=
    (sSeq (sDrop (dCall g_need_many (aCons (dV 0) (aCons (dV 1) aNil))))
    (sSeq (sRet (dCall g_flow_of (aCons (dV 0) (aCons (dV 1) aNil))))
    sNil))
noncomputable def g_flow : Fs := run 2 2 b_flow
theorem eq_flow : ∀ ds r, g_flow ds = some r → run 2 2 b_flow ds = some r := fun _ _ h => h
noncomputable def b__law_comes_again_l0 : DS :=
    (sSeq (sIf (d2 gEq (dV 2) (dV 1)) (sSeq (sRet (dC (.bool true)))
    sNil) sNil)
    (sSeq (sSet 2 (dCall g__law_as_row (aCons (dV 0) (aCons (dCall g__law_step (aCons (dV 0) (aCons (dL (fCB gList (aCons (dV 2) aNil))) aNil))) aNil))))
    sNil))
noncomputable def b__law_comes_again : DS :=
    (sSeq (sSet 2 (dCall g__law_as_row (aCons (dV 0) (aCons (dCall g__law_step (aCons (dV 0) (aCons (dL (fCB gList (aCons (dV 1) aNil))) aNil))) aNil))))
    (sSeq (sFor (f1 gRng1 (dC (.int 40))) (tgN 3) b__law_comes_again_l0)
    (sSeq (sRet (dC (.bool false)))
    sNil)))
noncomputable def g__law_comes_again : Fs := run 4 2 b__law_comes_again
theorem eq__law_comes_again : ∀ ds r, g__law_comes_again ds = some r → run 4 2 b__law_comes_again ds = some r := fun _ _ h => h
noncomputable def b_best_many : DS :=
    (sSeq (sDrop (dCall g_need_ring (aCons (dV 0) aNil)))
    (sSeq (sUnp [1, 2] (dCB gMax (aCons (dL (fLc (f2 gRng2 (dC (.int 1)) (d2 gAdd (d2 gIx (dB 0) (dC (.int 0))) (dC (.int 1)))) (tgN 3) dYes (dTup (aCons (dCall g_flow_of (aCons (dV 0) (aCons (dV 3) aNil))) (aCons (d1 gNeg (dV 3)) aNil))) [3])) aNil)))
    (sSeq (sRet (dTup (aCons (dV 1) (aCons (d1 gNeg (dV 2)) aNil))))
    sNil)))
noncomputable def g_best_many : Fs := run 4 1 b_best_many
theorem eq_best_many : ∀ ds r, g_best_many ds = some r → run 4 1 b_best_many ds = some r := fun _ _ h => h
noncomputable def b_is_harmless : DS :=
    (sSeq (sSet 3 (dCB gTuple (aCons (dL (fCB gSorted (aCons (d2 gAdd (dV 1) (dTup (aCons (dV 2) aNil))) aNil))) aNil)))
    (sSeq (sSet 4 (d2 gAdd (dCB gMax (aCons (d2 gIx (dCall g_settled (aCons (dV 0) (aCons (dV 1) aNil))) (dC (.int 0))) (aCons (d2 gIx (dCall g_settled (aCons (dV 0) (aCons (dV 3) aNil))) (dC (.int 0))) aNil))) (dC (.int 1))))
    (sSeq (sRet (dNot (dCB gAny2 (aCons (dL (fLc (fSeq (d2 gAdd (dL (f1 gLR1 (d2 gAdd (dV 4) (dC (.int 1))))) (dL (fLst (aCons (dC (.int 1000000000000000000)) aNil))))) (tgN 5) dYes (dCB gAny2 (aCons (dCall g_all_later (aCons (dV 0) (aCons (dV 1) (aCons (dV 2) (aCons (dV 5) aNil))))) aNil)) [5])) aNil))))
    sNil)))
noncomputable def g_is_harmless : Fs := run 6 3 b_is_harmless
theorem eq_is_harmless : ∀ ds r, g_is_harmless ds = some r → run 6 3 b_is_harmless ds = some r := fun _ _ h => h
noncomputable def b_harmless : DS :=
    (sSeq (sDrop (dCall g_need_row (aCons (dV 0) (aCons (dV 1) aNil))))
    (sSeq (sRet (dL (fLc (f1 gRng1 (d2 gIx (dB 0) (dC (.int 0)))) (tgN 2) (dAnd (d2 gNotIn (dV 2) (dV 1)) (dCall g_is_harmless (aCons (dV 0) (aCons (dV 1) (aCons (dV 2) aNil))))) (dV 2) [2])))
    sNil))
noncomputable def g_harmless : Fs := run 3 2 b_harmless
theorem eq_harmless : ∀ ds r, g_harmless ds = some r → run 3 2 b_harmless ds = some r := fun _ _ h => h
noncomputable def b__law_far_right7 : DS :=
    (sSeq (sUnp [4, 5] (dCall g_round_of (aCons (dV 1) (aCons (dV 2) aNil))))
    (sSeq (sSet 6 (d2 gIx (dL (fLst (aCons (dC (.int 9)) (aCons (d2 gPow (dC (.int 10)) (dC (.int 7))) (aCons (d2 gPow (dC (.int 10)) (dC (.int 16))) aNil))))) (dCallD 0 g__law_roll (aCons (dC (.int 3)) aNil))))
    (sSeq (sSet 7 (d2 gSub (dCall g_heard_by (aCons (dV 1) (aCons (dV 2) (aCons (dV 3) (aCons (d2 gAdd (dV 4) (dV 5)) aNil))))) (dCall g_heard_by (aCons (dV 1) (aCons (dV 2) (aCons (dV 3) (aCons (dV 4) aNil)))))))
    (sSeq (sIf (d2 gNe (dCall g_heard_by (aCons (dV 1) (aCons (dV 2) (aCons (dV 3) (aCons (d2 gAdd (dV 4) (d2 gMul (dV 5) (dV 6))) aNil))))) (d2 gAdd (dCall g_heard_by (aCons (dV 1) (aCons (dV 2) (aCons (dV 3) (aCons (dV 4) aNil))))) (d2 gMul (dV 6) (dV 7)))) (sSeq (sRet (dC (.bool false)))
    sNil) sNil)
    (sSeq (sRet (dC (.bool true)))
    sNil)))))
noncomputable def g__law_far_right7 : Fd := runD 8 3 b__law_far_right7
theorem eq__law_far_right7 : ∀ ds δ r, g__law_far_right7 ds δ = some r → runD 8 3 b__law_far_right7 ds δ = some r := fun _ _ _ h => h
end G8

set_option Elab.async false
set_option linter.all false
set_option maxRecDepth 100000
set_option maxHeartbeats 1000000
namespace G8
open PySem PySem.Spec PyProof.Rows L2 LamX
noncomputable def b_law_l0 : DS :=
    (sSeq (sSet 8 (dCallD 1 g__law_spoilt (aCons (dV 4) (aCons (dC (.str "o. O")) aNil))))
    (sSeq (sSet 9 (dTold (dCall g_read_row (aCons (dV 2) (aCons (dV 8) aNil)))))
    (sSeq (sIf (dAnd (d2 gNe (dV 9) (dTup (aCons (dC (.str "refused")) (aCons (dC (.str "BadText")) aNil)))) (dOr (dNot (dCall g_is_row (aCons (dV 2) (aCons (dV 9) aNil)))) (d2 gNe (dCall g_row_text (aCons (dV 2) (aCons (dV 9) aNil))) (dV 8)))) (sSeq (sRet (dC (.bool false)))
    sNil) sNil)
    (sSeq (sSet 10 (dCallD 1 g__law_spoilt (aCons (dV 6) (aCons (dC (.str "0123456 ,cr")) aNil))))
    (sSeq (sSet 9 (dTold (dCall g_read_ring (aCons (dV 10) aNil))))
    (sSeq (sIf (dAnd (d2 gNe (dV 9) (dTup (aCons (dC (.str "refused")) (aCons (dC (.str "BadText")) aNil)))) (dOr (dNot (dCall g_is_ring (aCons (dV 9) aNil))) (d2 gNe (dCall g_ring_text (aCons (dV 9) aNil)) (dV 10)))) (sSeq (sRet (dC (.bool false)))
    sNil) sNil)
    sNil))))))
noncomputable def b_law : DS :=
    (sSeq (sSet 2 (dCallD 1 g__law_any_ring (aCons (dC (.int 24)) aNil)))
    (sSeq (sSet 3 (dCallD 1 g__law_any_row (aCons (dV 2) aNil)))
    (sSeq (sSet 4 (dT2 gJoin (dC (.str "")) (dL (fLc (f1 gRng1 (d2 gIx (dB 2) (dC (.int 0)))) (tgN 5) dYes (dIf (d2 gIn (dV 5) (dV 3)) (dC (.str "o")) (dC (.str "."))) [5]))))
    (sSeq (sSet 6 (d2 gAdd (d2 gAdd (dCB gStr (aCons (d2 gIx (dB 2) (dC (.int 0))) aNil)) (dC (.str " cells, reach "))) (dCB gStr (aCons (d2 gIx (dB 2) (dC (.int 1))) aNil))))
    (sSeq (sIf (dOr (d2 gNe (dCall g_row_text (aCons (dV 2) (aCons (dV 3) aNil))) (dV 4)) (dOr (d2 gNe (dCall g_ring_text (aCons (dV 2) aNil)) (dV 6)) (d2 gNe (dCall g_read_row (aCons (dV 2) (aCons (dV 4) aNil))) (dV 3)))) (sSeq (sRet (dC (.bool false)))
    sNil) sNil)
    (sSeq (sIf (d2 gNe (dCall g_read_ring (aCons (dV 6) aNil)) (dV 2)) (sSeq (sRet (dC (.bool false)))
    sNil) sNil)
    (sSeq (sFor (f1 gRng1 (dC (.int 10))) (tgN 7) b_law_l0)
    (sSeq (sIf (dNot (dCall g__law_far_texts (aCons (dV 2) (aCons (dV 4) (aCons (dV 6) aNil))))) (sSeq (sRet (dC (.bool false)))
    sNil) sNil)
    sNil))))))))
end G8

set_option Elab.async false
set_option linter.all false
set_option maxRecDepth 100000
set_option maxHeartbeats 1000000
namespace G8
open PySem PySem.Spec PyProof.Rows L2 LamX
def topS (i : Nat) : Stmt := PySem.Challenge.pw_gapcarts_k10_whole_texts.main.body.getD i (.Pass ⟨0, 0, 0, 0⟩)
theorem blkC_by {N : List Str} {sc scope : Scope} {own : List (Str × Nat)} (h : blkC N sc scope own = true) : blkC N sc scope own = true := h
section
variable {P : Program} {w : World} {K : Fg} {mg : Str → Option Value} {base : Heap} {cl : String → Addr} {T : List (Addr × Str)}
abbrev NSl : List String := ["BadRing", "BadRow", "BadNumber", "BadCell", "BadLooks", "Nothing", "Full", "BadText", "BadShuts"]
abbrev st__law_told : Stmt := topS 34
abbrev st__law_term : Stmt := topS 33
abbrev st_is_whole : Stmt := topS 12
theorem sc_is_whole : FnScope ["thing", "low", "high"] ["thing", "low", "high"] (defScope st_is_whole) := ⟨rfl, rfl, rfl, by decide +kernel, rfl, by decide +kernel, by decide +kernel⟩
theorem ok_is_whole {f : Addr} {fd : FuncData} (F : Fun K "is_whole" "is_whole" st_is_whole f fd) (hm : mg "is_whole" = some (.ref f)) (hb : Binds K fd ["thing", "low", "high"] []) (B : Bt mg)  : FnP P w K mg base cl T "is_whole" 2 3 g_is_whole :=
  FnP.imp (fnP (k := 1) (body := b_is_whole) F sc_is_whole hm hb cl T fun cdv A outer s H E S H0 dc W hr tk =>
    (q_cons (s_ret (pd_and (pd_isi isi_int B.isinstance B.int boot_int (pd_var 0) rfl) (pd_and (pd_not (pd_isi isi_bool B.isinstance B.bool boot_bool (pd_var 0) rfl)) (pd_one (pd_chain op_le op_le k_le k_le (pd_var 1) (pd_var 0) (pd_var 2))))))
    q_nil)) eq_is_whole
abbrev st_is_ring : Stmt := topS 13
theorem sc_is_ring : FnScope ["thing"] ["thing"] (defScope st_is_ring) := ⟨rfl, rfl, rfl, by decide +kernel, rfl, by decide +kernel, by decide +kernel⟩
theorem ok_is_ring {f : Addr} {fd : FuncData} (F : Fun K "is_ring" "is_ring" st_is_ring f fd) (hm : mg "is_ring" = some (.ref f)) (hb : Binds K fd ["thing"] []) (B : Bt mg) (G_is_whole : FnP P w K mg base cl T "is_whole" 2 3 g_is_whole) : FnP P w K mg base cl T "is_ring" 3 1 g_is_ring :=
  FnP.imp (fnP (k := 2) (body := b_is_ring) F sc_is_ring hm hb cl T fun cdv A outer s H E S H0 dc W hr tk =>
    (q_cons (s_ret (pd_and (pd_isi isi_tuple B.isinstance B.tuple boot_tuple (pd_var 0) rfl) (pd_and (pd_cmp (op_eqD (ru64 hr)) k_eq (pd_callB c_len k_len B.len PySem.boot_len (pd_cons (pd_var 0) pd_nil)) pd_int) (pd_and (pd_call G_is_whole (hr.mono (by decide)) rfl tk (pd_cons (pd_ixB 0 pd_int rfl) (pd_cons pd_int (pd_cons pd_int pd_nil)))) (pd_one (pd_call G_is_whole (hr.mono (by decide)) rfl tk (pd_cons (pd_ixB 0 pd_int rfl) (pd_cons pd_int (pd_cons pd_int pd_nil)))))))))
    q_nil)) eq_is_ring
abbrev st_need_ring : Stmt := topS 14
theorem sc_need_ring : FnScope ["thing"] ["thing"] (defScope st_need_ring) := ⟨rfl, rfl, rfl, by decide +kernel, rfl, by decide +kernel, by decide +kernel⟩
theorem ok_need_ring {f : Addr} {fd : FuncData} (F : Fun K "need_ring" "need_ring" st_need_ring f fd) (hm : mg "need_ring" = some (.ref f)) (hb : Binds K fd ["thing"] []) (B : Bt mg) (XS : Xs K mg cl NSl) (G_is_ring : FnP P w K mg base cl T "is_ring" 3 1 g_is_ring) : FnP P w K mg base cl T "need_ring" 4 1 g_need_ring :=
  FnP.imp (fnP (k := 3) (body := b_need_ring) F sc_need_ring hm hb cl T fun cdv A outer s H E S H0 dc W hr tk =>
    (q_cons (s_if (pt_notD (pt_valD (pd_call G_is_ring (hr.mono (by decide)) rfl tk (pd_cons (pd_var 0) pd_nil)))) (q_cons (s_raise "BadRing" XS tk rfl)
    q_nil) q_nil)
    q_nil)) eq_need_ring
abbrev st_is_good_row : Stmt := topS 15
theorem sc_is_good_row : FnScope ["ring", "thing", "one", "other"] ["ring", "thing"] (defScope st_is_good_row) := ⟨rfl, rfl, rfl, by decide +kernel, rfl, by decide +kernel, by decide +kernel⟩
theorem ok_is_good_row {f : Addr} {fd : FuncData} (F : Fun K "is_good_row" "is_good_row" st_is_good_row f fd) (hm : mg "is_good_row" = some (.ref f)) (hb : Binds K fd ["ring", "thing"] []) (B : Bt mg) (G_is_whole : FnP P w K mg base cl T "is_whole" 2 3 g_is_whole) : FnP P w K mg base cl T "is_good_row" 3 2 g_is_good_row :=
  FnP.imp (fnP (k := 2) (body := b_is_good_row) F sc_is_good_row hm hb cl T fun cdv A outer s H E S H0 dc W hr tk =>
    (q_cons (s_if (L2.PW.pt (pw_orD (pt_notD (pt_valD (pd_isi isi_tuple B.isinstance B.tuple boot_tuple (pd_var 1) rfl))) (pw_orD (pt_cmpD (op_eqD (ru64 hr)) k_eq (pd_var 1) (pd_tup pd_nil)) (pw_or1 (pt_notD (pt_valD (pd_callB (cr_all rfl) k_all B.all boot_all (pd_cons (pd_ofF (pd_lc (own := [("one", 2)]) rfl sc_is_good_row.nd (tgOk_n 2) (i_seq (pd_var 1) rfl) (blkC_by (N := ["ring", "thing", "one", "other"]) (sc := defScope st_is_good_row) (by decide +kernel)) (fun _ _ _ _ _ _ => (g_name 2 sc_is_good_row.nd)) (fun _ _ _ _ _ _ => ts_nil) (fun _ _ _ _ _ _ => (pd_call G_is_whole (hr.mono (by decide)) rfl (tk0 rfl) (pd_cons (pd_var 2) (pd_cons pd_int (pd_cons (pd_op op_sub k_sub (pd_ixB 0 pd_int rfl) pd_int) pd_nil))))))) pd_nil)))))))) (q_cons (s_ret pd_bl)
    q_nil) q_nil)
    (q_cons (s_ret (pd_callB (cr_all rfl) k_all B.all boot_all (pd_cons (pd_ofF (pd_lc (own := [("one", 2), ("other", 3)]) rfl sc_is_good_row.nd (tgOk_t [2, 3]) (i_zip B.zip (pd_var 1) (pd_sl (pd_var 1) (pd_some pd_int) pd_none rfl) rfl) (blkC_by (N := ["ring", "thing", "one", "other"]) (sc := defScope st_is_good_row) (by decide +kernel)) (fun _ _ _ _ _ _ => (g_tup sc_is_good_row.nd rfl (nms 2 (nms 3 nms_nil)) rfl)) (fun _ _ _ _ _ _ => ts_nil) (fun _ _ _ _ _ _ => (pd_cmp (o_lt (ru0 hr)) k_lt (pd_var 2) (pd_var 3))))) pd_nil)))
    q_nil))) eq_is_good_row
abbrev st_is_row : Stmt := topS 16
theorem sc_is_row : FnScope ["ring", "thing"] ["ring", "thing"] (defScope st_is_row) := ⟨rfl, rfl, rfl, by decide +kernel, rfl, by decide +kernel, by decide +kernel⟩
theorem ok_is_row {f : Addr} {fd : FuncData} (F : Fun K "is_row" "is_row" st_is_row f fd) (hm : mg "is_row" = some (.ref f)) (hb : Binds K fd ["ring", "thing"] []) (B : Bt mg) (G_is_good_row : FnP P w K mg base cl T "is_good_row" 3 2 g_is_good_row) (G_need_ring : FnP P w K mg base cl T "need_ring" 4 1 g_need_ring) : FnP P w K mg base cl T "is_row" 5 2 g_is_row :=
  FnP.imp (fnP (k := 4) (body := b_is_row) F sc_is_row hm hb cl T fun cdv A outer s H E S H0 dc W hr tk =>
    (q_cons (s_drop (pd_call G_need_ring (hr.mono (by decide)) rfl tk (pd_cons (pd_var 0) pd_nil)))
    (q_cons (s_ret (pd_call G_is_good_row (hr.mono (by decide)) rfl tk (pd_cons (pd_var 0) (pd_cons (pd_var 1) pd_nil))))
    q_nil))) eq_is_row
abbrev st_need_row : Stmt := topS 17
theorem sc_need_row : FnScope ["ring", "row"] ["ring", "row"] (defScope st_need_row) := ⟨rfl, rfl, rfl, by decide +kernel, rfl, by decide +kernel, by decide +kernel⟩
theorem ok_need_row {f : Addr} {fd : FuncData} (F : Fun K "need_row" "need_row" st_need_row f fd) (hm : mg "need_row" = some (.ref f)) (hb : Binds K fd ["ring", "row"] []) (B : Bt mg) (XS : Xs K mg cl NSl) (G_is_good_row : FnP P w K mg base cl T "is_good_row" 3 2 g_is_good_row) (G_need_ring : FnP P w K mg base cl T "need_ring" 4 1 g_need_ring) : FnP P w K mg base cl T "need_row" 5 2 g_need_row :=
  FnP.imp (fnP (k := 4) (body := b_need_row) F sc_need_row hm hb cl T fun cdv A outer s H E S H0 dc W hr tk =>
    (q_cons (s_drop (pd_call G_need_ring (hr.mono (by decide)) rfl tk (pd_cons (pd_var 0) pd_nil)))
    (q_cons (s_if (pt_notD (pt_valD (pd_call G_is_good_row (hr.mono (by decide)) rfl tk (pd_cons (pd_var 0) (pd_cons (pd_var 1) pd_nil))))) (q_cons (s_raise "BadRow" XS tk rfl)
    q_nil) q_nil)
    q_nil))) eq_need_row
abbrev st_written : Stmt := topS 20
theorem sc_written : FnScope ["ring", "row", "cell"] ["ring", "row"] (defScope st_written) := ⟨rfl, rfl, rfl, by decide +kernel, rfl, by decide +kernel, by decide +kernel⟩
theorem ok_written {f : Addr} {fd : FuncData} (F : Fun K "written" "written" st_written f fd) (hm : mg "written" = some (.ref f)) (hb : Binds K fd ["ring", "row"] []) (B : Bt mg)  : FnP P w K mg base cl T "written" 2 2 g_written :=
  FnP.imp (fnP (k := 1) (body := b_written) F sc_written hm hb cl T fun cdv A outer s H E S H0 dc W hr tk =>
    (q_cons (s_ret (pd_join pd_str (pd_ofF (pd_lc (own := [("cell", 2)]) rfl sc_written.nd (tgOk_n 2) (i_rng1 B.range (pd_ixB 0 pd_int rfl)) (blkC_by (N := ["ring", "row", "cell"]) (sc := defScope st_written) (by decide +kernel)) (fun _ _ _ _ _ _ => (g_name 2 sc_written.nd)) (fun _ _ _ _ _ _ => ts_nil) (fun _ _ _ _ _ _ => (pd_if (pt_cmpD (o_in (ru hr)) k_in (pd_var 2) (pd_var 1)) pd_str pd_str)))) rfl))
    q_nil)) eq_written
abbrev st_row_text : Stmt := topS 21
theorem sc_row_text : FnScope ["ring", "row"] ["ring", "row"] (defScope st_row_text) := ⟨rfl, rfl, rfl, by decide +kernel, rfl, by decide +kernel, by decide +kernel⟩
theorem ok_row_text {f : Addr} {fd : FuncData} (F : Fun K "row_text" "row_text" st_row_text f fd) (hm : mg "row_text" = some (.ref f)) (hb : Binds K fd ["ring", "row"] []) (B : Bt mg) (G_written : FnP P w K mg base cl T "written" 2 2 g_written) (G_need_row : FnP P w K mg base cl T "need_row" 5 2 g_need_row) : FnP P w K mg base cl T "row_text" 6 2 g_row_text :=
  FnP.imp (fnP (k := 5) (body := b_row_text) F sc_row_text hm hb cl T fun cdv A outer s H E S H0 dc W hr tk =>
    (q_cons (s_drop (pd_call G_need_row (hr.mono (by decide)) rfl tk (pd_cons (pd_var 0) (pd_cons (pd_var 1) pd_nil))))
    (q_cons (s_ret (pd_call G_written (hr.mono (by decide)) rfl tk (pd_cons (pd_var 0) (pd_cons (pd_var 1) pd_nil))))
    q_nil))) eq_row_text
abbrev st_need_text : Stmt := topS 22
theorem sc_need_text : FnScope ["text"] ["text"] (defScope st_need_text) := ⟨rfl, rfl, rfl, by decide +kernel, rfl, by decide +kernel, by decide +kernel⟩
theorem ok_need_text {f : Addr} {fd : FuncData} (F : Fun K "need_text" "need_text" st_need_text f fd) (hm : mg "need_text" = some (.ref f)) (hb : Binds K fd ["text"] []) (B : Bt mg) (XS : Xs K mg cl NSl)  : FnP P w K mg base cl T "need_text" 2 1 g_need_text :=
  FnP.imp (fnP (k := 1) (body := b_need_text) F sc_need_text hm hb cl T fun cdv A outer s H E S H0 dc W hr tk =>
    (q_cons (s_if (pt_notD (pt_valD (pd_isi isi_str B.isinstance B.str boot_str (pd_var 0) rfl))) (q_cons (s_raise "BadText" XS tk rfl)
    q_nil) q_nil)
    q_nil)) eq_need_text
abbrev st_row_in : Stmt := topS 23
theorem sc_row_in : FnScope ["ring", "text", "found", "cell", "sign"] ["ring", "text"] (defScope st_row_in) := ⟨rfl, rfl, rfl, by decide +kernel, rfl, by decide +kernel, by decide +kernel⟩
theorem ok_row_in {f : Addr} {fd : FuncData} (F : Fun K "row_in" "row_in" st_row_in f fd) (hm : mg "row_in" = some (.ref f)) (hb : Binds K fd ["ring", "text"] []) (B : Bt mg) (XS : Xs K mg cl NSl) (G_is_good_row : FnP P w K mg base cl T "is_good_row" 3 2 g_is_good_row) : FnP P w K mg base cl T "row_in" 4 2 g_row_in :=
  FnP.imp (fnP (k := 3) (body := b_row_in) F sc_row_in hm hb cl T fun cdv A outer s H E S H0 dc W hr tk =>
    (q_cons (s_set (i := 2) sc_row_in.nd (pd_callT call_tuple_of k_tuple B.tuple boot_tuple (pd_cons (pd_ofF (pd_lc (own := [("cell", 3), ("sign", 4)]) rfl sc_row_in.nd (tgOk_t [3, 4]) (i_enumS B.enumerate (pd_var 1)) (blkC_by (N := ["ring", "text", "found", "cell", "sign"]) (sc := defScope st_row_in) (by decide +kernel)) (fun _ _ _ _ _ _ => (g_tup sc_row_in.nd rfl (nms 3 (nms 4 nms_nil)) rfl)) (fun _ _ _ _ _ _ => (ts_one (pt_cmpD (op_eqD (ru64 hr)) k_eq (pd_var 4) pd_str))) (fun _ _ _ _ _ _ => (pd_var 3)))) pd_nil)))
    (q_cons (s_if (L2.PW.pt (pw_orD (pt_cmpD (op_neD (ru64 hr)) k_ne (pd_callB c_len k_len B.len PySem.boot_len (pd_cons (pd_var 1) pd_nil)) (pd_ixB 0 pd_int rfl)) (pw_orD (pt_notD (pt_valD (pd_callB (cr_all rfl) k_all B.all boot_all (pd_cons (pd_ofF (pd_lc (own := [("sign", 4)]) rfl sc_row_in.nd (tgOk_n 4) (i_str (pd_var 1)) (blkC_by (N := ["ring", "text", "found", "cell", "sign"]) (sc := defScope st_row_in) (by decide +kernel)) (fun _ _ _ _ _ _ => (g_name 4 sc_row_in.nd)) (fun _ _ _ _ _ _ => ts_nil) (fun _ _ _ _ _ _ => (pd_cmp op_in_sign k_inS (pd_var 4) pd_str)))) pd_nil)))) (pw_or1 (pt_notD (pt_valD (pd_call G_is_good_row (hr.mono (by decide)) rfl tk (pd_cons (pd_var 0) (pd_cons (pd_var 2) pd_nil))))))))) (q_cons (s_raise "BadText" XS tk rfl)
    q_nil) q_nil)
    (q_cons (s_retB 2)
    q_nil)))) eq_row_in
abbrev st_read_row : Stmt := topS 24
theorem sc_read_row : FnScope ["ring", "text"] ["ring", "text"] (defScope st_read_row) := ⟨rfl, rfl, rfl, by decide +kernel, rfl, by decide +kernel, by decide +kernel⟩
theorem ok_read_row {f : Addr} {fd : FuncData} (F : Fun K "read_row" "read_row" st_read_row f fd) (hm : mg "read_row" = some (.ref f)) (hb : Binds K fd ["ring", "text"] []) (B : Bt mg) (G_row_in : FnP P w K mg base cl T "row_in" 4 2 g_row_in) (G_need_text : FnP P w K mg base cl T "need_text" 2 1 g_need_text) (G_need_ring : FnP P w K mg base cl T "need_ring" 4 1 g_need_ring) : FnP P w K mg base cl T "read_row" 5 2 g_read_row :=
  FnP.imp (fnP (k := 4) (body := b_read_row) F sc_read_row hm hb cl T fun cdv A outer s H E S H0 dc W hr tk =>
    (q_cons (s_drop (pd_call G_need_ring (hr.mono (by decide)) rfl tk (pd_cons (pd_var 0) pd_nil)))
    (q_cons (s_drop (pd_call G_need_text (hr.mono (by decide)) rfl tk (pd_cons (pd_var 1) pd_nil)))
    (q_cons (s_ret (pd_call G_row_in (hr.mono (by decide)) rfl tk (pd_cons (pd_var 0) (pd_cons (pd_var 1) pd_nil))))
    q_nil)))) eq_read_row
abbrev st_ring_text : Stmt := topS 25
theorem sc_ring_text : FnScope ["ring"] ["ring"] (defScope st_ring_text) := ⟨rfl, rfl, rfl, by decide +kernel, rfl, by decide +kernel, by decide +kernel⟩
theorem ok_ring_text {f : Addr} {fd : FuncData} (F : Fun K "ring_text" "ring_text" st_ring_text f fd) (hm : mg "ring_text" = some (.ref f)) (hb : Binds K fd ["ring"] []) (B : Bt mg) (G_need_ring : FnP P w K mg base cl T "need_ring" 4 1 g_need_ring) : FnP P w K mg base cl T "ring_text" 5 1 g_ring_text :=
  FnP.imp (fnP (k := 4) (body := b_ring_text) F sc_ring_text hm hb cl T fun cdv A outer s H E S H0 dc W hr tk =>
    (q_cons (s_drop (pd_call G_need_ring (hr.mono (by decide)) rfl tk (pd_cons (pd_var 0) pd_nil)))
    (q_cons (s_ret (pd_joined (.cons (pd_fmt (pd_ixB 0 pd_int rfl)) (.cons pd_str (.cons (pd_fmt (pd_ixB 0 pd_int rfl)) .nil)))))
    q_nil))) eq_ring_text
abbrev st_number_in : Stmt := topS 26
theorem sc_number_in : FnScope ["text", "sign"] ["text"] (defScope st_number_in) := ⟨rfl, rfl, rfl, by decide +kernel, rfl, by decide +kernel, by decide +kernel⟩
theorem ok_number_in {f : Addr} {fd : FuncData} (F : Fun K "number_in" "number_in" st_number_in f fd) (hm : mg "number_in" = some (.ref f)) (hb : Binds K fd ["text"] []) (B : Bt mg) (XS : Xs K mg cl NSl) {t_FIGURES : Tok} (V_FIGURES : mg "FIGURES" = some (.str "0123456789" t_FIGURES)) : FnP P w K mg base cl T "number_in" 2 1 g_number_in :=
  FnP.imp (fnP (k := 1) (body := b_number_in) F sc_number_in hm hb cl T fun cdv A outer s H E S H0 dc W hr tk =>
    (q_cons (s_if (L2.PW.pt (pw_orD (pt_notD (pt_chainD op_le op_le k_le k_le pd_int (pd_callB c_len k_len B.len PySem.boot_len (pd_cons (pd_var 0) pd_nil)) pd_int)) (pw_orD (pt_notD (pt_valD (pd_callB (cr_all rfl) k_all B.all boot_all (pd_cons (pd_ofF (pd_lc (own := [("sign", 1)]) rfl sc_number_in.nd (tgOk_n 1) (i_str (pd_var 0)) (blkC_by (N := ["text", "sign"]) (sc := defScope st_number_in) (by decide +kernel)) (fun _ _ _ _ _ _ => (g_name 1 sc_number_in.nd)) (fun _ _ _ _ _ _ => ts_nil) (fun _ _ _ _ _ _ => (pd_cmp op_in_sign k_inS (pd_var 1) (pd_globS V_FIGURES))))) pd_nil)))) (pw_or1 (pt_cmpD (op_neD (ru64 hr)) k_ne (pd_callT call_str_int k_str B.str boot_str (pd_cons (pd_callT call_int_str k_intS B.int boot_int (pd_cons (pd_var 0) pd_nil)) pd_nil)) (pd_var 0)))))) (q_cons (s_raise "BadText" XS tk rfl)
    q_nil) q_nil)
    (q_cons (s_ret (pd_callT call_int_str k_intS B.int boot_int (pd_cons (pd_var 0) pd_nil)))
    q_nil))) eq_number_in
abbrev st_read_ring : Stmt := topS 27
theorem sc_read_ring : FnScope ["text", "words", "found"] ["text"] (defScope st_read_ring) := ⟨rfl, rfl, rfl, by decide +kernel, rfl, by decide +kernel, by decide +kernel⟩
theorem ok_read_ring {f : Addr} {fd : FuncData} (F : Fun K "read_ring" "read_ring" st_read_ring f fd) (hm : mg "read_ring" = some (.ref f)) (hb : Binds K fd ["text"] []) (B : Bt mg) (XS : Xs K mg cl NSl) (G_is_ring : FnP P w K mg base cl T "is_ring" 3 1 g_is_ring) (G_number_in : FnP P w K mg base cl T "number_in" 2 1 g_number_in) (G_need_text : FnP P w K mg base cl T "need_text" 2 1 g_need_text) : FnP P w K mg base cl T "read_ring" 4 1 g_read_ring :=
  FnP.imp (fnP (k := 3) (body := b_read_ring) F sc_read_ring hm hb cl T fun cdv A outer s H E S H0 dc W hr tk =>
    (q_cons (s_drop (pd_call G_need_text (hr.mono (by decide)) rfl tk (pd_cons (pd_var 0) pd_nil)))
    (q_cons (s_set (i := 1) sc_read_ring.nd (pd_ofF (pd_split (pd_var 0) pd_str)))
    (q_cons (s_if (L2.PW.pt (pw_orD (pt_cmpD (op_neD (ru64 hr)) k_ne (pd_callB c_len k_len B.len PySem.boot_len (pd_cons (pd_var 1) pd_nil)) pd_int) (pw_orD (pt_cmpD (op_neD (ru64 hr)) k_ne (pd_ixB 1 pd_int rfl) pd_str) (pw_or1 (pt_cmpD (op_neD (ru64 hr)) k_ne (pd_ixB 1 pd_int rfl) pd_str))))) (q_cons (s_raise "BadText" XS tk rfl)
    q_nil) q_nil)
    (q_cons (s_set (i := 2) sc_read_ring.nd (pd_tup (pd_cons (pd_call G_number_in (hr.mono (by decide)) rfl tk (pd_cons (pd_ixB 1 pd_int rfl) pd_nil)) (pd_cons (pd_call G_number_in (hr.mono (by decide)) rfl tk (pd_cons (pd_ixB 1 pd_int rfl) pd_nil)) pd_nil))))
    (q_cons (s_if (pt_notD (pt_valD (pd_call G_is_ring (hr.mono (by decide)) rfl tk (pd_cons (pd_var 2) pd_nil)))) (q_cons (s_raise "BadText" XS tk rfl)
    q_nil) q_nil)
    (q_cons (s_retB 2)
    q_nil))))))) eq_read_ring
abbrev st__law_drawn : Stmt := topS 30
theorem sc__law_drawn : FnScope ["cell", "k", "more"] ["cell", "k"] (defScope st__law_drawn) := ⟨rfl, rfl, rfl, by decide +kernel, rfl, by decide +kernel, by decide +kernel⟩
theorem ok__law_drawn {f : Addr} {fd : FuncData} (F : Fun K "_law_drawn" "_law_drawn" st__law_drawn f fd) (hm : mg "_law_drawn" = some (.ref f)) (hb : Binds K fd ["cell", "k"] []) (B : Bt mg)  : FnP P w K mg base cl T "_law_drawn" 2 2 g__law_drawn :=
  FnP.imp (fnP (k := 1) (body := b__law_drawn) F sc__law_drawn hm hb cl T fun cdv A outer s H E S H0 dc W hr tk =>
    (q_cons (s_set (i := 2) sc__law_drawn.nd (pd_op op_mod k_mod (pd_op o_add k_add (pd_op o_mul k_mul (pd_var 0) pd_int) (pd_op o_mul k_mul (pd_op o_add k_add (pd_var 1) pd_int) pd_int)) pd_int))
    (q_cons (s_set (i := 2) sc__law_drawn.nd (pd_op op_mod k_mod (pd_op o_mul k_mul (pd_var 2) (pd_var 2)) pd_int))
    (q_cons (s_set (i := 2) sc__law_drawn.nd (pd_op o_mul k_mul (pd_op o_mul k_mul (pd_op o_add k_add (pd_op op_mod k_mod (pd_var 2) pd_int) pd_int) (pd_op o_add k_add (pd_op op_fdivW k_div (pd_var 2) pd_int) pd_int)) (pd_var 2)))
    (q_cons (s_ret (pd_op op_mod k_mod (pd_var 2) pd_int))
    q_nil))))) eq__law_drawn
abbrev st__law_roll : Stmt := topS 31
theorem sc__law_roll : FnScope ["dice", "many", "told"] ["dice", "many"] (defScope st__law_roll) := ⟨rfl, rfl, rfl, by decide +kernel, rfl, by decide +kernel, by decide +kernel⟩
theorem ok__law_roll (cl : String → Addr) {f : Addr} {fd : FuncData} (F : Fun K "_law_roll" "_law_roll" st__law_roll f fd) (hm : mg "_law_roll" = some (.ref f)) (hb : Binds K fd ["dice", "many"] []) (B : Bt mg) (G__law_drawn : FnP P w K mg base cl T "_law_drawn" 2 2 g__law_drawn) : FnD P w K mg base T "_law_roll" 3 1 g__law_roll :=
  FnD.imp (fnD (k := 2) (body := b__law_roll) F sc__law_roll hm hb cl T fun cdv A outer s H E S H0 dc W hr tk =>
    (q_cons (s_if (pt_cmpD op_ge k_ge (pd_dice 0 false rfl) (pd_op op_pow k_pow pd_int pd_int)) (q_cons (s_set (i := 2) sc__law_roll.nd (pd_op op_mod k_mod (pd_dice 0 false rfl) (pd_var 1)))
    (q_cons (s_dice 0 false (pd_op op_fdivW k_div (pd_dice 0 false rfl) (pd_var 1)))
    (q_cons (s_retB 2)
    q_nil))) q_nil)
    (q_cons (s_dice 0 true (pd_op o_add k_add (pd_dice 0 true rfl) pd_int))
    (q_cons (s_ret (pd_op op_mod k_mod (pd_op op_fdivW k_div (pd_call G__law_drawn (hr.mono (by decide)) rfl tk (pd_cons (pd_dice 0 false rfl) (pd_cons (pd_dice 0 true rfl) pd_nil))) pd_int) (pd_var 1)))
    q_nil)))) eq__law_roll
abbrev st__law_any_ring : Stmt := topS 35
theorem sc__law_any_ring : FnScope ["dice", "high"] ["dice", "high"] (defScope st__law_any_ring) := ⟨rfl, rfl, rfl, by decide +kernel, rfl, by decide +kernel, by decide +kernel⟩
theorem ok__law_any_ring (cl : String → Addr) {f : Addr} {fd : FuncData} (F : Fun K "_law_any_ring" "_law_any_ring" st__law_any_ring f fd) (hm : mg "_law_any_ring" = some (.ref f)) (hb : Binds K fd ["dice", "high"] []) (B : Bt mg) (G__law_roll : FnD P w K mg base T "_law_roll" 3 1 g__law_roll) : FnD P w K mg base T "_law_any_ring" 4 1 g__law_any_ring :=
  FnD.imp (fnD (k := 3) (body := b__law_any_ring) F sc__law_any_ring hm hb cl T fun cdv A outer s H E S H0 dc W hr tk =>
    (q_cons (s_ret (pd_tup (pd_cons (pd_op o_add k_add pd_int (pd_callD (cl := cl) 0 G__law_roll (hr.mono (by decide)) rfl tk (pd_cons (pd_op op_sub k_sub (pd_var 1) pd_int) pd_nil))) (pd_cons (pd_op o_add k_add pd_int (pd_callD (cl := cl) 0 G__law_roll (hr.mono (by decide)) rfl tk (pd_cons pd_int pd_nil))) pd_nil))))
    q_nil)) eq__law_any_ring
abbrev st__law_any_row : Stmt := topS 36
theorem sc__law_any_row : FnScope ["dice", "ring", "act", "cells", "found", "cell"] ["dice", "ring"] (defScope st__law_any_row) := ⟨rfl, rfl, rfl, by decide +kernel, rfl, by decide +kernel, by decide +kernel⟩
theorem ok__law_any_row (cl : String → Addr) {f : Addr} {fd : FuncData} (F : Fun K "_law_any_row" "_law_any_row" st__law_any_row f fd) (hm : mg "_law_any_row" = some (.ref f)) (hb : Binds K fd ["dice", "ring"] []) (B : Bt mg) (G__law_roll : FnD P w K mg base T "_law_roll" 3 1 g__law_roll) : FnD P w K mg base T "_law_any_row" 4 1 g__law_any_row :=
  FnD.imp (fnD (k := 3) (body := b__law_any_row) F sc__law_any_row hm hb cl T fun cdv A outer s H E S H0 dc W hr tk =>
    (q_cons (s_parT sc__law_any_row.nd rfl (nms 2 (nms 3 nms_nil)) rfl (pd_cons (pd_callD (cl := cl) 0 G__law_roll (hr.mono (by decide)) rfl tk (pd_cons pd_int pd_nil)) (pd_cons (pd_ixB 1 pd_int rfl) pd_nil)))
    (q_cons (s_setLc (i := 4) (own := [("cell", 5)]) rfl sc__law_any_row.nd (tgOk_n 5) (i_rng1 B.range (pd_var 3)) (blkC_by (N := ["dice", "ring", "act", "cells", "found", "cell"]) (sc := defScope st__law_any_row) (by decide +kernel)) (fun _ _ _ _ _ _ => (g_name 5 sc__law_any_row.nd)) (fun _ _ _ _ _ _ => (ts_one (pt_cmpD (op_eqD (ru64 hr)) k_eq (pd_callD (cl := cl) 0 G__law_roll (hr.mono (by decide)) rfl (tk0 rfl) (pd_cons (pd_ix (pd_ofF (pd_lst (pd_cons pd_int (pd_cons pd_int (pd_cons pd_int (pd_cons pd_int pd_nil)))))) (pd_var 2) rfl) pd_nil)) pd_int))) (fun _ _ _ _ _ _ => (pd_var 5)))
    (q_frz 4 (q_cons (s_if (pt_cmpD (op_eqD (ru64 hr)) k_eq (pd_var 2) pd_int) (q_cons (s_set (i := 4) sc__law_any_row.nd (pd_op o_add k_add (pd_ofF (pd_lr1 rfl B.list B.range (pd_op o_add k_add (pd_op op_fdivW k_div (pd_callD (cl := cl) 0 G__law_roll (hr.mono (by decide)) rfl tk (pd_cons (pd_var 3) pd_nil)) pd_int) pd_int))) (pd_ofF (pd_lc (own := [("cell", 5)]) rfl sc__law_any_row.nd (tgOk_n 5) (i_seq (pd_var 4) rfl) (blkC_by (N := ["dice", "ring", "act", "cells", "found", "cell"]) (sc := defScope st__law_any_row) (by decide +kernel)) (fun _ _ _ _ _ _ => (g_name 5 sc__law_any_row.nd)) (fun _ _ _ _ _ _ => (ts_one (pt_cmpD op_gt k_gt (pd_op o_mul k_mul pd_int (pd_var 5)) (pd_var 3)))) (fun _ _ _ _ _ _ => (pd_var 5))))))
    q_nil) q_nil)
    (q_cons (s_set (i := 4) sc__law_any_row.nd (pd_if (pt_cmpD (op_neD (ru64 hr)) k_ne (pd_var 4) (pd_ofF (pd_lst pd_nil))) (pd_var 4) (pd_ofF (pd_lst (pd_cons (pd_callD (cl := cl) 0 G__law_roll (hr.mono (by decide)) rfl tk (pd_cons (pd_var 3) pd_nil)) pd_nil)))))
    (q_cons (s_ret (pd_callT call_tuple_of k_tuple B.tuple boot_tuple (pd_cons (pd_ofF (pd_ss rfl B.sorted B.set (pd_var 4) rfl)) pd_nil)))
    q_nil))))))) eq__law_any_row
abbrev st__law_spoilt : Stmt := topS 37
theorem sc__law_spoilt : FnScope ["dice", "text", "signs", "at", "act", "sign"] ["dice", "text", "signs"] (defScope st__law_spoilt) := ⟨rfl, rfl, rfl, by decide +kernel, rfl, by decide +kernel, by decide +kernel⟩
theorem ok__law_spoilt (cl : String → Addr) {f : Addr} {fd : FuncData} (F : Fun K "_law_spoilt" "_law_spoilt" st__law_spoilt f fd) (hm : mg "_law_spoilt" = some (.ref f)) (hb : Binds K fd ["dice", "text", "signs"] []) (B : Bt mg) (G__law_roll : FnD P w K mg base T "_law_roll" 3 1 g__law_roll) : FnD P w K mg base T "_law_spoilt" 4 2 g__law_spoilt :=
  FnD.imp (fnD (k := 3) (body := b__law_spoilt) F sc__law_spoilt hm hb cl T fun cdv A outer s H E S H0 dc W hr tk =>
    (q_cons (s_par2 (i := 3) (j := 4) sc__law_spoilt.nd (by decide) (pd_cons (pd_callD (cl := cl) 0 G__law_roll (hr.mono (by decide)) rfl tk (pd_cons (pd_op o_add k_add (pd_callB c_len k_len B.len PySem.boot_len (pd_cons (pd_var 1) pd_nil)) pd_int) pd_nil)) (pd_cons (pd_callD (cl := cl) 0 G__law_roll (hr.mono (by decide)) rfl tk (pd_cons pd_int pd_nil)) pd_nil)) rfl)
    (q_cons (s_set (i := 5) sc__law_spoilt.nd (pd_if (pt_cmpD (o_lt (ru0 hr)) k_lt (pd_var 4) pd_int) (pd_ixS (pd_var 2) (pd_callD (cl := cl) 0 G__law_roll (hr.mono (by decide)) rfl tk (pd_cons (pd_callB c_len k_len B.len PySem.boot_len (pd_cons (pd_var 2) pd_nil)) pd_nil))) pd_str))
    (q_cons (s_ret (pd_op o_add k_add (pd_op o_add k_add (pd_slS (pd_var 1) pd_none (pd_some (pd_var 3))) (pd_var 5)) (pd_slS (pd_var 1) (pd_some (pd_op o_add k_add (pd_var 3) (pd_callT call_int1 k_int B.int boot_int (pd_cons (pd_cmp op_gt k_gt (pd_var 4) pd_int) pd_nil)))) pd_none)))
    q_nil)))) eq__law_spoilt
abbrev st__law_far_texts : Stmt := topS 38
theorem sc__law_far_texts : FnScope ["ring", "page", "text", "cases", "bad"] ["ring", "page", "text"] (defScope st__law_far_texts) := ⟨rfl, rfl, rfl, by decide +kernel, rfl, by decide +kernel, by decide +kernel⟩
theorem ok__law_far_texts {f c Pt : Addr} {fd : FuncData} (F : Fun K "_law_far_texts" "_law_far_texts" st__law_far_texts f fd) (TB : TabOk K mg base T "_law_far_texts" st__law_far_texts f fd c Pt) (TO : ToldOk P w K mg base cl st__law_told) (hm : mg "_law_far_texts" = some (.ref f)) (hb : Binds K fd ["ring", "page", "text"] []) (B : Bt mg) (G_read_ring : FnP P w K mg base cl T "read_ring" 4 1 g_read_ring) (G_read_row : FnP P w K mg base cl T "read_row" 5 2 g_read_row) : FnP P w K mg base cl T "_law_far_texts" 8 3 g__law_far_texts :=
  FnP.imp (fnPL (k := 7) (body := b__law_far_texts) TB sc__law_far_texts hm F.kp hb cl fun A outer s H E S H0 dc W hr tk =>
    (q_cons (s_set (i := 3) sc__law_far_texts.nd (pd_ofF (pd_lst (pd_cons pd_non (pd_cons pd_int (pd_cons pd_bl (pd_cons pd_str (pd_cons (pd_op o_add k_add (pd_var 1) pd_str) (pd_cons (pd_slS (pd_var 1) (pd_some pd_int) pd_none) (pd_cons (pd_op op_mulS k_mulS pd_str (pd_ixB 0 pd_int rfl)) (pd_cons (pd_op op_mulS k_mulS pd_str (pd_ixB 0 pd_int rfl)) (pd_cons (pd_op o_add k_add (pd_var 1) pd_str) (pd_cons (pd_ofF (pd_lst (pd_cons (pd_var 1) pd_nil))) pd_nil)))))))))))))
    (q_cons (s_for (passes_of rfl) rfl (i_seq (pd_var 3) rfl) (g_name 4 sc__law_far_texts.nd) (q_cons (s_if (pt_cmpD (op_neD (ru64 hr)) k_ne (pe_told (cl := cl) (k := 4) TO TB.tb (by rfl) TB.hm TB.hu (hr.mono (by decide)) (by rfl) (by rfl) (lamS_by (sc := defScope st__law_far_texts) (by decide +kernel)) (by rfl) (by intro _ _ _ _ _; rfl) (fun _ _ _ _ _ _ _ _ hr tk => (pd_call G_read_row (hr.mono (by decide)) rfl tk (pd_cons (pd_var 0) (pd_cons (pd_var 4) pd_nil))))) (pd_tup (pd_cons pd_str (pd_cons pd_str pd_nil)))) (q_cons (s_ret pd_bl)
    q_nil) q_nil)
    q_nil))
    (q_cons (s_set (i := 3) sc__law_far_texts.nd (pd_ofF (pd_lst (pd_cons pd_non (pd_cons pd_int (pd_cons pd_bl (pd_cons pd_str (pd_cons (pd_op o_add k_add (pd_var 2) pd_str) (pd_cons (pd_op o_add k_add pd_str (pd_var 2)) (pd_cons pd_str (pd_cons pd_str pd_nil)))))))))))
    (q_cons (s_set (i := 3) sc__law_far_texts.nd (pd_op o_add k_add (pd_var 3) (pd_ofF (pd_lst (pd_cons pd_str (pd_cons pd_str (pd_cons pd_str (pd_cons pd_str pd_nil))))))))
    (q_cons (s_set (i := 3) sc__law_far_texts.nd (pd_op o_add k_add (pd_var 3) (pd_ofF (pd_lst (pd_cons (pd_ofF (pd_lst (pd_cons (pd_var 2) pd_nil))) pd_nil)))))
    (q_cons (s_for (passes_of rfl) rfl (i_seq (pd_var 3) rfl) (g_name 4 sc__law_far_texts.nd) (q_cons (s_if (pt_cmpD (op_neD (ru64 hr)) k_ne (pe_told (cl := cl) (k := 4) TO TB.tb (by rfl) TB.hm TB.hu (hr.mono (by decide)) (by rfl) (by rfl) (lamS_by (sc := defScope st__law_far_texts) (by decide +kernel)) (by rfl) (by intro _ _ _ _ _; rfl) (fun _ _ _ _ _ _ _ _ hr tk => (pd_call G_read_ring (hr.mono (by decide)) rfl tk (pd_cons (pd_var 4) pd_nil)))) (pd_tup (pd_cons pd_str (pd_cons pd_str pd_nil)))) (q_cons (s_ret pd_bl)
    q_nil) q_nil)
    q_nil))
    (q_cons (s_ret (pd_and (pd_cmp (op_eqD (ru64 hr)) k_eq (pd_call G_read_ring (hr.mono (by decide)) rfl tk (pd_cons pd_str pd_nil)) (pd_tup (pd_cons pd_int (pd_cons pd_int pd_nil)))) (pd_one (pd_cmp (op_eqD (ru64 hr)) k_eq (pd_call G_read_row (hr.mono (by decide)) rfl tk (pd_cons (pd_tup (pd_cons pd_int (pd_cons pd_int pd_nil))) (pd_cons pd_str pd_nil))) (pd_tup (pd_cons pd_int pd_nil))))))
    q_nil)))))))) eq__law_far_texts
end
end G8

set_option Elab.async false
set_option linter.all false
set_option maxRecDepth 100000
set_option maxHeartbeats 1000000
namespace G8
open PySem PySem.Spec PyProof.Rows L2
/-! ### working out a denotation -/
@[simp] theorem u_isInt_n  : PyData.isInt .none = false := rfl
@[simp] theorem u_isInt_b (b : Bool) : PyData.isInt (.bool b) = true := rfl
@[simp] theorem u_isInt_i (i : Int) : PyData.isInt (.int i) = true := rfl
@[simp] theorem u_isInt_s (x : Str) : PyData.isInt (.str x) = false := rfl
@[simp] theorem u_isInt_l (l : List D) : PyData.isInt (.list l) = false := rfl
@[simp] theorem u_isInt_t (l : List D) : PyData.isInt (.tuple l) = false := rfl
@[simp] theorem u_isBool_n  : PyData.isBool .none = false := rfl
@[simp] theorem u_isBool_b (b : Bool) : PyData.isBool (.bool b) = true := rfl
@[simp] theorem u_isBool_i (i : Int) : PyData.isBool (.int i) = false := rfl
@[simp] theorem u_isBool_s (x : Str) : PyData.isBool (.str x) = false := rfl
@[simp] theorem u_isBool_l (l : List D) : PyData.isBool (.list l) = false := rfl
@[simp] theorem u_isBool_t (l : List D) : PyData.isBool (.tuple l) = false := rfl
@[simp] theorem u_isTuple_n  : PyData.isTuple .none = false := rfl
@[simp] theorem u_isTuple_b (b : Bool) : PyData.isTuple (.bool b) = false := rfl
@[simp] theorem u_isTuple_i (i : Int) : PyData.isTuple (.int i) = false := rfl
@[simp] theorem u_isTuple_s (x : Str) : PyData.isTuple (.str x) = false := rfl
@[simp] theorem u_isTuple_l (l : List D) : PyData.isTuple (.list l) = false := rfl
@[simp] theorem u_isTuple_t (l : List D) : PyData.isTuple (.tuple l) = true := rfl
@[simp] theorem u_isList_n  : PyData.isList .none = false := rfl
@[simp] theorem u_isList_b (b : Bool) : PyData.isList (.bool b) = false := rfl
@[simp] theorem u_isList_i (i : Int) : PyData.isList (.int i) = false := rfl
@[simp] theorem u_isList_s (x : Str) : PyData.isList (.str x) = false := rfl
@[simp] theorem u_isList_l (l : List D) : PyData.isList (.list l) = true := rfl
@[simp] theorem u_isList_t (l : List D) : PyData.isList (.tuple l) = false := rfl
@[simp] theorem u_isStr_n  : PyData.isStr .none = false := rfl
@[simp] theorem u_isStr_b (b : Bool) : PyData.isStr (.bool b) = false := rfl
@[simp] theorem u_isStr_i (i : Int) : PyData.isStr (.int i) = false := rfl
@[simp] theorem u_isStr_s (x : Str) : PyData.isStr (.str x) = true := rfl
@[simp] theorem u_isStr_l (l : List D) : PyData.isStr (.list l) = false := rfl
@[simp] theorem u_isStr_t (l : List D) : PyData.isStr (.tuple l) = false := rfl
@[simp] theorem u_plain_n  : PyData.plain .none = true := by simp only [PyData.plain]
@[simp] theorem u_plain_b (b : Bool) : PyData.plain (.bool b) = true := by simp only [PyData.plain]
@[simp] theorem u_plain_i (i : Int) : PyData.plain (.int i) = true := by simp only [PyData.plain]
@[simp] theorem u_plain_s (x : Str) : PyData.plain (.str x) = true := by simp only [PyData.plain]
@[simp] theorem u_plain_l (l : List D) : PyData.plain (.list l) = PyData.plainAll l := by simp only [PyData.plain]
@[simp] theorem u_plain_t (l : List D) : PyData.plain (.tuple l) = PyData.plainAll l := by simp only [PyData.plain]
@[simp] theorem u_plainAll_n : PyData.plainAll [] = true := by simp only [PyData.plainAll]
@[simp] theorem u_plainAll_c (x : D) (xs : List D) : PyData.plainAll (x :: xs) = (PyData.plain x && PyData.plainAll xs) := by simp only [PyData.plainAll]
@[simp] theorem u_eqv_nn   : PyData.eqv .none .none = true := by simp only [PyData.eqv]
@[simp] theorem u_eqv_nb  (b2 : Bool) : PyData.eqv .none (.bool b2) = false := by simp only [PyData.eqv]
@[simp] theorem u_eqv_ni  (i2 : Int) : PyData.eqv .none (.int i2) = false := by simp only [PyData.eqv]
@[simp] theorem u_eqv_ns  (x2 : Str) : PyData.eqv .none (.str x2) = false := by simp only [PyData.eqv]
@[simp] theorem u_eqv_nl  (l2 : List D) : PyData.eqv .none (.list l2) = false := by simp only [PyData.eqv]
@[simp] theorem u_eqv_nt  (l2 : List D) : PyData.eqv .none (.tuple l2) = false := by simp only [PyData.eqv]
@[simp] theorem u_eqv_bn (b : Bool)  : PyData.eqv (.bool b) .none = false := by simp only [PyData.eqv]
@[simp] theorem u_eqv_bb (b : Bool) (b2 : Bool) : PyData.eqv (.bool b) (.bool b2) = (b == b2) := by simp only [PyData.eqv]
@[simp] theorem u_eqv_bi (b : Bool) (i2 : Int) : PyData.eqv (.bool b) (.int i2) = ((if b then 1 else 0) == i2) := by simp only [PyData.eqv]
@[simp] theorem u_eqv_bs (b : Bool) (x2 : Str) : PyData.eqv (.bool b) (.str x2) = false := by simp only [PyData.eqv]
@[simp] theorem u_eqv_bl (b : Bool) (l2 : List D) : PyData.eqv (.bool b) (.list l2) = false := by simp only [PyData.eqv]
@[simp] theorem u_eqv_bt (b : Bool) (l2 : List D) : PyData.eqv (.bool b) (.tuple l2) = false := by simp only [PyData.eqv]
@[simp] theorem u_eqv_in (i : Int)  : PyData.eqv (.int i) .none = false := by simp only [PyData.eqv]
@[simp] theorem u_eqv_ib (i : Int) (b2 : Bool) : PyData.eqv (.int i) (.bool b2) = (i == (if b2 then 1 else 0)) := by simp only [PyData.eqv]
@[simp] theorem u_eqv_ii (i : Int) (i2 : Int) : PyData.eqv (.int i) (.int i2) = (i == i2) := by simp only [PyData.eqv]
@[simp] theorem u_eqv_is (i : Int) (x2 : Str) : PyData.eqv (.int i) (.str x2) = false := by simp only [PyData.eqv]
@[simp] theorem u_eqv_il (i : Int) (l2 : List D) : PyData.eqv (.int i) (.list l2) = false := by simp only [PyData.eqv]
@[simp] theorem u_eqv_it (i : Int) (l2 : List D) : PyData.eqv (.int i) (.tuple l2) = false := by simp only [PyData.eqv]
@[simp] theorem u_eqv_sn (x : Str)  : PyData.eqv (.str x) .none = false := by simp only [PyData.eqv]
@[simp] theorem u_eqv_sb (x : Str) (b2 : Bool) : PyData.eqv (.str x) (.bool b2) = false := by simp only [PyData.eqv]
@[simp] theorem u_eqv_si (x : Str) (i2 : Int) : PyData.eqv (.str x) (.int i2) = false := by simp only [PyData.eqv]
@[simp] theorem u_eqv_ss (x : Str) (x2 : Str) : PyData.eqv (.str x) (.str x2) = (x == x2) := by simp only [PyData.eqv]
@[simp] theorem u_eqv_sl (x : Str) (l2 : List D) : PyData.eqv (.str x) (.list l2) = false := by simp only [PyData.eqv]
@[simp] theorem u_eqv_st (x : Str) (l2 : List D) : PyData.eqv (.str x) (.tuple l2) = false := by simp only [PyData.eqv]
@[simp] theorem u_eqv_ln (l : List D)  : PyData.eqv (.list l) .none = false := by simp only [PyData.eqv]
@[simp] theorem u_eqv_lb (l : List D) (b2 : Bool) : PyData.eqv (.list l) (.bool b2) = false := by simp only [PyData.eqv]
@[simp] theorem u_eqv_li (l : List D) (i2 : Int) : PyData.eqv (.list l) (.int i2) = false := by simp only [PyData.eqv]
@[simp] theorem u_eqv_ls (l : List D) (x2 : Str) : PyData.eqv (.list l) (.str x2) = false := by simp only [PyData.eqv]
@[simp] theorem u_eqv_ll (l : List D) (l2 : List D) : PyData.eqv (.list l) (.list l2) = PyData.eqvAll l l2 := by simp only [PyData.eqv]
@[simp] theorem u_eqv_lt (l : List D) (l2 : List D) : PyData.eqv (.list l) (.tuple l2) = false := by simp only [PyData.eqv]
@[simp] theorem u_eqv_tn (l : List D)  : PyData.eqv (.tuple l) .none = false := by simp only [PyData.eqv]
@[simp] theorem u_eqv_tb (l : List D) (b2 : Bool) : PyData.eqv (.tuple l) (.bool b2) = false := by simp only [PyData.eqv]
@[simp] theorem u_eqv_ti (l : List D) (i2 : Int) : PyData.eqv (.tuple l) (.int i2) = false := by simp only [PyData.eqv]
@[simp] theorem u_eqv_ts (l : List D) (x2 : Str) : PyData.eqv (.tuple l) (.str x2) = false := by simp only [PyData.eqv]
@[simp] theorem u_eqv_tl (l : List D) (l2 : List D) : PyData.eqv (.tuple l) (.list l2) = false := by simp only [PyData.eqv]
@[simp] theorem u_eqv_tt (l : List D) (l2 : List D) : PyData.eqv (.tuple l) (.tuple l2) = PyData.eqvAll l l2 := by simp only [PyData.eqv]
@[simp] theorem u_eqvAll_nn : PyData.eqvAll [] [] = true := by simp only [PyData.eqvAll]
@[simp] theorem u_eqvAll_cn (x : D) (xs : List D) : PyData.eqvAll (x :: xs) [] = false := by simp only [PyData.eqvAll]
@[simp] theorem u_eqvAll_nc (x : D) (xs : List D) : PyData.eqvAll [] (x :: xs) = false := by simp only [PyData.eqvAll]
@[simp] theorem u_eqvAll_cc (x y : D) (xs ys : List D) : PyData.eqvAll (x :: xs) (y :: ys) = (PyData.eqv x y && PyData.eqvAll xs ys) := by simp only [PyData.eqvAll]
@[simp] theorem gSub_int (i j : Int) : gSub (.int i) (.int j) = some (.int (i - j)) := rfl
@[simp] theorem gLe_int (i j : Int) : gLe (.int i) (.int j) = some (.bool (decide (i ≤ j))) := rfl
@[simp] theorem gGt_int (i j : Int) : gGt (.int i) (.int j) = some (.bool (decide (j < i))) := rfl
@[simp] theorem gGe_int (i j : Int) : gGe (.int i) (.int j) = some (.bool (decide (j ≤ i))) := rfl
@[simp] theorem gLt_int (i j : Int) : gLt (.int i) (.int j) = some (.bool (decide (i < j))) := rfl
@[simp] theorem plain_ints (ns : List Int) : PyData.plainAll (ns.map .int) = true := by
  induction ns with
  | nil => rfl
  | cons n r ih => simp [PyData.plainAll, PyData.plain, ih]
abbrev rg (n r : Int) : D := .tuple [.int n, .int r]
section
variable {α : Type} {a b c : α} {l : List α}
@[simp] theorem atI_0 : atI (a :: l) 0 = some a := by simp [atI, ixN]
@[simp] theorem atI_1 : atI (a :: b :: l) 1 = some b := by
  unfold atI ixN
  rw [if_pos (by decide), if_pos (by simp only [List.length_cons]; omega)]
  rfl
theorem atI_nat {i : Nat} (h : i < l.length) : atI l (i : Int) = some l[i] := by
  unfold atI ixN
  rw [if_pos (by omega)]
  simp [h]
theorem atI_int {i : Int} (h0 : 0 ≤ i) (h : i.toNat < l.length) : atI l i = some l[i.toNat] := by
  unfold atI ixN
  rw [if_pos h0, if_pos (by omega)]
  simp [h]
end
theorem okR_s {i : Int} (h : -4000000000000000000 ≤ i) (h2 : i ≤ 4000000000000000000) : okR i = true := cdec_iff.mpr ⟨h, h2⟩
theorem okRg_s {i j : Int} (h : -4000000000000000000 ≤ i) (h2 : i ≤ 4000000000000000000) (h3 : -4000000000000000000 ≤ j) (h4 : j ≤ 4000000000000000000) (h5 : j - i ≤ 10000) : okRg i j = true :=
  cdec_iff.mpr ⟨h, h2, h3, h4, h5⟩
@[simp] theorem canLay_ints (ns : List Int) : PyData.canLayAll0 (ns.map .int) = true := by
  induction ns with
  | nil => rfl
  | cons n r ih => simp [PyData.canLayAll0, PyData.canLay0, ih]
theorem depth_ints (ns : List Int) : PyData.depthAll (ns.map .int) = 0 := by
  induction ns with
  | nil => rfl
  | cons n r ih => simp [PyData.depthAll, PyData.depth, ih]
@[simp] theorem sh_int (i : Int) : SeqAt.shaped (.int i) = true := rfl
@[simp] theorem sh_bool (i : Bool) : SeqAt.shaped (.bool i) = true := rfl
@[simp] theorem sh_ints (ns : List Int) : SeqAt.shaped (.tuple (ns.map .int)) = true := by simp [SeqAt.shaped, PyData.canLay0, PyData.depth, depth_ints]
@[simp] theorem sh_intsL (ns : List Int) : SeqAt.shaped (.list (ns.map .int)) = true := by simp [SeqAt.shaped, PyData.canLay0, PyData.depth, depth_ints]
@[simp] theorem sh_t0 : SeqAt.shaped (.tuple []) = true := rfl
@[simp] theorem sh_l0 : SeqAt.shaped (.list []) = true := rfl
@[simp] theorem sh_t2 (i j : Int) : SeqAt.shaped (.tuple [.int i, .int j]) = true := rfl
@[simp] theorem gEq_int (i j : Int) : gEq (.int i) (.int j) = some (.bool (decide (i = j))) := by simp [gEq]; rfl
@[simp] theorem gNe_int (i j : Int) : gNe (.int i) (.int j) = some (.bool (!decide (i = j))) := by simp [gNe]; rfl
@[simp] theorem gMin_int (i j : Int) : gMin [.int i, .int j] = some (.int (min i j)) := by
  show some (PyData.int (if j < i then j else i)) = _
  congr 2
  rw [Int.min_def]
  split <;> split <;> omega
@[simp] theorem gMax_int (i j : Int) : gMax [.int i, .int j] = some (.int (max i j)) := by
  show some (PyData.int (if j > i then j else i)) = _
  congr 2
  rw [Int.max_def]
  split <;> split <;> omega
@[simp] theorem gSum_t (ns : List Int) : gSum [.tuple (ns.map .int)] = some (.int ns.sum) := by simp [gSum]
@[simp] theorem gSum_l (ns : List Int) : gSum [.list (ns.map .int)] = some (.int ns.sum) := by simp [gSum]
theorem gMul_l {i j : Int} (h : -10000000000000000000 ≤ i) (h2 : i ≤ 10000000000000000000) : gMul (.int i) (.int j) = some (.int (i * j)) := by
  show (if _ then _ else _) = _
  rw [if_pos (cdec_iff.mpr (.inl (.inl ⟨h, h2⟩)))]
theorem gMul_r {i j : Int} (h : -10000000000000000000 ≤ j) (h2 : j ≤ 10000000000000000000) : gMul (.int i) (.int j) = some (.int (i * j)) := by
  show (if _ then _ else _) = _
  rw [if_pos (cdec_iff.mpr (.inl (.inr ⟨h, h2⟩)))]
theorem gMul_w {i j : Int} (h : i.natAbs ≤ 10000000000000000000000000000000000000000000000000000000000000000000000000000000000000000000000000000) (h2 : j.natAbs ≤ 10000000000000000000000000000000000000000000000000000000000000000000000000000000000000000000000000000) : gMul (.int i) (.int j) = some (.int (i * j)) := by
  show (if _ then _ else _) = _
  rw [if_pos (cdec_iff.mpr (.inr ⟨h, h2⟩))]
theorem gDiv_s {i j : Int} (h : 0 < j) (h2 : j ≤ 10000000000000000000000000000000000000000000000000000000000000000000000000000000000000000000000000000) : gDiv (.int i) (.int j) = some (.int (i / j)) := by
  show (if _ then _ else _) = _
  rw [if_pos (cdec_iff.mpr ⟨h, h2⟩)]
theorem gMod_int {i j : Int} (h : 0 < j) : gMod (.int i) (.int j) = some (.int (i % j)) := by
  show (if _ then _ else _) = _
  rw [if_pos h]
/-- one turn of a comprehension -/
def lc1 (td : TgD) (tst elt : DE) (ρ : Rho) (d : D) (δ : Dl) (o : Option D) : Prop := ∃ ρ1, td d ρ = some ρ1 ∧ match o with
  | some y => tst ρ1 δ = some (.ok (.bool true), δ) ∧ elt ρ1 δ = some (.ok y, δ)
  | none => tst ρ1 δ = some (.ok (.bool false), δ)
theorem lcD_filterMap {α : Type} {td : TgD} {tst elt : DE} {ρ : Rho} {δ : Dl} {h : α → D} {e : α → Option D} : ∀ {xs : List α}, (∀ x ∈ xs, lc1 td tst elt ρ (h x) δ (e x)) → lcD td tst elt ρ (xs.map h) δ = some (.ok (xs.filterMap e), δ)
  | [], _ => rfl
  | x :: xs, H => by
    obtain ⟨ρ1, h1, h2⟩ := H x (List.mem_cons_self ..)
    have ih := lcD_filterMap fun y hy => H y (List.mem_cons_of_mem _ hy)
    simp only [List.map_cons, lcD, h1]
    cases ex : e x with
    | none =>
      rw [ex] at h2
      simp only at h2
      simp only [h2, ih, List.filterMap_cons, ex]
    | some y =>
      rw [ex] at h2
      simp only at h2
      simp only [h2.1, h2.2, ih, List.filterMap_cons, ex, bnd]
theorem lcD_map {α : Type} {td : TgD} {tst elt : DE} {ρ : Rho} {δ : Dl} {h e : α → D} {xs : List α} (H : ∀ x ∈ xs, lc1 td tst elt ρ (h x) δ (some (e x))) : lcD td tst elt ρ (xs.map h) δ = some (.ok (xs.map e), δ) := by
  rw [lcD_filterMap H, List.filterMap_eq_map']
/-- one turn of a loop that only goes on -/
theorem forD_inv {α : Type} {td : TgD} {body : DS} {h : α → D} (R : List α → Rho → Dl → Prop) (δ' : Dl) : ∀ (xs : List α) (ρ : Rho) (δ : Dl), R xs ρ δ →
    (∀ x xs ρ δ, R (x :: xs) ρ δ → ∃ ρ1 ρ2 δ2, td (h x) ρ = some ρ1 ∧ body ρ1 δ = some (.nx ρ2, δ2) ∧ R xs ρ2 δ2) → ∃ ρ2 δ2, forD td body (xs.map h) ρ δ = some (.nx ρ2, δ2) ∧ R [] ρ2 δ2
  | [], ρ, δ, H, _ => ⟨ρ, δ, rfl, H⟩
  | x :: xs, ρ, δ, H, hs => by
    obtain ⟨ρ1, ρ2, δ2, h1, h2, h3⟩ := hs x xs ρ δ H
    obtain ⟨ρ3, δ3, h4, h5⟩ := forD_inv R δ' xs ρ2 δ2 h3 hs
    exact ⟨ρ3, δ3, by simp only [List.map_cons, forD, h1, h2, h4], h5⟩
end G8

set_option Elab.async false
set_option linter.all false
set_option maxRecDepth 100000
set_option maxHeartbeats 2000000
namespace G8
open PySem PySem.Spec PyProof.Rows L2 LamX L2H
theorem sc__law_term : FnScope ["e", "flags", "kinds", "flag"] ["e"] (defScope st__law_term) := ⟨rfl, rfl, rfl, by decide +kernel, rfl, by decide +kernel, by decide +kernel⟩
theorem sc__law_told : FnScope ["deed", "e"] ["deed"] (defScope st__law_told) := ⟨rfl, rfl, rfl, by decide +kernel, rfl, by decide +kernel, by decide +kernel⟩
/-- the flags of a refusal of the class x -/
abbrev bAt (x : String) (y : String) : V := .bl (decide (x = y))
theorem flags_of (x : String) (h : x ∈ excN) : ∃ (bs : List Bool) (j : Nat), [bAt x "BadRing", bAt x "BadRow", bAt x "BadNumber", bAt x "BadCell", bAt x "BadLooks", bAt x "Nothing", bAt x "Full", bAt x "BadText", bAt x "BadShuts"] = bs.map V.bl ∧ (bs.map fun b => if b = true then (1 : Int) else 0).sum = 1 ∧
    bs.length = 9 ∧ bs[j]? = some true ∧ (∀ m, m < j → bs[m]? = some false) ∧ ([V.str "BadRing", V.str "BadRow", V.str "BadNumber", V.str "BadCell", V.str "BadLooks", V.str "Nothing", V.str "Full", V.str "BadText", V.str "BadShuts"])[j]? = some (V.str (Str.ofString x)) := by
  simp only [excN, List.mem_cons, List.not_mem_nil, or_false] at h
  rcases h with rfl | rfl | rfl | rfl | rfl | rfl | rfl | rfl | rfl
  · exact ⟨[true, false, false, false, false, false, false, false, false], 0, by decide, by decide, rfl, rfl, by decide, rfl⟩
  · exact ⟨[false, true, false, false, false, false, false, false, false], 1, by decide, by decide, rfl, rfl, by decide, rfl⟩
  · exact ⟨[false, false, true, false, false, false, false, false, false], 2, by decide, by decide, rfl, rfl, by decide, rfl⟩
  · exact ⟨[false, false, false, true, false, false, false, false, false], 3, by decide, by decide, rfl, rfl, by decide, rfl⟩
  · exact ⟨[false, false, false, false, true, false, false, false, false], 4, by decide, by decide, rfl, rfl, by decide, rfl⟩
  · exact ⟨[false, false, false, false, false, true, false, false, false], 5, by decide, by decide, rfl, rfl, by decide, rfl⟩
  · exact ⟨[false, false, false, false, false, false, true, false, false], 6, by decide, by decide, rfl, rfl, by decide, rfl⟩
  · exact ⟨[false, false, false, false, false, false, false, true, false], 7, by decide, by decide, rfl, rfl, by decide, rfl⟩
  · exact ⟨[false, false, false, false, false, false, false, false, true], 8, by decide, by decide, rfl, rfl, by decide, rfl⟩
section
variable {P : Program} {w : World} {K : Fg} {mg : Str → Option Value} {base : Heap} {cl : String → Addr}
theorem ok__law_term {f : Addr} {fd : FuncData} (F : Fun K "_law_term" "_law_term" st__law_term f fd) (hb : Binds K fd ["e"] []) (B : Bt mg) (mi : mg "ValueError" = none) (XS : Xs K mg cl excN) : TermOk P w K mg base cl f := by
  intro X hP hw hK hmg hbase p x pins s σ H Q hot hp hz hx hr I q
  subst hP hw hK hmg hbase
  have hd : ∃ vs, p.2.data = .fields vs := by
    obtain ⟨_, vs, h, _⟩ := hot
    exact ⟨vs, h⟩
  refine run_hot (k := 1) hot hp F sc__law_term hr hb I (vs := [.ref p.1]) (.cons rfl .nil) rfl fun cdv hr1 => ?_
  generalize hY : cxH (L2N.CX X.prog X.w) X.prog X.w X.K X.mg X.base ["e", "flags", "kinds", "flag"] "_law_term" (defScope st__law_term) f cdv X.A X.stack s H (fun _ _ _ => False) p = Y
  have hotY : HotC Y := by subst hY; exact ⟨p, hot, List.mem_singleton.mpr rfl⟩
  have hpY : p ∈ Y.pn := by subst hY; exact List.mem_singleton.mpr rfl
  have eK : Y.K = X.K := by subst hY; rfl
  have cI : CallR Y (.builtin "isinstance") (rIsE X.K (cl x) p.1) := by subst hY; exact call_isH (List.mem_singleton.mpr rfl) (XS.xc x hx).c hz hd
  subst hY
  have is : ∀ (y : String) (hy : y ∈ excN) {p1 p2 p3 pos : Pos} (hg : Gl (cxH (L2N.CX X.prog X.w) X.prog X.w X.K X.mg X.base ["e", "flags", "kinds", "flag"] "_law_term" (defScope st__law_term) f cdv X.A X.stack s H (fun _ _ _ => False) p) (Str.ofString y)) (hdb : (Str.ofString y == ("__debug__" : Str)) = false),
      PE (cxH (L2N.CX X.prog X.w) X.prog X.w X.K X.mg X.base ["e", "flags", "kinds", "flag"] "_law_term" (defScope st__law_term) f cdv X.A X.stack s H (fun _ _ _ => False) p) (.Call (.Name "isinstance" p1) [.Name "e" p2, .Name (Str.ofString y) p3] [] pos) (fun σ H Q => σ[0]? = some (some (.ref p.1)) ∧ Q (bAt x y) H) := fun y hy p1 p2 p3 pos hg hdb =>
    (pe_callB cI (by rfl) B.isinstance PyProof.Rows.boot_isinstance (pa_cons (pv 0) (pa_cons (pe_glob (v := .ref (cl y)) hg (XS.xc y hy).g rfl hdb) pa_nil))).imp fun σ H Q ⟨h1, h2⟩ => ⟨.ref p.1, h1, .ref (cl y), .ref (cl y), _, rfl, fun u r => r, XS.one x hx y hy, h2⟩
  have isV : ∀ {p1 p2 p3 pos : Pos}, PE (cxH (L2N.CX X.prog X.w) X.prog X.w X.K X.mg X.base ["e", "flags", "kinds", "flag"] "_law_term" (defScope st__law_term) f cdv X.A X.stack s H (fun _ _ _ => False) p) (.Call (.Name "isinstance" p1) [.Name "e" p2, .Name "ValueError" p3] [] pos) (fun σ H Q => σ[0]? = some (some (.ref p.1)) ∧ Q (.bl true) H) := fun {p1 p2 p3 pos} =>
    (pe_callB cI (by rfl) B.isinstance PyProof.Rows.boot_isinstance (pa_cons (pv 0) (pa_cons (pe_bltn (v := .ty "ValueError") (by rfl) mi (by decide +kernel) rfl) pa_nil))).imp fun σ H Q ⟨h1, h2⟩ => ⟨.ref p.1, h1, .ty "ValueError", .type "ValueError", true, rfl, fun u r => r, (XS.xc x hx).ve, h2⟩
  have lc : ∀ {elt : Expr} {scope : Scope} {px py pos : Pos} {te : TE}, BlkOk ["e", "flags", "kinds", "flag"] (defScope st__law_term) scope [("flag", 3)] →
      (∀ (s1 : Shared) (H1 : Hp) (C : Addr) (cl : List (Str × Addr)) (fp : List Addr), PG ((cxH (L2N.CX X.prog X.w) X.prog X.w X.K X.mg X.base ["e", "flags", "kinds", "flag"] "_law_term" (defScope st__law_term) f cdv X.A X.stack s H (fun _ _ _ => False) p).blk s1 H1 scope (compEnvC scope cl C (envOfC "_law_term" (defScope st__law_term) s.heap.objs.size f cdv)) fp) (.Name "flag" px) (gName 3) ∧
        PE ((cxH (L2N.CX X.prog X.w) X.prog X.w X.K X.mg X.base ["e", "flags", "kinds", "flag"] "_law_term" (defScope st__law_term) f cdv X.A X.stack s H (fun _ _ _ => False) p).blk s1 H1 scope (compEnvC scope cl C (envOfC "_law_term" (defScope st__law_term) s.heap.objs.size f cdv)) fp) elt te) →
      (∀ σ H Q b, σ[3]? = some (some (V.bl b)) → Q (.int (if b = true then 1 else 0)) H → te σ H Q) →
      PE (cxH (L2N.CX X.prog X.w) X.prog X.w X.K X.mg X.base ["e", "flags", "kinds", "flag"] "_law_term" (defScope st__law_term) f cdv X.A X.stack s H (fun _ _ _ => False) p) (.ListComp elt [⟨.Name "flag" px, .Name "flags" py, [], 0⟩] scope pos)
        (fun σ H Q => ∃ (a : Addr) (bs : List Bool), σ[1]? = some (some (.ref a)) ∧ H a = some (.lst (bs.map V.bl)) ∧ bs.length ≤ 1000 ∧ ∀ D, H D = none → Q (.ref D) (upd H D (.lst ((bs.map fun b => if b = true then (1 : Int) else 0).map V.int)))) := fun {elt scope px py pos te} ok he hte =>
    ⟨fun pins s2 σ2 H2 Q2 I2 ⟨a, bs, h1, h2, h3, h4⟩ => lc_hot (X := cxH (L2N.CX X.prog X.w) X.prog X.w X.K X.mg X.base ["e", "flags", "kinds", "flag"] "_law_term" (defScope st__law_term) f cdv X.A X.stack s H (fun _ _ _ => False) p) (p := p) (g := fun v => match v with | .bl b => .int (if b = true then 1 else 0) | v => v) hot (List.mem_singleton.mpr rfl) sc__law_term.nd I2 (j := 1) (fl := 3) rfl (.inl rfl) ok rfl he
      (fun σ H Q v hv h5 h6 => by
        obtain ⟨b, _, rfl⟩ := List.mem_map.mp hv
        exact hte σ H Q b h5 h6) h1 h2 (by rw [List.length_map]; exact h3) fun D hD => by
          have := h4 D hD
          rw [List.map_map] at this ⊢
          exact this⟩
  refine ⟨_, pss_cons (ps_set (i := 1) sc__law_term.nd rfl (.inl rfl) (pe_lst (pa_cons (is "BadRing" (by decide) rfl (by decide)) (pa_cons (is "BadRow" (by decide) rfl (by decide)) (pa_cons (is "BadNumber" (by decide) rfl (by decide)) (pa_cons (is "BadCell" (by decide) rfl (by decide)) pa_nil))))))
    (pss_cons (ps_set (i := 1) sc__law_term.nd rfl (.inl rfl) (pe_op op_cat (pv 1) (pe_lst (pa_cons (is "BadLooks" (by decide) rfl (by decide)) (pa_cons (is "Nothing" (by decide) rfl (by decide)) (pa_cons (is "Full" (by decide) rfl (by decide)) (pa_cons (is "BadText" (by decide) rfl (by decide)) pa_nil)))))))
    (pss_cons (ps_expr (pe_bm PySem.F.plainAttrs_list PySem.F.slot_list_append PySem.F.type_list_append mt_append (pv 1) (pa_cons (is "BadShuts" (by decide) rfl (by decide)) pa_nil)))
    (pss_cons (ps_set (i := 2) sc__law_term.nd rfl (.inl rfl) (pe_lst (pa_cons pe_str (pa_cons pe_str (pa_cons pe_str (pa_cons pe_str (pa_cons pe_str (pa_cons pe_str (pa_cons pe_str (pa_cons pe_str (pa_cons pe_str pa_nil)))))))))))
    (pss_cons (ps_if (L2.PW.pt (pw_or (pt_cmpR op_ne (pe_callB (cr_sumH hotY) (by rfl) B.sum boot_sum (pa_cons (lc (blkOk_by (by decide +kernel)) (fun _ _ _ _ _ => ⟨pg_name sc__law_term.nd rfl (.inl rfl) (.inr rfl), pe_callTy call_int1 (by rfl) B.int boot_int (pa_cons (pv 3) pa_nil)⟩) (fun σ H Q b h1 h2 => ⟨.bl b, h1, .inr ⟨b, rfl, h2⟩⟩)) pa_nil)) pe_int (nomark _)) (pw_or1 (pt_not (pt_val isV)))))
      (pss_one (ps_ret (pe_tup (pa_cons pe_str (pa_cons pe_str pa_nil))))) pss_nil)
    (pss_one (ps_ret (pe_tup (pa_cons pe_str (pa_cons (pe_ix ix_list (pv 2) (pe_bm PySem.F.plainAttrs_list PySem.F.slot_list_index PySem.F.type_list_index mt_index (pv 1) (pa_cons pe_bl pa_nil)) (fun _ _ => rfl)) pa_nil))))))))), ?_⟩
  obtain ⟨bs, j, eb, hsum, hlen, hj, hm, hk⟩ := flags_of x hx
  have sz : ∀ {n : Nat}, n ≤ 1000 → n < sizeLine := fun h => small1000 h
  refine ⟨rfl, rfl, rfl, rfl, Nat.le_of_lt (sz (by simp)), fun a1 n1 => ?_⟩
  refine ⟨.ref a1, rfl, rfl, rfl, rfl, rfl, Nat.le_of_lt (sz (by simp)), fun a2 n2 => ?_⟩
  have d12 : a1 ≠ a2 := ne_of_none upd_same n2
  refine ⟨a1, a2, _, _, rfl, rfl, (upd_ne d12).trans upd_same, upd_same, Nat.le_of_lt (sz (by simp)), fun a3 n3 => ?_⟩
  refine ⟨.ref a3, rfl, .inl ⟨rfl, _, .inl (.inl upd_same)⟩, rfl, a3, _, _, rfl, rfl, upd_same, sz (by simp), ?_⟩
  generalize h8 : upd (upd (upd H a1 (.lst [bAt x "BadRing", bAt x "BadRow", bAt x "BadNumber", bAt x "BadCell"])) a2 (.lst [bAt x "BadLooks", bAt x "Nothing", bAt x "Full", bAt x "BadText"])) a3 (.lst ([bAt x "BadRing", bAt x "BadRow", bAt x "BadNumber", bAt x "BadCell"] ++ [bAt x "BadLooks", bAt x "Nothing", bAt x "Full", bAt x "BadText"])) = H8
  have s8 : Same H H8 := by
    rw [← h8]
    exact ((same_new n1).trans (same_new n2)).trans (same_new n3)
  have n3H : H a3 = none := by
    cases e : H a3 with
    | none => rfl
    | some o => rw [(same_new n2) _ _ ((same_new n1) _ _ e)] at n3; cases n3
  show _ ≤ sizeLine ∧ _
  refine ⟨Nat.le_of_lt (sz (by simp)), fun a4 n4 => ?_⟩
  rw [show [bAt x "BadRing", bAt x "BadRow", bAt x "BadNumber", bAt x "BadCell"] ++ [bAt x "BadLooks", bAt x "Nothing", bAt x "Full", bAt x "BadText"] ++ [bAt x "BadShuts"] = bs.map V.bl from eb] at n4 ⊢
  have d34 : a3 ≠ a4 := ne_of_none upd_same n4
  have s9 : Same H (upd (upd H8 a3 (.lst (bs.map V.bl))) a4 (.lst [V.str "BadRing", V.str "BadRow", V.str "BadNumber", V.str "BadCell", V.str "BadLooks", V.str "Nothing", V.str "Full", V.str "BadText", V.str "BadShuts"])) := fun b o e => by
    have e8 := s8 b o e
    have h3 : b ≠ a3 := ne_of_none e n3H
    have h4 : b ≠ a4 := ne_of_none ((upd_ne h3).trans e8) n4
    rw [upd_ne h4, upd_ne h3]
    exact e8
  generalize h9 : upd (upd H8 a3 (.lst (bs.map V.bl))) a4 (.lst [V.str "BadRing", V.str "BadRow", V.str "BadNumber", V.str "BadCell", V.str "BadLooks", V.str "Nothing", V.str "Full", V.str "BadText", V.str "BadShuts"]) = H9 at s9
  have g3 : H9 a3 = some (.lst (bs.map V.bl)) := by rw [← h9, upd_ne d34, upd_same]
  have g4 : H9 a4 = some (.lst [V.str "BadRing", V.str "BadRow", V.str "BadNumber", V.str "BadCell", V.str "BadLooks", V.str "Nothing", V.str "Full", V.str "BadText", V.str "BadShuts"]) := by rw [← h9, upd_same]
  refine ⟨a3, bs, rfl, g3, by omega, fun D nD => ⟨D, _, rfl, upd_same, rfl, _, rfl, ?_⟩⟩
  have s10 : Same H9 (upd H9 D (.lst ((bs.map fun b => if b = true then (1 : Int) else 0).map V.int))) := same_new nD
  rw [hsum]
  show (if (!decide (V.int 1 = V.int 1)) = true then _ else _)
  rw [if_neg (by simp)]
  refine ⟨rfl, true, rfl, ?_⟩
  show (if (!true) = true then _ else _)
  rw [if_neg (by simp)]
  have g3' := s10 _ _ g3
  have g4' := s10 _ _ g4
  refine ⟨.ref a4, rfl, .ref a3, rfl, .inl ⟨rfl, _, .inl (.inl g3')⟩, a3, bs.map V.bl, .bl true, j, .bl true, rfl, rfl, .inl (.inl g3'), rfl, ?_, by rw [List.getElem?_map, hj]; rfl, rfl, fun m z' hm' hz' => ?_, a4, _, (j : Int), V.str (Str.ofString x), rfl, rfl, .inl (.inl g4'), ?_, Nat.le_of_lt (sz (by simp)), fun b nb => ?_⟩
  · rw [List.all_eq_true]
    intro v hv
    obtain ⟨b, _, rfl⟩ := List.mem_map.mp hv
    rfl
  · rw [List.getElem?_map, hm m hm'] at hz'
    cases hz'
    rfl
  · have hl : j < 9 := by
      have := (List.getElem?_eq_some_iff.mp hk).1
      simpa using this
    rw [G8.atI_nat (by simpa using hl)]
    rw [List.getElem?_eq_getElem (by simpa using hl)] at hk
    exact hk
  · exact q b _ (fun c o e => (same_new nb) _ _ (s10 _ _ (s9 _ _ e))) upd_same
end
end G8

set_option Elab.async false
set_option linter.all false
set_option maxRecDepth 100000
set_option maxHeartbeats 1000000
namespace G8
open PySem PySem.Spec PyProof.Rows L2 LamX
section
variable {P : Program} {w : World} {K : Fg} {mg : Str → Option Value} {base : Heap} {cl : String → Addr} {T : List (Addr × Str)}
abbrev st__law_cell : Stmt := topS 29
theorem sc__law_cell : FnScope ["script", "k"] ["script", "k"] (defScope st__law_cell) := ⟨rfl, rfl, rfl, by decide +kernel, rfl, by decide +kernel, by decide +kernel⟩
/-- some whole number -/
def spCell (K : Fg) : Sp := fun vs H Q _ => ∃ (a : Addr) (ns : List Int) (k : Int), vs = [.ref a, .int k] ∧ SqL K H a (ns.map V.int) ∧ ns.length ≤ 63 ∧ 0 ≤ k ∧ k ≤ 1000 ∧ ∀ c H', Same H H' → Q (.int c) H'
theorem ok__law_cell {f : Addr} {fd : FuncData} (F : Fun K "_law_cell" "_law_cell" st__law_cell f fd) (B : Bt mg) : FnOk P w K mg base CX0 2 f fd ["script", "k"] (spCell K) := by
  refine F.ok sc__law_cell (fun vs H Q E h => ?_) (fun cdv A outer s H vs Q E hr h => ?_)
  · obtain ⟨a, ns, k, rfl, _⟩ := h
    rfl
  · obtain ⟨a, ns, k, rfl, hS, hlen, k0, k1, q⟩ := h
    refine ⟨_, pss_cons (ps_if (pt_cmpR (op_eqD (ru64 hr)) (pv 0) (pe_lst pa_nil) (nomark _)) (pss_one (ps_ret (pe_op op_mul (pv 1) pe_int))) pss_nil)
      (pss_one (ps_ret (pe_op op_add (pe_ix ix_list (pv 0) (pe_op op_mod (pv 1) (pe_callB call_len_seq (by rfl) B.len PySem.boot_len (pa_cons (pv 0) pa_nil))) (fun _ _ => rfl))
        (pe_op op_mul (pe_op op_fdiv (pv 1) (pe_callB call_len_seq (by rfl) B.len PySem.boot_len (pa_cons (pv 0) pa_nil))) pe_int)))), ?_⟩
    refine ⟨.ref a, rfl, Nat.zero_le _, fun o no => ?_⟩
    have s1 : Same H (upd H o (.lst [])) := same_new no
    have hA : SqL K (upd H o (.lst [])) a (ns.map V.int) := s1.seq hS
    refine ⟨.list (ns.map .int), .list [], .lst hA (RepL.dp (S := fun _ => True) (repL_of_ints ns) (canLay_ints ns)), .lst (.inl (.inl upd_same)) .nil, sh_intsL ns, rfl, _, rfl, ite2 (fun e => ?_) (fun e => ?_)⟩
    · refine ⟨.int k, rfl, k, 7919, rfl, rfl, .inr (by decide), q _ _ s1⟩
    · have hne : ns ≠ [] := fun z => by
        subst z
        exact e rfl
      have hl : 0 < ns.length := List.length_pos_iff.mpr hne
      have hm0 : 0 ≤ k % (ns.length : Int) := Int.emod_nonneg _ (by omega)
      have hm1 : k % (ns.length : Int) < ns.length := Int.emod_lt_of_pos _ (by omega)
      have hat : atI (ns.map V.int) (k % ((ns.map V.int).length : Nat)) = some (.int (ns.getD (k % (ns.length : Int)).toNat 0)) := by
        rw [List.length_map, G8.atI_int hm0 (by rw [List.length_map]; omega)]
        simp [List.getD, show (k % (ns.length : Int)).toNat < ns.length by omega]
      have hl2 : ((ns.map V.int).length : Int) = ns.length := by rw [List.length_map]
      have hd : 0 ≤ k / ((ns.map V.int).length : Int) ∧ k / ((ns.map V.int).length : Int) ≤ 1000 := by
        rw [hl2]
        exact ⟨Int.ediv_nonneg k0 (by omega), Int.le_trans (Int.ediv_le_self _ k0) k1⟩
      refine ⟨.ref a, rfl, .int k, rfl, .ref a, rfl, a, ns.map V.int, rfl, .inl hA, k, _, rfl, rfl, by omega, a, _, _, _, rfl, rfl, hA, hat, .int k, rfl, .ref a, rfl, a, ns.map V.int, rfl, .inl hA, k, _, rfl, rfl, ⟨by omega, by omega⟩, _, 104729, rfl, rfl, .inr (by decide), _, _, rfl, rfl, q _ _ s1⟩
abbrev st__law_rounds : Stmt := topS 32
theorem sc__law_rounds : FnScope ["script", "high", "k"] ["script", "high"] (defScope st__law_rounds) := ⟨rfl, rfl, rfl, by decide +kernel, rfl, by decide +kernel, by decide +kernel⟩
/-- a new list of new pairs of numbers -/
def spRounds (K : Fg) : Sp := fun vs H Q _ => ∃ (a : Addr) (ns : List Int) (hi : Int), vs = [.ref a, .int hi] ∧ SqL K H a (ns.map V.int) ∧ ns.length ≤ 63 ∧ 1 ≤ hi ∧ hi ≤ 63 ∧
  ∀ (p : Addr) (ps : List Addr) (H' : Hp), Same H H' → H p = none → H' p = some (.lst (ps.map V.ref)) → ps.Nodup → (∀ q ∈ ps, q ≠ p ∧ H q = none ∧ ∃ c, H' q = some (.lst [.int c, .int 0])) → Q (.ref p) H'
theorem ok__law_rounds {f g : Addr} {fd gd : FuncData} (F : Fun K "_law_rounds" "_law_rounds" st__law_rounds f fd) (G : Fun K "_law_cell" "_law_cell" st__law_cell g gd) (gb : Binds K gd ["script", "k"] []) (gm : mg "_law_cell" = some (.ref g)) (B : Bt mg) :
    FnOk P w K mg base CX0 3 f fd ["script", "high"] (spRounds K) := by
  have GC : FnOk P w K mg base CX0 2 g gd ["script", "k"] (spCell K) := ok__law_cell G B
  refine F.ok sc__law_rounds (fun vs H Q E h => ?_) (fun cdv A outer s H vs Q E hr h => ?_)
  · obtain ⟨a, ns, k, rfl, _⟩ := h
    rfl
  · obtain ⟨a, ns, hi, rfl, hS, hlen, h0, h1, q⟩ := h
    refine ⟨_, pss_one (ps_ret (pe_lc (own := [("k", 2)]) rfl sc__law_rounds.nd
      (pi_range1 (by rfl) B.range (pa_cons (pe_callB (call_max2 rfl) (by rfl) B.max boot_max (pa_cons pe_int (pa_cons (pe_callB (call_min2 rfl) (by rfl) B.min boot_min (pa_cons (pv 1) (pa_cons (pe_callB call_len_seq (by rfl) B.len PySem.boot_len (pa_cons (pv 0) pa_nil)) pa_nil))) pa_nil))) pa_nil))
      (blkOk_by (N := ["script", "high", "k"]) (sc := defScope st__law_rounds) (by decide +kernel))
      (fun _ _ _ _ _ => pg_name (i := 2) sc__law_rounds.nd rfl (.inl rfl)) (fun _ _ _ _ _ => pts_nil)
      (fun _ _ _ _ _ => pe_lst (pa_cons (pe_call GC (hr.mono (by decide)) (by rfl) gm G.kp gb .nil pass0 (pa_cons (pv 0) (pa_cons (pv 2) pa_nil))) (pa_cons pe_int pa_nil))))), ?_⟩
    generalize hn : (if (if ((ns.map V.int).length : Int) < hi then ((ns.map V.int).length : Int) else hi) > 1 then (if ((ns.map V.int).length : Int) < hi then ((ns.map V.int).length : Int) else hi) else 1) = n
    have hn0 : 1 ≤ n ∧ n ≤ 63 := by
      rw [← hn]
      split <;> (try split) <;> omega
    refine ⟨.int hi, rfl, .ref a, rfl, a, ns.map V.int, rfl, .inl hS, hi, _, rfl, 1, _, rfl, n, by rw [← hn], by omega, by omega, fun D nD => ?_⟩
    refine ⟨fun i m Hc => i + m = n.toNat ∧ Same H Hc ∧ ∃ ps : List Addr, ps.length = i ∧ Hc D = some (.lst (ps.map V.ref)) ∧ ps.Nodup ∧ ∀ q ∈ ps, q ≠ D ∧ H q = none ∧ ∃ c, Hc q = some (.lst [.int c, .int 0]), ⟨n.toNat, by omega, same_new nD, [], rfl, upd_same, List.nodup_nil, fun _ z => nomatch z⟩, fun i m Hc hW => ?_⟩
    obtain ⟨em, sm, ps, el, eD, nd, hq⟩ := hW
    by_cases hi' : i < n.toNat
    · refine .inr ⟨hi', fun H' => i + 1 + (m - 1) = n.toNat ∧ Same H H' ∧ ∃ ps : List Addr, ps.length = i + 1 ∧ H' D = some (.lst (ps.map V.ref)) ∧ ps.Nodup ∧ ∀ q ∈ ps, q ≠ D ∧ H q = none ∧ ∃ c, H' q = some (.lst [.int c, .int 0]), fun H' h => ⟨m - 1, by omega, h⟩, fun x H' hy => ?_⟩
      obtain ⟨rfl, rfl⟩ := hy
      refine ⟨rfl, ?_⟩
      unfold tYes
      refine ite2 (fun _ => ?_) (fun e => absurd rfl e)
      refine ⟨.ref a, rfl, .int (0 + (i : Int)), rfl, a, ns, 0 + (i : Int), rfl, sm.seq hS, hlen, by omega, by omega, fun c H2 s2 => ⟨Nat.le_of_lt (small1000 (by simp)), fun o no => ?_⟩⟩
      have eD2 : H2 D = some (.lst (ps.map V.ref)) := s2 _ _ eD
      have nDo : D ≠ o := ne_of_none eD2 no
      have noH : H o = none := by
        cases e : H o with
        | none => rfl
        | some z => rw [s2 _ _ (sm _ _ e)] at no; cases no
      have nps : o ∉ ps := fun z => by
        obtain ⟨_, _, c', hc'⟩ := hq o z
        rw [s2 _ _ hc'] at no
        cases no
      refine ⟨ps.map V.ref, by rw [upd_ne nDo]; exact eD2, by rw [List.length_map]; exact small1000 (by omega), by omega, fun b z e => ?_, ps ++ [o], by rw [List.length_append, el]; rfl, ?_, ?_, fun q hq' => ?_⟩
      · have hb : b ≠ D := ne_of_none e nD
        have hb2 : b ≠ o := ne_of_none e noH
        rw [upd_ne hb, upd_ne hb2]
        exact s2 _ _ (sm _ _ e)
      · rw [upd_same, List.map_append]
        rfl
      · exact List.nodup_append.mpr ⟨nd, (by simp), fun x hx y hy e => by
          rw [List.mem_singleton.mp hy] at e
          exact nps (e ▸ hx)⟩
      · rcases List.mem_append.mp hq' with z | z
        · obtain ⟨h1, h2, c', hc'⟩ := hq q z
          refine ⟨h1, h2, c', ?_⟩
          rw [upd_ne h1, upd_ne (fun e : q = o => nps (by rw [← e]; exact z))]
          exact s2 _ _ hc'
        · rw [List.mem_singleton.mp z]
          refine ⟨nDo.symm, noH, c, ?_⟩
          rw [upd_ne nDo.symm, upd_same]
    · exact .inl ⟨by show n.toNat ≤ i; omega, q D ps Hc sm nD eD nd hq⟩
/-! ### the law -/
abbrev st_law : Stmt := topS 39
theorem sc_law : FnScope ["script", "dice", "ring", "row", "page", "cell", "text", "turn", "bent", "made", "more"] ["script"] (defScope st_law) := ⟨rfl, rfl, rfl, by decide +kernel, rfl, by decide +kernel, by decide +kernel⟩
def rdSx (K : Fg) (T : List (Addr × Str)) (g : DS) : TS := fun D σ H => ∃ S H0 dc, rdS ⟨K, S, H0, dc, T⟩ W0 g D σ H
abbrev ρ0 : Rho := .un :: .dice :: List.replicate 9 .un
def spLaw (K : Fg) (T : List (Addr × Str)) : Sp := fun vs H Q _ => ∃ (a : Addr) (ns : List Int), vs = [.ref a] ∧ Tabs T H ∧ SqL K H a (ns.map V.int) ∧ ns.length ≤ 63 ∧ ∀ H', Q (.bl true) H'
theorem ok_law {f g h c Pt : Addr} {fd gd hd : FuncData} (F : Fun K "law" "law" st_law f fd) (TB : TabOk K mg base T "law" st_law f fd c Pt) (TO : ToldOk P w K mg base cl st__law_told) (GC : Fun K "_law_cell" "_law_cell" st__law_cell g gd) (gb : Binds K gd ["script", "k"] []) (gm : mg "_law_cell" = some (.ref g))
    (GR : Fun K "_law_rounds" "_law_rounds" st__law_rounds h hd) (hbd : Binds K hd ["script", "high"] []) (hm : mg "_law_rounds" = some (.ref h)) (B : Bt mg) (G__law_far_texts : FnP P w K mg base cl T "_law_far_texts" 8 3 g__law_far_texts) (G_is_ring : FnP P w K mg base cl T "is_ring" 3 1 g_is_ring) (G_ring_text : FnP P w K mg base cl T "ring_text" 5 1 g_ring_text) (G_read_ring : FnP P w K mg base cl T "read_ring" 4 1 g_read_ring) (G__law_spoilt : FnD P w K mg base T "_law_spoilt" 4 2 g__law_spoilt) (G_is_row : FnP P w K mg base cl T "is_row" 5 2 g_is_row) (G_row_text : FnP P w K mg base cl T "row_text" 6 2 g_row_text) (G_read_row : FnP P w K mg base cl T "read_row" 5 2 g_read_row) (G__law_any_row : FnD P w K mg base T "_law_any_row" 4 1 g__law_any_row) (G__law_any_ring : FnD P w K mg base T "_law_any_ring" 4 1 g__law_any_ring)
    (pure : ∀ c : Int, ∃ ρ' δ', b_law ρ0 (c, 0) = some (.nx ρ', δ') ∧ ρ'.length = 11) : FnOk P w K mg base (L2N.CX P w) 9 f fd ["script"] (spLaw K T) := by
  have RR : FnOk P w K mg base CX0 3 h hd ["script", "high"] (spRounds K) := ok__law_rounds GR GC gb gm B
  refine okL TB sc_law (fun vs H Q E h => ?_) (fun A outer s H vs Q E hr h => ?_)
  · obtain ⟨a, ns, rfl, _⟩ := h
    rfl
  · obtain ⟨a, ns, rfl, hTb, hS, hlen, q⟩ := h
    have tk : L2N.Takes (cxOf (L2N.CX P w) P w K mg base ["script", "dice", "ring", "row", "page", "cell", "text", "turn", "bent", "made", "more"] "law" (defScope st_law) f (.ref c) A outer s H E) (WXof cl W0) := (L2N.takes_of (E := E) rfl rfl rfl rfl).imp fun c d σ H' ⟨y, e1, e2, z⟩ => z.elim
    refine ⟨_, pss_cons (ps_for (passes_of rfl) rfl (pi_list (pe_call RR (hr.mono (by decide)) (by rfl) hm GR.kp hbd .nil pass0 (pa_cons (pv 0) (pa_cons pe_int pa_nil)))) (pg_name (i := 1) sc_law.nd rfl (by first | exact .inl rfl | exact .inr rfl))
      (tb := rdSx K T b_law) ⟨fun pins s1 σ H1 D I ⟨S, H0, dc, p⟩ => PSs.run ((q_cons (s_set (i := 2) sc_law.nd (pd_callD (cl := cl) 1 G__law_any_ring (hr.mono (by decide)) rfl tk (pd_cons pd_int pd_nil)))
    (q_cons (s_set (i := 3) sc_law.nd (pd_callD (cl := cl) 1 G__law_any_row (hr.mono (by decide)) rfl tk (pd_cons (pd_var 2) pd_nil)))
    (q_cons (s_set (i := 4) sc_law.nd (pd_join pd_str (pd_ofF (pd_lc (own := [("cell", 5)]) rfl sc_law.nd (tgOk_n 5) (i_rng1 B.range (pd_ixB 2 pd_int rfl)) (blkC_by (N := ["script", "dice", "ring", "row", "page", "cell", "text", "turn", "bent", "made", "more"]) (sc := defScope st_law) (by decide +kernel)) (fun _ _ _ _ _ _ => (g_name 5 sc_law.nd)) (fun _ _ _ _ _ _ => ts_nil) (fun _ _ _ _ _ _ => (pd_if (pt_cmpD (o_in (ru hr)) k_in (pd_var 5) (pd_var 3)) pd_str pd_str)))) rfl))
    (q_cons (s_set (i := 6) sc_law.nd (pd_op o_add k_add (pd_op o_add k_add (pd_callT call_str_int k_str B.str boot_str (pd_cons (pd_ixB 2 pd_int rfl) pd_nil)) pd_str) (pd_callT call_str_int k_str B.str boot_str (pd_cons (pd_ixB 2 pd_int rfl) pd_nil))))
    (q_cons (s_if (L2.PW.pt (pw_orD (pt_cmpD (op_neD (ru64 hr)) k_ne (pd_call G_row_text (hr.mono (by decide)) rfl tk (pd_cons (pd_var 2) (pd_cons (pd_var 3) pd_nil))) (pd_var 4)) (pw_orD (pt_cmpD (op_neD (ru64 hr)) k_ne (pd_call G_ring_text (hr.mono (by decide)) rfl tk (pd_cons (pd_var 2) pd_nil)) (pd_var 6)) (pw_or1 (pt_cmpD (op_neD (ru64 hr)) k_ne (pd_call G_read_row (hr.mono (by decide)) rfl tk (pd_cons (pd_var 2) (pd_cons (pd_var 4) pd_nil))) (pd_var 3)))))) (q_cons (s_ret pd_bl)
    q_nil) q_nil)
    (q_cons (s_if (pt_cmpD (op_neD (ru64 hr)) k_ne (pd_call G_read_ring (hr.mono (by decide)) rfl tk (pd_cons (pd_var 6) pd_nil)) (pd_var 2)) (q_cons (s_ret pd_bl)
    q_nil) q_nil)
    (q_cons (s_for (passes_of rfl) rfl (i_rng1 B.range pd_int) (g_name 7 sc_law.nd) (q_cons (s_set (i := 8) sc_law.nd (pd_callD (cl := cl) 1 G__law_spoilt (hr.mono (by decide)) rfl tk (pd_cons (pd_var 4) (pd_cons pd_str pd_nil))))
    (q_cons (s_set (i := 9) sc_law.nd (pe_told (cl := cl) (k := 5) TO TB.tb (by rfl) TB.hm TB.hu (hr.mono (by decide)) (by rfl) (by rfl) (lamS_by (sc := defScope st_law) (by decide +kernel)) (by rfl) (by intro _ _ _ _ _; rfl) (fun _ _ _ _ _ _ _ _ hr tk => (pd_call G_read_row (hr.mono (by decide)) rfl tk (pd_cons (pd_var 2) (pd_cons (pd_var 8) pd_nil))))))
    (q_cons (s_if (L2.PW.pt (pw_andD (pt_cmpD (op_neD (ru64 hr)) k_ne (pd_var 9) (pd_tup (pd_cons pd_str (pd_cons pd_str pd_nil)))) (pw_and1 (L2.PW.pt (pw_orD (pt_notD (pt_valD (pd_call G_is_row (hr.mono (by decide)) rfl tk (pd_cons (pd_var 2) (pd_cons (pd_var 9) pd_nil))))) (pw_or1 (pt_cmpD (op_neD (ru64 hr)) k_ne (pd_call G_row_text (hr.mono (by decide)) rfl tk (pd_cons (pd_var 2) (pd_cons (pd_var 9) pd_nil))) (pd_var 8)))))))) (q_cons (s_ret pd_bl)
    q_nil) q_nil)
    (q_cons (s_set (i := 10) sc_law.nd (pd_callD (cl := cl) 1 G__law_spoilt (hr.mono (by decide)) rfl tk (pd_cons (pd_var 6) (pd_cons pd_str pd_nil))))
    (q_cons (s_set (i := 9) sc_law.nd (pe_told (cl := cl) (k := 5) TO TB.tb (by rfl) TB.hm TB.hu (hr.mono (by decide)) (by rfl) (by rfl) (lamS_by (sc := defScope st_law) (by decide +kernel)) (by rfl) (by intro _ _ _ _ _; rfl) (fun _ _ _ _ _ _ _ _ hr tk => (pd_call G_read_ring (hr.mono (by decide)) rfl tk (pd_cons (pd_var 10) pd_nil)))))
    (q_cons (s_if (L2.PW.pt (pw_andD (pt_cmpD (op_neD (ru64 hr)) k_ne (pd_var 9) (pd_tup (pd_cons pd_str (pd_cons pd_str pd_nil)))) (pw_and1 (L2.PW.pt (pw_orD (pt_notD (pt_valD (pd_call G_is_ring (hr.mono (by decide)) rfl tk (pd_cons (pd_var 9) pd_nil)))) (pw_or1 (pt_cmpD (op_neD (ru64 hr)) k_ne (pd_call G_ring_text (hr.mono (by decide)) rfl tk (pd_cons (pd_var 9) pd_nil)) (pd_var 10)))))))) (q_cons (s_ret pd_bl)
    q_nil) q_nil)
    q_nil)))))))
    (q_cons (s_if (pt_notD (pt_valD (pd_call G__law_far_texts (hr.mono (by decide)) rfl tk (pd_cons (pd_var 2) (pd_cons (pd_var 4) (pd_cons (pd_var 6) pd_nil)))))) (q_cons (s_ret pd_bl)
    q_nil) q_nil)
    q_nil)))))))) : PSs _ _ (rdS ⟨K, S, H0, dc, T⟩ W0 b_law)) pins s1 σ H1 D I p⟩) (pss_one (ps_ret pe_bl)), ?_⟩
    refine ⟨.ref a, rfl, a, ns, _, rfl, hS, hlen, by decide, by decide, fun p ps H1 s1 np ep nd hq => ?_⟩
    refine ⟨p, rfl, ⟨_, .inl (.inl ep)⟩, fun i m σ H2 => i + m = ps.length ∧ σ.length = 11 ∧ Tabs T H2 ∧ H2 p = some (.lst (ps.map V.ref)) ∧ ∀ (j : Nat) (o : Addr), i ≤ j → ps[j]? = some o → o ≠ p ∧ ∃ c, H2 o = some (.lst [.int c, .int 0]),
      ⟨ps.length, by omega, rfl, hTb.ext s1, ep, fun j o _ ho => ?_⟩, fun i m σ H2 hW => ?_⟩
    · obtain ⟨h1, _, c, h2⟩ := hq o (List.mem_of_getElem? ho)
      exact ⟨h1, c, h2⟩
    · obtain ⟨em, el, tb2, e2, hd2⟩ := hW
      have hP : SqL K H2 p (ps.map V.ref) := .inl (.inl e2)
      by_cases hi : i < ps.length
      · have gi : (ps.map V.ref)[i]? = some (.ref ps[i]) := by
          rw [List.getElem?_map, List.getElem?_eq_getElem hi]
          rfl
        refine .inr ⟨⟨_, _, hP, gi⟩, fun σ' H' => i + 1 + (m - 1) = ps.length ∧ σ'.length = 11 ∧ Tabs T H' ∧ H' p = some (.lst (ps.map V.ref)) ∧ ∀ (j : Nat) (o : Addr), i + 1 ≤ j → ps[j]? = some o → o ≠ p ∧ ∃ c, H' o = some (.lst [.int c, .int 0]), fun σ' H' h => ⟨m - 1, by omega, h⟩, fun x H' hy => ?_⟩
        obtain ⟨rfl, hx⟩ := hy
        obtain rfl : x = .ref ps[i] := Option.some.inj ((hx _ hP).symm.trans gi)
        obtain ⟨nq, c, ec⟩ := hd2 i ps[i] (Nat.le_refl _) (List.getElem?_eq_getElem hi)
        obtain ⟨ρ', δ', eb, lb⟩ := pure c
        have sl : (σ.set 1 (some (V.ref ps[i]))).length = 11 := by rw [List.length_set]; exact el
        have noown : ∀ (j : Nat) (t : Sl), ρ0[j]? = some t → t.isOwn = false := fun j t ht => by
          match j, ht with
          | 0, ht => cases ht; rfl
          | 1, ht => cases ht; rfl
          | j + 2, ht =>
            have ht : (List.replicate 9 Sl.un)[j]? = some t := ht
            rw [List.getElem?_replicate] at ht
            split at ht
            · cases ht; rfl
            · cases ht
        refine ⟨fun b => b ≠ ps[i], H', some ps[i], ρ0, (c, 0), ⟨sl, fun j t ht => ?_, fun j1 j2 t1 t2 v h1 _ h3 _ _ _ => (by rw [noown j1 t1 h1] at h3; cases h3), fun _ _ _ _ z => z, fun b hb => ?_, fun b z => ?_, tb2⟩, ?_⟩
        · match j, ht with
          | 0, ht =>
            cases ht
            exact ⟨_, List.getElem?_eq_getElem (by rw [sl]; decide), trivial⟩
          | 1, ht =>
            cases ht
            exact ⟨some (.ref ps[i]), List.getElem?_set_self (by rw [el]; decide), ps[i], rfl, rfl⟩
          | j + 2, ht =>
            have ht : (List.replicate 9 Sl.un)[j]? = some t := ht
            rw [List.getElem?_replicate] at ht
            split at ht
            · cases ht
              exact ⟨_, List.getElem?_eq_getElem (by rw [sl]; omega), trivial⟩
            · cases ht
        · cases hb
          exact ⟨ec, fun z => z rfl, _, nt_lst, ec⟩
        · rw [Classical.not_not.mp z]
          exact ⟨_, nt_lst, ec⟩
        · rw [eb]
          refine fun σ3 H3 E3 _ => ⟨by omega, by rw [E3.len]; exact lb, E3.tb, E3.ext p _ (fun z => nq (Option.some.inj z)) nt_lst e2, fun j o hj ho => ?_⟩
          obtain ⟨h1, c', h2⟩ := hd2 j o (by omega) ho
          refine ⟨h1, c', E3.ext o _ (fun z => ?_) nt_lst h2⟩
          have e3 : ps[i] = o := Option.some.inj z
          have := (List.getElem?_eq_some_iff.mp ho)
          obtain ⟨hj', e4⟩ := this
          exact (List.pairwise_iff_getElem.mp nd) i j hi hj' (by omega) (e3.trans e4.symm)
      · exact .inl ⟨⟨_, hP, by rw [List.length_map]; omega⟩, q _⟩
end
end G8

set_option Elab.async false
set_option linter.all false
set_option maxRecDepth 100000
set_option maxHeartbeats 1000000
namespace G8
open PySem PySem.Spec PyProof.Rows L2
/-! ### rows of ints by their place -/
def ls (m : Nat) (Y : Nat → Int) : List Int := (List.range m).map Y
@[simp] theorem ls_len (m : Nat) (Y : Nat → Int) : (ls m Y).length = m := by simp [ls]
theorem ls_get {m i : Nat} (h : i < m) (Y : Nat → Int) : (ls m Y)[i]? = some (Y i) := by simp [ls, h]
theorem ls_congr {m : Nat} {Y Z : Nat → Int} (h : ∀ i, i < m → Y i = Z i) : ls m Y = ls m Z := List.map_congr_left fun i hi => h i (List.mem_range.mp hi)
theorem ls_int (m : Nat) (F : Nat → Int) : (List.range m).map (fun i => PyData.int (F i)) = (ls m F).map .int := by rw [ls, List.map_map]; rfl
theorem ls_succ (m : Nat) (F : Nat → Int) : ls (m + 1) F = F 0 :: ls m fun i => F (i + 1) := by
  rw [ls, List.range_succ_eq_map, List.map_cons, List.map_map]; rfl
theorem ls_snoc (m : Nat) (F : Nat → Int) : ls (m + 1) F = ls m F ++ [F m] := by rw [ls, List.range_succ, List.map_append]; rfl
theorem zipD_ls (m : Nat) (Y Z : Nat → Int) : zipD ((ls m Y).map .int) ((ls m Z).map .int) = (List.range m).map fun i => .tuple [.int (Y i), .int (Z i)] := by
  unfold zipD ls
  rw [List.map_map, List.map_map, List.zip_map', List.map_map]; rfl
abbrev tI (ns : List Int) : D := .tuple (ns.map .int)
abbrev lI (ns : List Int) : D := .list (ns.map .int)
theorem cut_tail (xs : List D) : gCut xs (some 1) none = xs.drop 1 := by
  unfold gCut
  cases xs with
  | nil => rfl
  | cons x r =>
    show ((x :: r).drop (min 1 (r.length + 1))).take _ = _
    have : min 1 (r.length + 1) = 1 := by omega
    simp [HT.sIx]
/-! ### the ring -/
structure Rg (n r : Int) : Prop where
  n0 : 4 ≤ n
  n1 : n ≤ 24
  r0 : 1 ≤ r
  r1 : r ≤ 3
theorem m_is_whole (i lo hi : Int) : g_is_whole [.int i, .int lo, .int hi] = some (.ok (.bool (decide (lo ≤ i ∧ i ≤ hi)))) := by
  by_cases h : lo ≤ i <;> simp [g_is_whole, b_is_whole, h]
theorem m_is_ring {n r : Int} (R : Rg n r) : g_is_ring [rg n r] = some (.ok (.bool true)) := by
  have := R.n0; have := R.n1; have := R.r0; have := R.r1
  simp [g_is_ring, b_is_ring, m_is_whole, *]
theorem m_need_ring {n r : Int} (R : Rg n r) : g_need_ring [rg n r] = some (.ok .none) := by simp [g_need_ring, b_need_ring, m_is_ring R]
theorem m_all_gaps {n r : Int} {m : Nat} {Y : Nat → Int} (hm : 0 < m) (hM : m ≤ 1000) (hp : Y m = Y 0 + n) : g_all_gaps [rg n r, tI (ls m Y)] = some (.ok (tI (ls m fun i => Y (i + 1) - Y i - 1))) := by
  obtain ⟨m, rfl⟩ : ∃ k, m = k + 1 := ⟨m - 1, by omega⟩
  have e1 : ((ls (m + 1) Y).map PyData.int).drop 1 ++ [PyData.int (Y 0 + n)] = (ls (m + 1) fun i => Y (i + 1)).map .int := by
    rw [ls_succ, ls_snoc m fun i => Y (i + 1), List.map_append, List.map_cons, ← hp]; rfl
  have e2 : atI ((ls (m + 1) Y).map PyData.int) 0 = some (.int (Y 0)) := by rw [ls_succ]; exact atI_0
  have e3 : ((ls (m + 1) Y).map PyData.int).length ≤ 1001 := by simp; omega
  have e4 : m ≤ 99999 := by omega
  have e5 : m + 1 ≤ 100000 := by omega
  simp only [g_all_gaps, b_all_gaps]
  simp [cut_tail, e1, e2, e4, e5, zipD_ls, -List.drop_one, -List.map_drop]
  rw [lcD_map (e := fun i => .int (Y (i + 1) - Y i - 1)), ls_int]
  exact fun i _ => ⟨_, rfl, rfl, rfl⟩
theorem m_goings {n r : Int} {m : Nat} {Y : Nat → Int} (hm : 0 < m) (hM : m ≤ 1000) (hp : Y m = Y 0 + n) : g_goings [rg n r, tI (ls m Y)] = some (.ok (tI (ls m fun i => min r (Y (i + 1) - Y i - 1)))) := by
  have e5 : m ≤ 100000 := by omega
  simp only [g_goings, b_goings]
  simp [m_all_gaps hm hM hp, e5]
  rw [← ls_int, lcD_map (e := fun i => .int (min r (Y (i + 1) - Y i - 1))), ls_int]
  exact fun i _ => ⟨_, rfl, rfl, by simp⟩
theorem m_moved {n r : Int} {m : Nat} {Y Z : Nat → Int} (hn : 0 < n) (hM : m ≤ 1000) : g_moved [rg n r, tI (ls m Y), tI (ls m Z)] = some (.ok (tI (isort (ls m fun i => (Y i + Z i) % n)))) := by
  have e5 : m ≤ 100000 := by omega
  simp only [g_moved, b_moved]
  simp [zipD_ls, e5]
  rw [lcD_map (e := fun i => .int ((Y i + Z i) % n)), ls_int]
  · simp [gSorted]
  · exact fun i _ => ⟨_, rfl, rfl, by simp [gMod_int hn]⟩
/-- one beat -/
def stp (r : Int) (Y : Nat → Int) (i : Nat) : Int := min (Y i + r) (Y (i + 1) - 1)
theorem m_next_row {n r : Int} {m : Nat} {Y : Nat → Int} (hn : 0 < n) (hm : 0 < m) (hM : m ≤ 1000) (hp : Y m = Y 0 + n) : g_next_row [rg n r, tI (ls m Y)] = some (.ok (tI (isort (ls m fun i => stp r Y i % n)))) := by
  have e : (fun i => (Y i + min r (Y (i + 1) - Y i - 1)) % n) = fun i => stp r Y i % n := funext fun i => by
    unfold stp
    congr 1
    omega
  simp only [g_next_row, b_next_row]
  simp [m_goings hm hM hp, m_moved hn hM, e]
end G8

set_option Elab.async false
set_option linter.all false
set_option maxRecDepth 100000
set_option maxHeartbeats 1000000
namespace G8
open PySem PySem.Spec PyProof.Rows L2
/-! ### carts round a ring, unrolled: Y i is the place of cart i, cart i + m is cart i a round on -/
structure Per (n : Int) (m : Nat) (Y : Nat → Int) : Prop where
  per : ∀ i, Y (i + m) = Y i + n
  inc : ∀ i, Y i < Y (i + 1)
section
variable {n r : Int} {m : Nat} {Y Z : Nat → Int}
theorem Per.mono (P : Per n m Y) {i j : Nat} (h : i ≤ j) : Y i ≤ Y j := by
  induction j with
  | zero => have : i = 0 := by omega
            rw [this]; exact Int.le_refl _
  | succ j ih =>
    by_cases e : i = j + 1
    · rw [e]; exact Int.le_refl _
    · have := ih (by omega)
      have := P.inc j
      omega
theorem Per.lt (P : Per n m Y) {i j : Nat} (h : i < j) : Y i < Y j := by
  have := P.mono (show i + 1 ≤ j by omega)
  have := P.inc i
  omega
theorem Per.stp (P : Per n m Y) (hr : 0 ≤ r) : Per n m (stp r Y) := by
  refine ⟨fun i => ?_, fun i => ?_⟩
  · unfold G8.stp
    have h1 := P.per i
    have h2 := P.per (i + 1)
    rw [show i + m + 1 = i + 1 + m by omega]
    omega
  · unfold G8.stp
    have h1 := P.inc i
    have h2 := P.inc (i + 1)
    omega
def wlk (r : Int) (Y : Nat → Int) : Nat → Nat → Int
  | 0 => Y
  | t + 1 => G8.stp r (wlk r Y t)
theorem Per.wlk (P : Per n m Y) (hr : 0 ≤ r) : ∀ t, Per n m (wlk r Y t)
  | 0 => P
  | t + 1 => (P.wlk hr t).stp hr
theorem Per.mul (P : Per n m Y) (i : Nat) : ∀ k : Nat, Y (i + k * m) = Y i + k * n
  | 0 => by simp
  | k + 1 => by
    have := P.mul i k
    rw [show i + (k + 1) * m = i + k * m + m by rw [Nat.add_mul]; omega, P.per, this]
    rw [show ((k + 1 : Nat) : Int) = (k : Int) + 1 by omega, Int.add_mul]
    omega
/-- the least of a 0 .. a t -/
def mn (a : Nat → Int) : Nat → Int
  | 0 => a 0
  | t + 1 => min (mn a t) (a (t + 1))
theorem mn_succ' (a : Nat → Int) : ∀ t, mn a (t + 1) = min (a 0) (mn (fun k => a (k + 1)) t)
  | 0 => rfl
  | t + 1 => by
    show min (mn a (t + 1)) (a (t + 1 + 1)) = min (a 0) (min (mn (fun k => a (k + 1)) t) (a (t + 1 + 1)))
    rw [mn_succ' a t]
    omega
theorem mn_both (a : Nat → Int) : ∀ t, mn a (t + 1) = min (mn a t) (mn (fun k => a (k + 1)) t)
  | 0 => rfl
  | t + 1 => by
    show min (mn a (t + 1)) (a (t + 1 + 1)) = min (mn a (t + 1)) (min (mn (fun k => a (k + 1)) t) (a (t + 1 + 1)))
    have := mn_both a t
    omega
theorem mn_add (a : Nat → Int) (c : Int) : ∀ t, mn (fun k => a k + c) t = mn a t + c
  | 0 => rfl
  | t + 1 => by
    show min (mn (fun k => a k + c) t) (a (t + 1) + c) = min (mn a t) (a (t + 1)) + c
    rw [mn_add a c t]
    omega
theorem mn_le (a : Nat → Int) {k t : Nat} (h : k ≤ t) : mn a t ≤ a k := by
  induction t with
  | zero => rw [show k = 0 by omega]; exact Int.le_refl _
  | succ t ih =>
    show min (mn a t) (a (t + 1)) ≤ _
    by_cases e : k = t + 1
    · rw [e]; omega
    · have := ih (by omega)
      omega
theorem mn_in (a : Nat → Int) : ∀ t, ∃ k, k ≤ t ∧ mn a t = a k
  | 0 => ⟨0, Nat.le_refl _, rfl⟩
  | t + 1 => by
    obtain ⟨k, h, e⟩ := mn_in a t
    show ∃ k, k ≤ t + 1 ∧ min (mn a t) (a (t + 1)) = a k
    by_cases c : mn a t ≤ a (t + 1)
    · exact ⟨k, by omega, by omega⟩
    · exact ⟨t + 1, Nat.le_refl _, by omega⟩
/-- where a cart is at t -/
theorem wlk_eq (r : Int) (Y : Nat → Int) : ∀ t i, wlk r Y t i = r * t + mn (fun k => Y (i + k) - (r + 1) * k) t
  | 0, i => by simp [wlk, mn]
  | t + 1, i => by
    show min (wlk r Y t i + r) (wlk r Y t (i + 1) - 1) = _
    rw [wlk_eq r Y t i, wlk_eq r Y t (i + 1), mn_both]
    have e : (fun k => Y (i + 1 + k) - (r + 1) * (k : Int)) = fun k => (fun k => Y (i + k) - (r + 1) * (k : Int)) (k + 1) + (r + 1) := funext fun k => by
      show _ = Y (i + (k + 1)) - (r + 1) * ((k + 1 : Nat) : Int) + (r + 1)
      rw [show i + 1 + k = i + (k + 1) by omega, show ((k + 1 : Nat) : Int) = (k : Int) + 1 by omega, Int.mul_add]
      omega
    rw [e, mn_add (fun k => (fun k => Y (i + k) - (r + 1) * (k : Int)) (k + 1))]
    rw [show ((t + 1 : Nat) : Int) = (t : Int) + 1 by omega, Int.mul_add]
    simp only []
    omega
def Runs (r : Int) (Y : Nat → Int) : Prop := ∀ i, r ≤ Y (i + 1) - Y i - 1
def Backs (r : Int) (Y : Nat → Int) : Prop := ∀ i, Y (i + 1) - Y i - 1 ≤ r
theorem Runs.stp (h : Runs r Y) : G8.stp r Y = fun i => Y i + r := funext fun i => by
  have := h i
  unfold G8.stp
  omega
theorem Backs.stp (h : Backs r Y) : G8.stp r Y = fun i => Y (i + 1) - 1 := funext fun i => by
  have := h i
  unfold G8.stp
  omega
theorem Runs.on (h : Runs r Y) : ∀ t, wlk r Y t = fun i => Y i + r * t
  | 0 => by simp [wlk]
  | t + 1 => by
    have ih := Runs.on h t
    have h' : Runs r (wlk r Y t) := fun i => by rw [ih]; have := h i; simp only; omega
    show G8.stp r (wlk r Y t) = _
    rw [h'.stp, ih]
    funext i
    rw [show ((t + 1 : Nat) : Int) = (t : Int) + 1 by omega, Int.mul_add]
    simp only []
    omega
theorem Backs.on (h : Backs r Y) : ∀ t, wlk r Y t = fun i => Y (i + t) - t
  | 0 => by simp [wlk]
  | t + 1 => by
    have ih := Backs.on h t
    have h' : Backs r (wlk r Y t) := fun i => by rw [ih]; have := h (i + t); simp only; rw [show i + 1 + t = i + t + 1 by omega]; omega
    show G8.stp r (wlk r Y t) = _
    rw [h'.stp, ih]
    funext i
    show Y (i + 1 + t) - t - 1 = Y (i + (t + 1)) - ((t + 1 : Nat) : Int)
    rw [show i + 1 + t = i + (t + 1) by omega]
    omega
theorem wlk_add (r : Int) (Y : Nat → Int) (s : Nat) : ∀ t, wlk r Y (s + t) = wlk r (wlk r Y s) t
  | 0 => rfl
  | t + 1 => congrArg (G8.stp r) (wlk_add r Y s t)
/-! #### settling -/
theorem mn_room {a : Nat → Int} (hm : 0 < m) (h : ∀ k, a k ≤ a (k + m)) {t : Nat} (ht : m ≤ t + 1) : mn a t = mn a (m - 1) := by
  induction t with
  | zero => rw [show m - 1 = 0 by omega]
  | succ t ih =>
    by_cases e : m = t + 2
    · rw [e]; rfl
    · show min (mn a t) (a (t + 1)) = _
      have h1 := ih (by omega)
      have h2 := h (t + 1 - m)
      rw [show t + 1 - m + m = t + 1 by omega] at h2
      have h3 := mn_le a (show t + 1 - m ≤ t by omega)
      omega
theorem mn_tight {a : Nat → Int} (hm : 0 < m) (h : ∀ k, a (k + m) ≤ a k) {t : Nat} (ht : m ≤ t + 1) : mn a (t + 1) = mn (fun k => a (k + 1)) t := by
  rw [mn_succ']
  have h1 := h 0
  have h2 := mn_le (fun k => a (k + 1)) (show m - 1 ≤ t by omega)
  simp only [show m - 1 + 1 = m by omega] at h2
  rw [show 0 + m = m by omega] at h1
  omega
theorem settle_room (P : Per n m Y) (hm : 0 < m) (h : m * (r + 1) ≤ n) {t : Nat} (ht : m ≤ t + 1) (i : Nat) : wlk r Y (t + 1) i = wlk r Y t i + r := by
  have hk : ∀ k, (fun k => Y (i + k) - (r + 1) * (k : Int)) k ≤ (fun k => Y (i + k) - (r + 1) * (k : Int)) (k + m) := fun k => by
    have := P.per (i + k)
    show Y (i + k) - (r + 1) * (k : Int) ≤ Y (i + (k + m)) - (r + 1) * ((k + m : Nat) : Int)
    rw [← Nat.add_assoc, this, show ((k + m : Nat) : Int) = (k : Int) + m by omega, Int.mul_add, Int.mul_comm (r + 1) (m : Int)]
    omega
  rw [wlk_eq, wlk_eq, mn_room hm hk ht, mn_room hm hk (show m ≤ t + 1 + 1 by omega), show ((t + 1 : Nat) : Int) = (t : Int) + 1 by omega, Int.mul_add]
  omega
theorem settle_tight (P : Per n m Y) (hm : 0 < m) (h : n ≤ m * (r + 1)) {t : Nat} (ht : m ≤ t + 1) (i : Nat) : wlk r Y (t + 1) i = wlk r Y t (i + 1) - 1 := by
  have hk : ∀ k, (fun k => Y (i + k) - (r + 1) * (k : Int)) (k + m) ≤ (fun k => Y (i + k) - (r + 1) * (k : Int)) k := fun k => by
    have := P.per (i + k)
    show Y (i + (k + m)) - (r + 1) * ((k + m : Nat) : Int) ≤ Y (i + k) - (r + 1) * (k : Int)
    rw [← Nat.add_assoc, this, show ((k + m : Nat) : Int) = (k : Int) + m by omega, Int.mul_add, Int.mul_comm (r + 1) (m : Int)]
    omega
  rw [wlk_eq, wlk_eq, mn_tight hm hk ht]
  have e : (fun k => Y (i + 1 + k) - (r + 1) * (k : Int)) = fun k => (fun k => (fun k => Y (i + k) - (r + 1) * (k : Int)) (k + 1)) k + (r + 1) := funext fun k => by
    show _ = Y (i + (k + 1)) - (r + 1) * ((k + 1 : Nat) : Int) + (r + 1)
    rw [show i + 1 + k = i + (k + 1) by omega, show ((k + 1 : Nat) : Int) = (k : Int) + 1 by omega, Int.mul_add]
    omega
  rw [e, mn_add, show ((t + 1 : Nat) : Int) = (t : Int) + 1 by omega, Int.mul_add]
  simp only []
  omega
theorem runs_of {t : Nat} (h : ∀ i, wlk r Y (t + 1) i = wlk r Y t i + r) : Runs r (wlk r Y t) := fun i => by
  have := h i
  have e : wlk r Y (t + 1) i = min (wlk r Y t i + r) (wlk r Y t (i + 1) - 1) := rfl
  omega
theorem backs_of {t : Nat} (h : ∀ i, wlk r Y (t + 1) i = wlk r Y t (i + 1) - 1) : Backs r (wlk r Y t) := fun i => by
  have := h i
  have e : wlk r Y (t + 1) i = min (wlk r Y t i + r) (wlk r Y t (i + 1) - 1) := rfl
  omega
theorem settles (P : Per n m Y) (hm : 0 < m) {t : Nat} (ht : m ≤ t + 1) : if m * (r + 1) ≤ n then Runs r (wlk r Y t) else Backs r (wlk r Y t) := by
  split
  · rename_i h
    exact runs_of fun i => settle_room P hm h ht i
  · rename_i h
    exact backs_of fun i => settle_tight P hm (by omega) ht i
end
end G8

set_option Elab.async false
set_option linter.all false
set_option maxRecDepth 100000
set_option maxHeartbeats 1000000
namespace G8
open PySem PySem.Spec PyProof.Rows L2
theorem first_at {p : Nat → Prop} (hd : ∀ i, p i ∨ ¬ p i) : ∀ m, p m → ∃ s, s ≤ m ∧ p s ∧ ∀ i, i < s → ¬ p i
  | 0, h => ⟨0, Nat.le_refl _, h, fun i hi => absurd hi (Nat.not_lt_zero i)⟩
  | m + 1, h => by
    rcases hd 0 with h0 | h0
    · exact ⟨0, Nat.zero_le _, h0, fun i hi => absurd hi (Nat.not_lt_zero i)⟩
    · obtain ⟨s, h1, h2, h3⟩ := first_at (p := fun i => p (i + 1)) (fun i => hd (i + 1)) m h
      refine ⟨s + 1, by omega, h2, fun i hi => ?_⟩
      cases i with
      | zero => exact h0
      | succ i => exact h3 i (by omega)
section
variable {n r : Int} {m : Nat} {Y Z : Nat → Int}
theorem ls_add (a b : Nat) (F : Nat → Int) : ls (a + b) F = ls a F ++ ls b fun i => F (i + a) := by
  unfold ls
  rw [List.range_add, List.map_append, List.map_map]
  congr 1
  refine List.map_congr_left fun i _ => ?_
  show F (a + i) = F (i + a)
  rw [Nat.add_comm]
theorem ls_mem {m : Nat} {F : Nat → Int} {x : Int} : x ∈ ls m F ↔ ∃ i, i < m ∧ F i = x := by
  unfold ls
  rw [List.mem_map]
  exact ⟨fun ⟨i, h, e⟩ => ⟨i, List.mem_range.mp h, e⟩, fun ⟨i, h, e⟩ => ⟨i, List.mem_range.mpr h, e⟩⟩
theorem ls_pairwise {R : Int → Int → Prop} {F : Nat → Int} (h : ∀ i j, i < j → j < m → R (F i) (F j)) : (ls m F).Pairwise R := by
  unfold ls
  rw [List.pairwise_map]
  exact (List.pairwise_lt_range (n := m)).imp_of_mem fun {i j} _ hj hij => h i j hij (List.mem_range.mp hj)
theorem isort_eq {l k : List Int} (hp : l.Perm k) (hs : k.Pairwise (· ≤ ·)) : isort l = k :=
  PySem.W.ksm_same ((isort_perm l).trans hp) (isort_sorted l) hs
theorem isort_perm_eq {l k : List Int} (hp : l.Perm k) : isort l = isort k := isort_eq (hp.trans (isort_perm k).symm) (isort_sorted k)
/-- a turned round -/
theorem rot_perm {F : Nat → Int} (h : ∀ i, F (i + m) = F i) : ∀ s, (ls m fun i => F (i + s)).Perm (ls m F)
  | 0 => .refl _
  | s + 1 => by
    refine List.Perm.trans ?_ (rot_perm h s)
    cases m with
    | zero => exact .refl _
    | succ k =>
      rw [ls_snoc, ls_succ]
      have e1 : (fun i => F (i + (s + 1))) = fun i => F (i + 1 + s) := funext fun i => by rw [show i + (s + 1) = i + 1 + s by omega]
      have e2 : F (k + (s + 1)) = F (0 + s) := by rw [show k + (s + 1) = 0 + s + (k + 1) by omega, h]
      rw [e2, e1]
      exact List.perm_append_singleton _ _
theorem emod_sub_mul {x q n : Int} (h0 : q * n ≤ x) (h1 : x < q * n + n) : x % n = x - q * n := by
  have e : x = (x - q * n) + n * q := by rw [Int.mul_comm n q]; omega
  rw [e, Int.add_mul_emod_self_left, Int.emod_eq_of_lt (by omega) (by omega), Int.mul_comm n q]
  omega
/-- the sorted cells of a round -/
theorem canon (P : Per n m Y) (hn : 0 < n) (hm : 0 < m) : ∃ (s : Nat) (q : Int), s ≤ m ∧ isort (ls m fun i => Y i % n) = (ls m fun i => Y (i + s) - q * n) ∧ 0 ≤ Y s - q * n ∧ Y (m - 1 + s) - q * n < n := by
  have hY0 := P.per 0
  rw [show 0 + m = m by omega] at hY0
  have d0 : Y 0 / n * n ≤ Y 0 := Int.ediv_mul_le _ (by omega)
  have d1 : Y 0 < Y 0 / n * n + n := by have := Int.lt_ediv_add_one_mul_self (Y 0) hn; rw [Int.add_mul] at this; omega
  generalize Y 0 / n = q at d0 d1
  obtain ⟨s, hs, h1, h2⟩ := first_at (p := fun i => (q + 1) * n ≤ Y i) (fun i => Decidable.em _) m (by rw [Int.add_mul]; omega)
  rw [Int.add_mul] at h1
  have h2 : ∀ i, i < s → Y i < q * n + n := fun i hi => by have := h2 i hi; rw [Int.add_mul] at this; omega
  refine ⟨s, q + 1, hs, ?_, by rw [Int.add_mul]; omega, ?_⟩
  · have hq : (q + 1) * n = q * n + n := by rw [Int.add_mul]; omega
    refine isort_eq ?_ (ls_pairwise fun i j hij _ => by have := P.lt (show i + s < j + s by omega); omega)
    obtain ⟨b, rfl⟩ : ∃ b, m = s + b := ⟨m - s, by omega⟩
    have e1 : ls (s + b) (fun i => Y i % n) = ls s (fun i => Y i - q * n) ++ ls b (fun i => Y (i + s) - (q + 1) * n) := by
      rw [ls_add]
      congr 1
      · exact ls_congr fun i hi => emod_sub_mul (by have := P.mono (Nat.zero_le i); omega) (h2 i hi)
      · refine ls_congr fun i hi => emod_sub_mul ?_ ?_
        · have := P.mono (show s ≤ i + s by omega); omega
        · have := P.lt (show i + s < s + b by omega); omega
    have e2 : (ls (s + b) fun i => Y (i + s) - (q + 1) * n) = ls b (fun i => Y (i + s) - (q + 1) * n) ++ ls s (fun i => Y i - q * n) := by
      rw [Nat.add_comm s b, ls_add]
      congr 1
      refine ls_congr fun i hi => ?_
      have := P.per i
      rw [show i + b + s = i + (s + b) by omega, this]
      omega
    rw [e1, e2]
    exact List.perm_append_comm
  · rw [Int.add_mul]
    by_cases hs0 : s = 0
    · subst hs0
      have := P.lt (show m - 1 + 0 < m by omega)
      omega
    · have h3 := h2 (s - 1) (by omega)
      have h4 := P.per (s - 1)
      rw [show m - 1 + s = s - 1 + m by omega]
      omega
theorem stp_sh (r c : Int) (s : Nat) : stp r (fun i => Y (i + s) - c) = fun i => stp r Y (i + s) - c := funext fun i => by
  unfold stp
  simp only []
  rw [show i + 1 + s = i + s + 1 by omega]
  omega
theorem Per.sh (P : Per n m Y) (s : Nat) (c : Int) : Per n m fun i => Y (i + s) - c := by
  refine ⟨fun i => ?_, fun i => ?_⟩
  · have := P.per (i + s)
    rw [show i + m + s = i + s + m by omega]
    omega
  · have := P.inc (i + s)
    rw [show i + 1 + s = i + s + 1 by omega]
    omega
/-- the row at t -/
def rowAt (n r : Int) (m : Nat) (X : Nat → Int) (t : Nat) : List Int := isort (ls m fun i => wlk r X t i % n)
theorem row_sh (P : Per n m Y) (s : Nat) (q : Int) : isort (ls m fun i => (Y (i + s) - q * n) % n) = isort (ls m fun i => Y i % n) := by
  have e : (fun i => (Y (i + s) - q * n) % n) = fun i => Y (i + s) % n := funext fun i => Int.sub_mul_emod_self_right ..
  rw [e]
  exact isort_perm_eq (rot_perm (F := fun i => Y i % n) (fun i => by
    show Y (i + m) % n = _
    rw [P.per, Int.add_emod_right]) s)
theorem per_all {p : Int → Prop} {F : Nat → Int} (hF : ∀ i, F (i + m) = F i) (hm : 0 < m) (s : Nat) : (∀ i, i < m → p (F (i + s))) ↔ ∀ i, p (F i) := by
  constructor
  · intro h i
    have key : ∀ k i, i < k → s ≤ i → p (F i) := by
      intro k
      induction k with
      | zero => intro i hi; omega
      | succ k ih =>
        intro i hi hs
        by_cases c : i - s < m
        · have := h (i - s) c
          rwa [show i - s + s = i by omega] at this
        · have := ih (i - m) (by omega) (by omega)
          rwa [← hF, show i - m + m = i by omega] at this
    have up : ∀ k i, F (i + k * m) = F i := by
      intro k
      induction k with
      | zero => intro i; simp
      | succ k ih => intro i; rw [show i + (k + 1) * m = i + k * m + m by rw [Nat.add_mul]; omega, hF, ih]
    rw [← up s i]
    exact key _ _ (Nat.lt_succ_self _) (by have := Nat.le_mul_of_pos_right s hm; omega)
  · exact fun h i _ => h _
end
end G8

set_option Elab.async false
set_option linter.all false
set_option maxRecDepth 100000
set_option maxHeartbeats 1000000
namespace G8
open PySem PySem.Spec PyProof.Rows L2
section
variable {n r : Int} {m : Nat} {X Y Z : Nat → Int}
structure Rw (n r : Int) (m : Nat) (X : Nat → Int) : Prop where
  R : Rg n r
  P : Per n m X
  m0 : 0 < m
  lo : 0 ≤ X 0
  hi : X (m - 1) < n
theorem Per.wide (P : Per n m X) (i : Nat) : ∀ k : Nat, X i + k ≤ X (i + k)
  | 0 => by simp
  | k + 1 => by
    have := P.wide i k
    have := P.inc (i + k)
    rw [show i + (k + 1) = i + k + 1 by omega]
    omega
theorem Rw.mn (W : Rw n r m X) : (m : Int) ≤ n := by
  have h1 := W.P.wide 0 m
  have h2 := W.P.per 0
  rw [h2] at h1
  omega
theorem Rw.m24 (W : Rw n r m X) : m ≤ 24 := by
  have := W.mn
  have := W.R.n1
  omega
theorem Rw.n0 (W : Rw n r m X) : 0 < n := by have := W.R.n0; omega
theorem Rw.r0 (W : Rw n r m X) : 0 ≤ r := by have := W.R.r0; omega
theorem Rw.pm (W : Rw n r m X) : X m = X 0 + n := by have := W.P.per 0; rwa [show 0 + m = m by omega] at this
theorem Rw.at (W : Rw n r m X) {i : Nat} (h : i < m) : 0 ≤ X i ∧ X i < n := by
  have h1 := W.P.mono (Nat.zero_le i)
  have h2 := W.P.mono (show i ≤ m - 1 by omega)
  have := W.lo
  have := W.hi
  omega
theorem eqvAll_ints (ns ms : List Int) : PyData.eqvAll (ns.map .int) (ms.map .int) = decide (ns = ms) := PySem.W.ked_eqvAll ns ms
theorem gEq_tI (ns ms : List Int) : gEq (tI ns) (tI ms) = some (.bool (decide (ns = ms))) := by simp [gEq, eqvAll_ints]
theorem gNe_tI (ns ms : List Int) : gNe (tI ns) (tI ms) = some (.bool (!decide (ns = ms))) := by simp [gNe, eqvAll_ints]
theorem gEq_lI (ns ms : List Int) : gEq (lI ns) (lI ms) = some (.bool (decide (ns = ms))) := by simp [gEq, eqvAll_ints]
theorem gNe_lI (ns ms : List Int) : gNe (lI ns) (lI ms) = some (.bool (!decide (ns = ms))) := by simp [gNe, eqvAll_ints]
theorem asBls_r (m : Nat) (p : Nat → Bool) : asBls ((List.range m).map fun i => .bool (p i)) = some ((List.range m).map p) := by
  have e : ((List.range m).map fun i => PyData.bool (p i)) = ((List.range m).map p).map .bool := by rw [List.map_map]; rfl
  rw [e, asBls_map]
theorem gAll_r (m : Nat) (p : Nat → Bool) : gAll [.list ((List.range m).map fun i => .bool (p i))] = some (.bool (decide (∀ i, i < m → p i = true))) := by
  show (asBls _).map _ = _
  rw [asBls_r, Option.map_some]
  congr 2
  rw [Bool.eq_iff_iff]
  simp [List.all_eq_true]
theorem gEq_nil (ns : List Int) : gEq (.tuple (ns.map .int)) (.tuple []) = some (.bool (decide (ns = []))) := gEq_tI ns []
theorem m_is_good_row (W : Rw n r m X) : g_is_good_row [rg n r, tI (ls m X)] = some (.ok (.bool true)) := by
  have hM := W.m24
  have h0 := W.m0
  have hM5 : m ≤ 100000 := by omega
  have hM6 : m - 1 ≤ 100000 := by omega
  have hne : ls m X ≠ [] := by intro e; have := congrArg List.length e; simp at this; omega
  have l1 : lcD (tgN 2) dYes (dCall g_is_whole (aCons (dV 2) (aCons (dC (PyData.int 0)) (aCons (d2 gSub (d2 gIx (dB 0) (dC (PyData.int 0))) (dC (PyData.int 1))) aNil)))) [Sl.val (rg n r), Sl.val (tI (ls m X)), Sl.un, Sl.un] ((ls m X).map .int) (0, 0) = some (.ok ((List.range m).map fun _ => .bool true), (0, 0)) := by
    rw [← ls_int, lcD_map (e := fun _ => .bool true)]
    intro i hi
    have := W.at (List.mem_range.mp hi)
    exact ⟨_, rfl, rfl, by simp [m_is_whole, this.1]; omega⟩
  simp only [g_is_good_row, b_is_good_row]
  have e1 : (ls m X).drop 1 = ls (m - 1) fun i => X (i + 1) := by
    obtain ⟨k, rfl⟩ : ∃ k, m = k + 1 := ⟨m - 1, by omega⟩
    rw [ls_succ]; rfl
  have e2 : zipD ((ls m X).map .int) (((ls m X).map PyData.int).drop 1) = (List.range (m - 1)).map fun i => .tuple [.int (X i), .int (X (i + 1))] := by
    obtain ⟨k, rfl⟩ : ∃ k, m = k + 1 := ⟨m - 1, by omega⟩
    rw [← List.map_drop, e1, ls_snoc, show k + 1 - 1 = k by omega, ← zipD_ls]
    unfold zipD
    rw [List.map_append]
    congr 1
    have : ∀ (a b c : List D), a.length = b.length → (a ++ c).zip b = a.zip b := by
      intro a
      induction a with
      | nil => intro b c h; cases b with
        | nil => simp
        | cons _ _ => simp at h
      | cons x a ih => intro b c h; cases b with
        | nil => simp at h
        | cons y b => simp [ih b c (by simpa using h)]
    exact this _ _ _ (by simp)
  have l2 : lcD (tgT [2, 3]) dYes (d2 gLt (dV 2) (dV 3)) [Sl.val (rg n r), Sl.val (tI (ls m X)), Sl.un, Sl.un] ((List.range (m - 1)).map fun i => .tuple [.int (X i), .int (X (i + 1))]) (0, 0) = some (.ok ((List.range (m - 1)).map fun _ => .bool true), (0, 0)) := by
    rw [lcD_map (e := fun _ => .bool true)]
    intro i _
    exact ⟨_, rfl, rfl, by simp [gLt, W.P.inc i]⟩
  simp [l1, l2, gEq_nil, hne, hM5, gAll_r, cut_tail, e2, hM6, -List.drop_one, -List.map_drop, -List.map_const_fun]
end
end G8

set_option Elab.async false
set_option linter.all false
set_option maxRecDepth 100000
set_option maxHeartbeats 1000000
namespace G8
open PySem PySem.Spec PyProof.Rows L2
section
variable {n r : Int} {m : Nat} {X Y Z : Nat → Int}
theorem m_need_row (W : Rw n r m X) : g_need_row [rg n r, tI (ls m X)] = some (.ok .none) := by
  simp [g_need_row, b_need_row, m_need_ring W.R, m_is_good_row W]
/-! ### least and greatest of ints -/
def minL : List Int → Int
  | [] => 0
  | x :: xs => xs.foldl min x
def maxL : List Int → Int
  | [] => 0
  | x :: xs => xs.foldl max x
theorem foldl_min_le : ∀ (xs : List Int) (x a : Int), a ≤ xs.foldl min x ↔ a ≤ x ∧ ∀ y ∈ xs, a ≤ y
  | [], x, a => by simp
  | y :: ys, x, a => by
    simp only [List.foldl_cons, foldl_min_le ys, List.mem_cons, forall_eq_or_imp, ← and_assoc]
    exact and_congr_left fun _ => by omega
theorem foldl_max_le : ∀ (xs : List Int) (x a : Int), xs.foldl max x ≤ a ↔ x ≤ a ∧ ∀ y ∈ xs, y ≤ a
  | [], x, a => by simp
  | y :: ys, x, a => by
    simp only [List.foldl_cons, foldl_max_le ys, List.mem_cons, forall_eq_or_imp, ← and_assoc]
    exact and_congr_left fun _ => by omega
theorem le_minL {ns : List Int} (h : ns ≠ []) (a : Int) : a ≤ minL ns ↔ ∀ y ∈ ns, a ≤ y := by
  cases ns with
  | nil => exact absurd rfl h
  | cons x xs => simp [minL, foldl_min_le]
theorem maxL_le {ns : List Int} (h : ns ≠ []) (a : Int) : maxL ns ≤ a ↔ ∀ y ∈ ns, y ≤ a := by
  cases ns with
  | nil => exact absurd rfl h
  | cons x xs => simp [maxL, foldl_max_le]
theorem alikeB_ints (ns : List Int) : alikeB (ns.map .int) = true := by
  unfold alikeB
  have h1 : ((ns.map PyData.int).all fun d => !isNon d) = true := by rw [List.all_map]; simp [List.all_eq_true, isNon]
  have h2 : ((ns.map PyData.int).all fun x => (ns.map PyData.int).all fun y => PySem.W.alike x y) = true := by
    simp [List.all_eq_true, PySem.W.alike]
  rw [h1, h2, depth_ints, plain_ints]
  rfl
theorem gMin_t {ns : List Int} (h : ns ≠ []) : gMin [tI ns] = some (.int (minL ns)) := by
  cases ns with
  | nil => exact absurd rfl h
  | cons x xs =>
    show (if alikeB ((x :: xs).map .int) = true then some (PySem.W.minD (.int x) (xs.map .int)) else none) = _
    rw [if_pos (alikeB_ints _), PySem.W.minD_ints]
    rfl
theorem gMin_l {ns : List Int} (h : ns ≠ []) : gMin [lI ns] = some (.int (minL ns)) := by
  cases ns with
  | nil => exact absurd rfl h
  | cons x xs =>
    show (if alikeB ((x :: xs).map .int) = true then some (PySem.W.minD (.int x) (xs.map .int)) else none) = _
    rw [if_pos (alikeB_ints _), PySem.W.minD_ints]
    rfl
theorem gMax_t {ns : List Int} (h : ns ≠ []) : gMax [tI ns] = some (.int (maxL ns)) := by
  cases ns with
  | nil => exact absurd rfl h
  | cons x xs =>
    show (if alikeB ((x :: xs).map .int) = true then some (PySem.W.maxD (.int x) (xs.map .int)) else none) = _
    rw [if_pos (alikeB_ints _), PySem.W.maxD_ints]
    rfl
theorem gMax_l {ns : List Int} (h : ns ≠ []) : gMax [lI ns] = some (.int (maxL ns)) := by
  cases ns with
  | nil => exact absurd rfl h
  | cons x xs =>
    show (if alikeB ((x :: xs).map .int) = true then some (PySem.W.maxD (.int x) (xs.map .int)) else none) = _
    rw [if_pos (alikeB_ints _), PySem.W.maxD_ints]
    rfl
theorem ls_ne (h : 0 < m) (F : Nat → Int) : ls m F ≠ [] := fun e => by have := congrArg List.length e; simp at this; omega
theorem m_does_run (hm : 0 < m) (hM : m ≤ 1000) (hp : Y m = Y 0 + n) : g_does_run [rg n r, tI (ls m Y)] = some (.ok (.bool (decide (∀ i, i < m → r ≤ Y (i + 1) - Y i - 1)))) := by
  simp [g_does_run, b_does_run, m_all_gaps hm hM hp, gMin_t (ls_ne hm _), le_minL (ls_ne hm _), ls_mem]
theorem m_does_back (hm : 0 < m) (hM : m ≤ 1000) (hp : Y m = Y 0 + n) : g_does_back [rg n r, tI (ls m Y)] = some (.ok (.bool (decide (∀ i, i < m → Y (i + 1) - Y i - 1 ≤ r)))) := by
  simp [g_does_back, b_does_back, m_all_gaps hm hM hp, gMax_t (ls_ne hm _), maxL_le (ls_ne hm _), ls_mem]
/-! ### rows at a moment -/
/-- Z is the row that Y stands for -/
structure Of (n r : Int) (m : Nat) (Y Z : Nat → Int) : Prop where
  W : Rw n r m Z
  sh : ∃ (s : Nat) (q : Int), ∀ i, Z i = Y (i + s) - q * n
theorem rowOf (R : Rg n r) (P : Per n m Y) (hm : 0 < m) : ∃ Z, isort (ls m fun i => Y i % n) = ls m Z ∧ Of n r m Y Z := by
  obtain ⟨s, q, _, h1, h2, h3⟩ := canon P (by have := R.n0; omega) hm
  exact ⟨_, h1, ⟨⟨R, P.sh s _, hm, by simpa using h2, h3⟩, s, q, fun _ => rfl⟩⟩
theorem Of.sorted {Y Z : Nat → Int} (O : Of n r m Y Z) (P : Per n m Y) : isort (ls m fun i => Y i % n) = ls m Z := by
  obtain ⟨s, q, h⟩ := O.sh
  rw [← row_sh P s q]
  have e : (fun i => (Y (i + s) - q * n) % n) = fun i => Z i % n := funext fun i => by rw [h]
  rw [e]
  have e2 : (ls m fun i => Z i % n) = ls m Z := ls_congr fun i hi => Int.emod_eq_of_lt (O.W.at hi).1 (O.W.at hi).2
  rw [e2]
  exact isort_eq (.refl _) (ls_pairwise fun i j hij _ => Int.le_of_lt (O.W.P.lt hij))
theorem Of.next {Y Z : Nat → Int} (O : Of n r m Y Z) (P : Per n m Y) : g_next_row [rg n r, tI (ls m Z)] = some (.ok (tI (isort (ls m fun i => stp r Y i % n)))) := by
  rw [m_next_row O.W.n0 O.W.m0 (by have := O.W.m24; omega) O.W.pm]
  obtain ⟨s, q, h⟩ := O.sh
  have e : stp r Z = fun i => stp r Y (i + s) - q * n := by rw [← stp_sh]; exact congrArg _ (funext h)
  rw [e, row_sh (P.stp O.W.r0)]
theorem Of.runs {Y Z : Nat → Int} (O : Of n r m Y Z) (P : Per n m Y) : (∀ i, i < m → r ≤ Z (i + 1) - Z i - 1) ↔ Runs r Y := by
  obtain ⟨s, q, h⟩ := O.sh
  have := per_all (p := fun x => r ≤ x) (F := fun i => Y (i + 1) - Y i - 1) (m := m) (fun i => by
    show Y (i + m + 1) - Y (i + m) - 1 = _
    rw [show i + m + 1 = i + 1 + m by omega, P.per, P.per]; omega) O.W.m0 s
  refine Iff.trans ?_ this
  refine forall_congr' fun i => forall_congr' fun _ => ?_
  rw [h, h, show i + 1 + s = i + s + 1 by omega]
  omega
theorem Of.backs {Y Z : Nat → Int} (O : Of n r m Y Z) (P : Per n m Y) : (∀ i, i < m → Z (i + 1) - Z i - 1 ≤ r) ↔ Backs r Y := by
  obtain ⟨s, q, h⟩ := O.sh
  have := per_all (p := fun x => x ≤ r) (F := fun i => Y (i + 1) - Y i - 1) (m := m) (fun i => by
    show Y (i + m + 1) - Y (i + m) - 1 = _
    rw [show i + m + 1 = i + 1 + m by omega, P.per, P.per]; omega) O.W.m0 s
  refine Iff.trans ?_ this
  refine forall_congr' fun i => forall_congr' fun _ => ?_
  rw [h, h, show i + 1 + s = i + s + 1 by omega]
  omega
theorem Rw.of (W : Rw n r m X) : Of n r m X X := ⟨W, 0, 0, fun i => by simp⟩
theorem Rw.row0 (W : Rw n r m X) : rowAt n r m X 0 = ls m X := W.of.sorted W.P
theorem Rw.row (W : Rw n r m X) (t : Nat) : ∃ Z, rowAt n r m X t = ls m Z ∧ Of n r m (wlk r X t) Z := rowOf W.R (W.P.wlk W.r0 t) W.m0
theorem Rw.next (W : Rw n r m X) (t : Nat) : g_next_row [rg n r, tI (rowAt n r m X t)] = some (.ok (tI (rowAt n r m X (t + 1)))) := by
  obtain ⟨Z, e, O⟩ := W.row t
  rw [e]
  exact O.next (W.P.wlk W.r0 t)
open Classical in
theorem Rw.run (W : Rw n r m X) (t : Nat) : g_does_run [rg n r, tI (rowAt n r m X t)] = some (.ok (.bool (decide (Runs r (wlk r X t))))) := by
  obtain ⟨Z, e, O⟩ := W.row t
  rw [e, m_does_run O.W.m0 (by have := O.W.m24; omega) O.W.pm]
  congr 3
  rw [decide_eq_decide]
  exact O.runs (W.P.wlk W.r0 t)
open Classical in
theorem Rw.back (W : Rw n r m X) (t : Nat) : g_does_back [rg n r, tI (rowAt n r m X t)] = some (.ok (.bool (decide (Backs r (wlk r X t))))) := by
  obtain ⟨Z, e, O⟩ := W.row t
  rw [e, m_does_back O.W.m0 (by have := O.W.m24; omega) O.W.pm]
  congr 3
  rw [decide_eq_decide]
  exact O.backs (W.P.wlk W.r0 t)
/-- the first settled moment -/
structure Sett (r : Int) (m : Nat) (X : Nat → Int) (T : Nat) : Prop where
  le : T ≤ m - 1
  is : Runs r (wlk r X T) ∨ Backs r (wlk r X T)
  first : ∀ t, t < T → ¬ (Runs r (wlk r X t) ∨ Backs r (wlk r X t))
theorem Rw.sett (W : Rw n r m X) : ∃ T, Sett r m X T := by
  have h := settles (r := r) W.P W.m0 (t := m - 1) (by have := W.m0; omega)
  obtain ⟨T, h1, h2, h3⟩ := first_at (p := fun t => Runs r (wlk r X t) ∨ Backs r (wlk r X t)) (fun _ => Classical.em _) (m - 1) (by
    split at h
    · exact .inl h
    · exact .inr h)
  exact ⟨T, h1, h2, h3⟩
open Classical in
theorem m_settled (W : Rw n r m X) {T : Nat} (S : Sett r m X T) : g_settled [rg n r, tI (ls m X)] = some (.ok (.tuple [.int T, .str (if Runs r (wlk r X T) then "runs" else "backs"), tI (rowAt n r m X T)])) := by
  have loop : ∀ k t fuel, t + k = T → k < fuel → sWhile fuel (dAnd (dNot (dCall g_does_run (aCons (dV 0) (aCons (dV 1) aNil)))) (dNot (dCall g_does_back (aCons (dV 0) (aCons (dV 1) aNil))))) (sSeq (sPar [2, 1] (aCons (d2 gAdd (dV 2) (dC (.int 1))) (aCons (dCall g_next_row (aCons (dV 0) (aCons (dV 1) aNil))) aNil))) sNil)
      [.val (rg n r), .val (tI (rowAt n r m X t)), .val (.int t)] (0, 0) = some (.nx [.val (rg n r), .val (tI (rowAt n r m X T)), .val (.int T)], (0, 0)) := by
    intro k
    induction k with
    | zero =>
      intro t fuel ht hf
      obtain ⟨f, rfl⟩ : ∃ f, fuel = f + 1 := ⟨fuel - 1, by omega⟩
      obtain rfl : t = T := by omega
      rcases S.is with h | h
      · simp [sWhile, W.run, h]
      · by_cases h' : Runs r (wlk r X t) <;> simp [sWhile, W.run, W.back, h, h']
    | succ k ih =>
      intro t fuel ht hf
      obtain ⟨f, rfl⟩ : ∃ f, fuel = f + 1 := ⟨fuel - 1, by omega⟩
      have h := S.first t (by omega)
      have h1 : ¬ Runs r (wlk r X t) := fun z => h (.inl z)
      have h2 : ¬ Backs r (wlk r X t) := fun z => h (.inr z)
      have := ih (t + 1) f (by omega) (by omega)
      rw [show ((t + 1 : Nat) : Int) = (t : Int) + 1 by omega] at this
      simp [sWhile, W.run, W.back, h1, h2, W.next, this]
  have l := loop T 0 1000 (by omega) (by have := S.le; have := W.m24; omega)
  rw [W.row0, show ((0 : Nat) : Int) = 0 from rfl] at l
  simp only [g_settled, b_settled]
  by_cases h : Runs r (wlk r X T) <;> simp [l, W.run, h]
theorem Rw.again (W : Rw n r m X) {T : Nat} (S : Sett r m X T) : rowAt n r m X (T + n.toNat) = rowAt n r m X T := by
  unfold rowAt
  rw [wlk_add]
  have hn := W.n0
  rcases S.is with h | h
  · rw [h.on]
    congr 2
    funext i
    rw [show ((n.toNat : Nat) : Int) = n by omega, Int.add_mul_emod_self_right]
  · rw [h.on]
    have := row_sh (W.P.wlk W.r0 T) n.toNat 1
    rw [show (1 : Int) * n = (n.toNat : Int) by omega] at this
    exact this
structure Lap (n r : Int) (m : Nat) (X : Nat → Int) (T L : Nat) : Prop where
  pos : 0 < L
  le : L ≤ n.toNat
  is : rowAt n r m X (T + L) = rowAt n r m X T
  first : ∀ k, 0 < k → k < L → rowAt n r m X (T + k) ≠ rowAt n r m X T
theorem Rw.lap (W : Rw n r m X) {T : Nat} (S : Sett r m X T) : ∃ L, Lap n r m X T L := by
  have hn := W.n0
  obtain ⟨s, h1, h2, h3⟩ := first_at (p := fun t => rowAt n r m X (T + (t + 1)) = rowAt n r m X T) (fun _ => Decidable.em _) (n.toNat - 1) (by
    rw [show n.toNat - 1 + 1 = n.toNat by omega]; exact W.again S)
  refine ⟨s + 1, by omega, by omega, h2, fun k k0 k1 => ?_⟩
  have := h3 (k - 1) (by omega)
  rwa [show k - 1 + 1 = k by omega] at this
theorem m_round_at (W : Rw n r m X) {T L : Nat} (S : Sett r m X T) (Q : Lap n r m X T L) : g_round_at [rg n r, tI (ls m X)] = some (.ok (.tuple [.int T, .int L])) := by
  have hn1 := W.R.n1
  have loop : ∀ (w : D) k t fuel, t + k = L → 0 < t → k < fuel → sWhile fuel (d2 gNe (dV 5) (dV 4)) (sSeq (sPar [5, 6] (aCons (dCall g_next_row (aCons (dV 0) (aCons (dV 5) aNil))) (aCons (d2 gAdd (dV 6) (dC (.int 1))) aNil))) sNil)
      [.val (rg n r), .val (tI (ls m X)), .val (.int T), .val w, .val (tI (rowAt n r m X T)), .val (tI (rowAt n r m X (T + t))), .val (.int t)] (0, 0) = some (.nx [.val (rg n r), .val (tI (ls m X)), .val (.int T), .val w, .val (tI (rowAt n r m X T)), .val (tI (rowAt n r m X (T + L))), .val (.int L)], (0, 0)) := by
    intro w k
    induction k with
    | zero =>
      intro t fuel ht h0 hf
      obtain ⟨f, rfl⟩ : ∃ f, fuel = f + 1 := ⟨fuel - 1, by omega⟩
      obtain rfl : t = L := by omega
      simp [sWhile, gNe_tI, Q.is]
    | succ k ih =>
      intro t fuel ht h0 hf
      obtain ⟨f, rfl⟩ : ∃ f, fuel = f + 1 := ⟨fuel - 1, by omega⟩
      have h := Q.first t (by omega) (by omega)
      have := ih (t + 1) f (by omega) (by omega) (by omega)
      rw [show ((t + 1 : Nat) : Int) = (t : Int) + 1 by omega, ← Nat.add_assoc] at this
      simp [sWhile, gNe_tI, h, W.next, this]
  have h0 := Q.pos
  have hl := Q.le
  have l := fun w => loop w (L - 1) 1 1000 (by omega) (by omega) (by omega)
  simp only [g_round_at, b_round_at]
  simp [m_settled W S, W.next, -Nat.reduceAdd]
  have e : ((1 : Nat) : Int) = 1 := rfl
  rw [e] at l
  simp [l]
theorem m_round_of (W : Rw n r m X) {T L : Nat} (S : Sett r m X T) (Q : Lap n r m X T L) : g_round_of [rg n r, tI (ls m X)] = some (.ok (.tuple [.int T, .int L])) := by
  simp [g_round_of, b_round_of, m_need_row W, m_round_at W S Q]
end
end G8

set_option Elab.async false
set_option linter.all false
set_option maxRecDepth 100000
set_option maxHeartbeats 1000000
namespace G8
open PySem PySem.Spec PyProof.Rows L2
section
variable {n r : Int} {m : Nat} {X Y Z : Nat → Int}
/-! ### far -/
theorem Per.div (P : Per n m X) (i : Nat) : X i = (i / m : Nat) * n + X (i % m) := by
  have h := P.mul (i % m) (i / m)
  rw [show i % m + i / m * m = i by rw [Nat.mul_comm]; exact Nat.mod_add_div i m] at h
  omega
theorem atI_ls {i : Nat} (h : i < m) (F : Nat → Int) : atI ((ls m F).map PyData.int) (i : Int) = some (.int (F i)) := by
  rw [atI_nat (by simpa using h)]
  simp [ls]
theorem m_ahead_of (W : Rw n r m X) {c : Nat} (hc : c < m) (k : Nat) : g_ahead_of [rg n r, tI (ls m X), .int c, .int k] = some (.ok (.int (X (c + k) - X c))) := by
  have hm := W.m0
  have hM := W.m24
  have hn := W.n0
  have hn1 := W.R.n1
  have e1 : gDiv (.int ((c : Int) + k)) (.int (m : Int)) = some (.int ((c + k) / m : Nat)) := by
    rw [gDiv_s (by omega) (by omega)]; norm_cast
  have e2 : gMod (.int ((c : Int) + k)) (.int (m : Int)) = some (.int ((c + k) % m : Nat)) := by
    rw [gMod_int (by omega)]; norm_cast
  have e3 : gMul (.int (((c + k) / m : Nat) : Int)) (.int n) = some (.int (((c + k) / m : Nat) * n)) := gMul_r (by omega) (by omega)
  have e4 := atI_ls (Nat.mod_lt (c + k) hm) X
  have e5 := atI_ls hc X
  have e6 := W.P.div (c + k)
  simp only [g_ahead_of, b_ahead_of]
  simp [e1, e2, e3, e4, e5, -Int.natCast_ediv, -Int.natCast_emod]
  omega
/-- the lags asked: from, and how many -/
def askB (n r : Int) (m t : Nat) : Nat := if t < 2 * m then 0 else if (m : Int) * (r + 1) ≤ n then 0 else t - m + 1
def askC (n r : Int) (m t : Nat) : Nat := if t < 2 * m then t + 1 else m
theorem rng_nat (a c : Nat) : rng (a : Int) ((a : Int) + c) = (List.range c).map fun i => .int ((a + i : Nat) : Int) := by
  unfold rng
  rw [show ((a : Int) + c - a).toNat = c by omega]
  refine List.map_congr_left fun i _ => ?_
  simp
theorem m_asked (W : Rw n r m X) {t : Nat} (ht : t ≤ 1000000000000000000) : g_asked [rg n r, tI (ls m X), .int t] = some (.ok (.list ((List.range (askC n r m t)).map fun i => .int ((askB n r m t + i : Nat) : Int)))) := by
  have hm := W.m0
  have hM := W.m24
  have hn := W.n0
  have hn1 := W.R.n1
  have hr := W.R.r1
  have hr0 := W.R.r0
  have e1 : gMul (.int 2) (.int (m : Int)) = some (.int (2 * m)) := gMul_l (by omega) (by omega)
  have e2 : gMul (.int (m : Int)) (.int (r + 1)) = some (.int (m * (r + 1))) := gMul_l (by omega) (by omega)
  unfold askB askC
  simp only [g_asked, b_asked]
  by_cases h1 : t < 2 * m
  · have h1' : (t : Int) < 2 * m := by omega
    have h2 : okRg 0 ((t : Int) + 1) = true := okRg_s (by omega) (by omega) (by omega) (by omega) (by omega)
    have h3 := rng_nat 0 (t + 1)
    simp at h3
    simp [e1, h1, h1', h2, h3]
  · have h1' : ¬ (t : Int) < 2 * m := by omega
    by_cases h4 : (m : Int) * (r + 1) ≤ n
    · have h2 : okRg 0 (m : Int) = true := okRg_s (by omega) (by omega) (by omega) (by omega) (by omega)
      have h3 := rng_nat 0 m
      simp at h3
      simp [e1, e2, h1, h1', h2, h3, h4]
    · have h2 : okRg ((t : Int) - m + 1) ((t : Int) + 1) = true := okRg_s (by omega) (by omega) (by omega) (by omega) (by omega)
      have h3 := rng_nat (t - m + 1) m
      rw [show (((t - m + 1 : Nat) : Int)) = (t : Int) - m + 1 by omega, show (t : Int) - m + 1 + m = (t : Int) + 1 by omega] at h3
      simp [e1, e2, h1, h1', h2, h3, h4]
theorem tight_up {a : Nat → Int} (hm : 0 < m) (h : ∀ k, a (k + m) ≤ a k) (t : Nat) : ∀ j k, k + j = t → ∃ i, i < m ∧ i ≤ t ∧ a (t - i) ≤ a k := by
  intro j
  induction j using Nat.strongRecOn with
  | ind j ih =>
    intro k hk
    by_cases c : j < m
    · exact ⟨j, c, by omega, by rw [show t - j = k by omega]; exact Int.le_refl _⟩
    · obtain ⟨i, h1, h2, h3⟩ := ih (j - m) (by omega) (k + m) (by omega)
      exact ⟨i, h1, h2, Int.le_trans h3 (h k)⟩
/-- the lags asked hold a least one -/
theorem asked_has (W : Rw n r m X) (t i : Nat) : (∀ j, j < askC n r m t → askB n r m t + j ≤ t) ∧ 0 < askC n r m t ∧ ∃ j, j < askC n r m t ∧ X (i + (askB n r m t + j)) - (r + 1) * ((askB n r m t + j : Nat) : Int) = mn (fun k => X (i + k) - (r + 1) * (k : Int)) t := by
  have hm := W.m0
  have P := W.P
  generalize ha : (fun k : Nat => X (i + k) - (r + 1) * (k : Int)) = a
  have ha' : ∀ k, X (i + k) - (r + 1) * (k : Int) = a k := fun k => congrFun ha k
  simp only [ha']
  have hk : ∀ k, a (k + m) = a k + (n - m * (r + 1)) := fun k => by
    rw [← ha', ← ha', ← Nat.add_assoc, P.per, show ((k + m : Nat) : Int) = (k : Int) + m by omega, Int.mul_add, Int.mul_comm (r + 1) (m : Int)]
    omega
  unfold askB askC
  by_cases h1 : t < 2 * m
  · simp only [h1, if_true]
    refine ⟨fun j hj => by omega, by omega, ?_⟩
    obtain ⟨k, h2, h3⟩ := mn_in a t
    exact ⟨k, by omega, by rw [Nat.zero_add]; exact h3.symm⟩
  · by_cases h4 : (m : Int) * (r + 1) ≤ n
    · simp only [h1, h4, if_true, if_false]
      refine ⟨fun j hj => by omega, by omega, ?_⟩
      obtain ⟨k, h2, h3⟩ := mn_in a (m - 1)
      refine ⟨k, by omega, ?_⟩
      rw [Nat.zero_add, mn_room hm (fun k => by have := hk k; omega) (show m ≤ t + 1 by omega)]
      exact h3.symm
    · simp only [h1, h4, if_false]
      refine ⟨fun j hj => by omega, by omega, ?_⟩
      obtain ⟨k, h2, h3⟩ := mn_in a t
      obtain ⟨j, h5, h6, h7⟩ := tight_up (a := a) hm (fun k => by have := hk k; omega) t (t - k) k (by omega)
      refine ⟨m - 1 - j, by omega, ?_⟩
      rw [show t - m + 1 + (m - 1 - j) = t - j by omega]
      have := mn_le a (show t - j ≤ t by omega)
      omega
/-! ### least and greatest of pairs -/
abbrev pD (p : Int × Int) : D := .tuple [.int p.1, .int p.2]
def plt (p q : Int × Int) : Prop := p.1 < q.1 ∨ (p.1 = q.1 ∧ p.2 < q.2)
theorem minD_pairs : ∀ (xs : List (Int × Int)) (x : Int × Int), ∃ p, p ∈ x :: xs ∧ PySem.W.minD (pD x) (xs.map pD) = pD p ∧ ∀ q, q ∈ x :: xs → ¬ plt q p
  | [], x => ⟨x, List.mem_cons_self .., rfl, fun q hq => by
      have := List.mem_singleton.mp hq
      subst this
      unfold plt
      omega⟩
  | y :: ys, x => by
    have e : PySem.W.minD (pD x) ((y :: ys).map pD) = PySem.W.minD (if PySem.W.dataLt (pD y) (pD x) then pD y else pD x) (ys.map pD) := rfl
    rw [e, PySem.W.dataLt_ii]
    by_cases c : plt y x
    · unfold plt at c
      rw [decide_eq_true c, if_pos rfl]
      obtain ⟨p, h1, h2, h3⟩ := minD_pairs ys y
      refine ⟨p, List.mem_cons_of_mem _ h1, h2, fun q hq => ?_⟩
      rcases List.mem_cons.mp hq with rfl | hq
      · have := h3 y (List.mem_cons_self ..)
        unfold plt at *
        omega
      · exact h3 q hq
    · unfold plt at c
      rw [decide_eq_false c, if_neg (by decide)]
      obtain ⟨p, h1, h2, h3⟩ := minD_pairs ys x
      refine ⟨p, ?_, h2, fun q hq => ?_⟩
      · rcases List.mem_cons.mp h1 with rfl | h1
        · exact List.mem_cons_self ..
        · exact List.mem_cons_of_mem _ (List.mem_cons_of_mem _ h1)
      · rcases List.mem_cons.mp hq with rfl | hq
        · exact h3 q (List.mem_cons_self ..)
        · rcases List.mem_cons.mp hq with rfl | hq
          · have := h3 x (List.mem_cons_self ..)
            unfold plt at *
            omega
          · exact h3 q (List.mem_cons_of_mem _ hq)
theorem maxD_pairs : ∀ (xs : List (Int × Int)) (x : Int × Int), ∃ p, p ∈ x :: xs ∧ PySem.W.maxD (pD x) (xs.map pD) = pD p ∧ ∀ q, q ∈ x :: xs → ¬ plt p q
  | [], x => ⟨x, List.mem_cons_self .., rfl, fun q hq => by
      have := List.mem_singleton.mp hq
      subst this
      unfold plt
      omega⟩
  | y :: ys, x => by
    have e : PySem.W.maxD (pD x) ((y :: ys).map pD) = PySem.W.maxD (if PySem.W.dataLt (pD x) (pD y) then pD y else pD x) (ys.map pD) := rfl
    rw [e, PySem.W.dataLt_ii]
    by_cases c : plt x y
    · unfold plt at c
      rw [decide_eq_true c, if_pos rfl]
      obtain ⟨p, h1, h2, h3⟩ := maxD_pairs ys y
      refine ⟨p, List.mem_cons_of_mem _ h1, h2, fun q hq => ?_⟩
      rcases List.mem_cons.mp hq with rfl | hq
      · have := h3 y (List.mem_cons_self ..)
        unfold plt at *
        omega
      · exact h3 q hq
    · unfold plt at c
      rw [decide_eq_false c, if_neg (by decide)]
      obtain ⟨p, h1, h2, h3⟩ := maxD_pairs ys x
      refine ⟨p, ?_, h2, fun q hq => ?_⟩
      · rcases List.mem_cons.mp h1 with rfl | h1
        · exact List.mem_cons_self ..
        · exact List.mem_cons_of_mem _ (List.mem_cons_of_mem _ h1)
      · rcases List.mem_cons.mp hq with rfl | hq
        · exact h3 q (List.mem_cons_self ..)
        · rcases List.mem_cons.mp hq with rfl | hq
          · have := h3 x (List.mem_cons_self ..)
            unfold plt at *
            omega
          · exact h3 q (List.mem_cons_of_mem _ hq)
theorem alikeB_pairs (ps : List (Int × Int)) : alikeB (ps.map pD) = true := by
  unfold alikeB
  have h1 : ((ps.map pD).all fun d => !isNon d) = true := by simp [List.all_eq_true]
  have h2 : ((ps.map pD).all fun x => (ps.map pD).all fun y => PySem.W.alike x y) = true := by
    simp [List.all_eq_true, PySem.W.alike, PySem.W.alikeAll]
  have h3 : PyData.depthAll (ps.map pD) ≤ 1 := by
    induction ps with
    | nil => simp [PyData.depthAll]
    | cons p r ih =>
      have := ih (by simp [List.all_eq_true]) (by simp [List.all_eq_true, PySem.W.alike, PySem.W.alikeAll])
      simp [PyData.depthAll, PyData.depth]
      omega
  have h4 : PyData.plainAll (ps.map pD) = true := by
    clear h1 h2 h3
    induction ps with
    | nil => rfl
    | cons p r ih => simp [ih]
  rw [h1, h2, h4]
  simp
  omega
theorem gMin_pairs {ps : List (Int × Int)} (h : ps ≠ []) : ∃ p, p ∈ ps ∧ gMin [.list (ps.map pD)] = some (pD p) ∧ ∀ q, q ∈ ps → ¬ plt q p := by
  cases ps with
  | nil => exact absurd rfl h
  | cons x xs =>
    obtain ⟨p, h1, h2, h3⟩ := minD_pairs xs x
    refine ⟨p, h1, ?_, h3⟩
    show (if alikeB ((x :: xs).map pD) = true then some (PySem.W.minD (pD x) (xs.map pD)) else none) = _
    rw [if_pos (alikeB_pairs _), h2]
theorem gMax_pairs {ps : List (Int × Int)} (h : ps ≠ []) : ∃ p, p ∈ ps ∧ gMax [.list (ps.map pD)] = some (pD p) ∧ ∀ q, q ∈ ps → ¬ plt p q := by
  cases ps with
  | nil => exact absurd rfl h
  | cons x xs =>
    obtain ⟨p, h1, h2, h3⟩ := maxD_pairs xs x
    refine ⟨p, h1, ?_, h3⟩
    show (if alikeB ((x :: xs).map pD) = true then some (PySem.W.maxD (pD x) (xs.map pD)) else none) = _
    rw [if_pos (alikeB_pairs _), h2]
/-- a lag at which cart i's place at t is told, the least among those asked -/
structure Lag (n r : Int) (m : Nat) (X : Nat → Int) (t i k : Nat) : Prop where
  lo : askB n r m t ≤ k
  hi : k < askB n r m t + askC n r m t
  is : X (i + k) - (r + 1) * (k : Int) = mn (fun k => X (i + k) - (r + 1) * (k : Int)) t
  first : ∀ j, askB n r m t ≤ j → j < k → X (i + j) - (r + 1) * (j : Int) ≠ mn (fun k => X (i + k) - (r + 1) * (k : Int)) t
theorem m_least_at (W : Rw n r m X) {t c : Nat} (ht : t ≤ 1000000000000000000) (hc : c < m) : ∃ k, Lag n r m X t c k ∧ g_least_at [rg n r, tI (ls m X), .int c, .int t] = some (.ok (.tuple [.int (wlk r X t c - X c), .int k])) := by
  obtain ⟨hb, h0, j, hj, ej⟩ := asked_has W t c
  have hr := W.R.r1
  have hr0 := W.R.r0
  have hM := W.m24
  have hC : askC n r m t ≤ 48 := by unfold askC; split <;> omega
  let v : Nat → Int × Int := fun i => (X (c + (askB n r m t + i)) - X c + r * ((t : Int) - (askB n r m t + i : Nat)) - (askB n r m t + i : Nat), (askB n r m t + i : Nat))
  obtain ⟨p, hp, hg, hl⟩ := gMin_pairs (ps := (List.range (askC n r m t)).map v) (by simp; omega)
  obtain ⟨i, hi, rfl⟩ := List.mem_map.mp hp
  have hi := List.mem_range.mp hi
  have hv : ∀ i, (v i).1 = X (c + (askB n r m t + i)) - (r + 1) * ((askB n r m t + i : Nat) : Int) + (r * t - X c) := fun i => by
    show X (c + (askB n r m t + i)) - X c + r * ((t : Int) - (askB n r m t + i : Nat)) - (askB n r m t + i : Nat) = _
    rw [Int.mul_sub, Int.add_mul]
    omega
  have hmin : X (c + (askB n r m t + i)) - (r + 1) * ((askB n r m t + i : Nat) : Int) = mn (fun k => X (c + k) - (r + 1) * (k : Int)) t := by
    have h1 := hl (v j) (List.mem_map.mpr ⟨j, List.mem_range.mpr hj, rfl⟩)
    unfold plt at h1
    rw [hv, hv] at h1
    have h2 := mn_le (fun k => X (c + k) - (r + 1) * (k : Int)) (hb i hi)
    omega
  refine ⟨askB n r m t + i, ⟨by omega, by omega, hmin, fun k h1 h2 e => ?_⟩, ?_⟩
  · have h3 := hl (v (k - askB n r m t)) (List.mem_map.mpr ⟨_, List.mem_range.mpr (by omega), rfl⟩)
    unfold plt at h3
    rw [hv, hv] at h3
    have h4 : (v (k - askB n r m t)).2 = (k : Int) := by
      show ((askB n r m t + (k - askB n r m t) : Nat) : Int) = _
      omega
    have h5 : (v i).2 = ((askB n r m t + i : Nat) : Int) := rfl
    rw [h4, h5, show askB n r m t + (k - askB n r m t) = k by omega] at h3
    omega
  · have loop : ∀ (k : Nat) (l : List Nat) (ds : List D) (s : Sl), ds.length + l.length ≤ 48 → ∃ s', forD (tgN 5) (sSeq (sApp 4 (dTup (aCons (d2 gSub (d2 gAdd (dCall g_ahead_of (aCons (dV 0) (aCons (dV 1) (aCons (dV 2) (aCons (dV 5) aNil))))) (d2 gMul (d2 gIx (dB 0) (dC (.int 1))) (d2 gSub (dV 3) (dV 5)))) (dV 5)) (aCons (dV 5) aNil)))) sNil) (l.map fun i => .int ((askB n r m t + i : Nat) : Int)) [.val (rg n r), .val (tI (ls m X)), .val (.int c), .val (.int t), .own ds, s] (0, 0)
        = some (.nx [.val (rg n r), .val (tI (ls m X)), .val (.int c), .val (.int t), .own (ds ++ (l.map v).map pD), s'], (0, 0)) := by
      intro _ l
      induction l with
      | nil => intro ds s _; exact ⟨s, by simp [forD]⟩
      | cons x xs ih =>
        intro ds s hd
        rw [List.length_cons] at hd
        obtain ⟨s', e⟩ := ih (ds ++ [pD (v x)]) (.val (.int ((askB n r m t + x : Nat) : Int))) (by rw [List.length_append]; simp; omega)
        refine ⟨s', ?_⟩
        have e1 : gMul (.int r) (.int ((t : Int) - (askB n r m t + x : Nat))) = some (.int (r * ((t : Int) - (askB n r m t + x : Nat)))) := gMul_l (by omega) (by omega)
        have e2 := m_ahead_of W hc (askB n r m t + x)
        have hd' : ds.length < 100000 := by omega
        rw [List.map_cons, forD]
        simp only [tgN, List.set_cons_succ, List.set_cons_zero, sSeq, sApp, sNil, List.getElem?_cons_succ, List.getElem?_cons_zero, dTup, aCons, aNil, d2, dCall, dV, dB, dC, bnd, bndS, e2, gIx, atI_1, lft, gSub_int, e1, gAdd, List.length_cons, List.length_nil, Nat.reduceAdd, Nat.reduceLeDiff, if_true, hd']
        rw [List.append_assoc] at e
        exact e
    obtain ⟨s', e⟩ := loop 0 (List.range (askC n r m t)) [] .un (by simp; omega)
    have e4 : (v i).1 = wlk r X t c - X c := by rw [hv, hmin, wlk_eq]; omega
    have e5 : (v i).2 = ((askB n r m t + i : Nat) : Int) := rfl
    simp only [g_least_at, b_least_at]
    simp only [run, startR, List.length_cons, List.length_nil, Nat.reduceAdd, if_true, List.map_cons, List.map_nil, List.cons_append, List.nil_append, Nat.reduceSub, List.replicate_succ, List.replicate_zero, sSeq, sSetF, fLst, aNil, bnd, bndS, Nat.zero_le, List.set_cons_succ, List.set_cons_zero, sFor, fSeq, dCall, aCons, dV, List.getElem?_cons_succ, List.getElem?_cons_zero, m_asked W ht, gSeq, lft, e, sFrz, List.nil_append, sRet, dCB, hg]
    rw [← e4, ← e5]
end
end G8

set_option Elab.async false
set_option linter.all false
set_option maxRecDepth 100000
set_option maxHeartbeats 1000000
namespace G8
open PySem PySem.Spec PyProof.Rows L2
section
variable {n r : Int} {m : Nat} {X Y Z : Nat → Int}
theorem rng0 (c : Nat) : rng 0 (c : Int) = (List.range c).map fun i => .int (i : Int) := by
  have := rng_nat 0 c
  simpa using this
theorem m_all_gone (W : Rw n r m X) {t : Nat} (ht : t ≤ 1000000000000000000) : g_all_gone [rg n r, tI (ls m X), .int t] = some (.ok (tI (ls m fun i => wlk r X t i - X i))) := by
  have hM := W.m24
  have h1 : okR (m : Int) = true := okR_s (by omega) (by omega)
  have h2 : m ≤ 100000 := by omega
  simp only [g_all_gone, b_all_gone]
  simp [h1, h2, rng0]
  rw [lcD_map (e := fun i => .int (wlk r X t i - X i)), ls_int]
  intro i hi
  obtain ⟨k, _, e⟩ := m_least_at W ht (List.mem_range.mp hi)
  exact ⟨_, rfl, rfl, by simp [e]⟩
/-- how many carts pass a cell's gate in t beats -/
def passes (n r : Int) (m : Nat) (X : Nat → Int) (c : Int) (t : Nat) : Int := (ls m fun i => (wlk r X t i - c - 1) / n - (X i - c - 1) / n).sum
theorem m_passed_by (W : Rw n r m X) {t : Nat} (ht : t ≤ 1000000000000000000) (c : Int) : g_passed_by [rg n r, tI (ls m X), .int c, .int t] = some (.ok (.int (passes n r m X c t))) := by
  have hM := W.m24
  have hn := W.n0
  have hn1 := W.R.n1
  have loop : ∀ (l : List Nat) (a : Int) (s1 s2 : Sl), ∃ s1' s2', forD (tgT [5, 6]) (sSeq (sSet 4 (d2 gSub (d2 gAdd (dV 4) (d2 gDiv (d2 gSub (d2 gSub (d2 gAdd (dV 5) (dV 6)) (dV 2)) (dC (.int 1))) (d2 gIx (dB 0) (dC (.int 0))))) (d2 gDiv (d2 gSub (d2 gSub (dV 5) (dV 2)) (dC (.int 1))) (d2 gIx (dB 0) (dC (.int 0)))))) sNil)
      (l.map fun i => .tuple [.int (X i), .int (wlk r X t i - X i)]) [.val (rg n r), .val (tI (ls m X)), .val (.int c), .val (.int t), .val (.int a), s1, s2] (0, 0)
      = some (.nx [.val (rg n r), .val (tI (ls m X)), .val (.int c), .val (.int t), .val (.int (a + (l.map fun i => (wlk r X t i - c - 1) / n - (X i - c - 1) / n).sum)), s1', s2'], (0, 0)) := by
    intro l
    induction l with
    | nil => intro a s1 s2; exact ⟨s1, s2, by simp [forD]⟩
    | cons x xs ih =>
      intro a s1 s2
      obtain ⟨s1', s2', e⟩ := ih (a + (wlk r X t x - c - 1) / n - (X x - c - 1) / n) (.val (.int (X x))) (.val (.int (wlk r X t x - X x)))
      refine ⟨s1', s2', ?_⟩
      have d1 : gDiv (.int (X x + (wlk r X t x - X x) - c - 1)) (.int n) = some (.int ((wlk r X t x - c - 1) / n)) := by
        rw [gDiv_s hn (by omega), show X x + (wlk r X t x - X x) = wlk r X t x by omega]
      have d2 : gDiv (.int (X x - c - 1)) (.int n) = some (.int ((X x - c - 1) / n)) := gDiv_s hn (by omega)
      rw [show a + (wlk r X t x - c - 1) / n - (X x - c - 1) / n + (xs.map fun i => (wlk r X t i - c - 1) / n - (X i - c - 1) / n).sum = a + ((x :: xs).map fun i => (wlk r X t i - c - 1) / n - (X i - c - 1) / n).sum by rw [List.map_cons, List.sum_cons]; omega] at e
      simp [forD, d1, d2]
      exact e
  obtain ⟨s1, s2, e⟩ := loop (List.range m) 0 .un .un
  have h2 : passes n r m X c t = ((List.range m).map fun i => (wlk r X t i - c - 1) / n - (X i - c - 1) / n).sum := rfl
  rw [Int.zero_add, ← h2] at e
  simp only [g_passed_by, b_passed_by]
  simp [m_all_gone W ht, zipD_ls, e]
theorem m_need_cell {c : Int} (h0 : 0 ≤ c) (h1 : c < n) : g_need_cell [rg n r, .int c] = some (.ok .none) := by
  have : c ≤ n - 1 := by omega
  simp [g_need_cell, b_need_cell, m_is_whole, h0, this]
theorem m_need_moment {t : Int} (h0 : 0 ≤ t) (h1 : t ≤ 1000000000000000000) : g_need_moment [.int t] = some (.ok .none) := by
  have e : g_is_whole [.int t, .int 0, .int 1000000000000000000] = some (.ok (.bool true)) := by
    rw [m_is_whole, decide_eq_true ⟨h0, h1⟩]
  simp [g_need_moment, b_need_moment, e]
theorem m_heard_by (W : Rw n r m X) {t : Nat} (ht : t ≤ 1000000000000000000) {c : Int} (h0 : 0 ≤ c) (h1 : c < n) : g_heard_by [rg n r, tI (ls m X), .int c, .int t] = some (.ok (.int (passes n r m X c t))) := by
  simp [g_heard_by, b_heard_by, m_need_row W, m_need_cell h0 h1, m_need_moment (t := (t : Int)) (by omega) (by omega), m_passed_by W ht]
theorem m_lowest {a b : Nat} (hb : 0 < b) (hb1 : b ≤ 900) : g_lowest [.int a, .int b] = some (.ok (.tuple [.int ((a / Nat.gcd a b : Nat) : Int), .int ((b / Nat.gcd a b : Nat) : Int)])) := by
  have loop : ∀ (y x fuel : Nat), y < fuel → sWhile fuel (d2 gNe (dV 3) (dC (.int 0))) (sSeq (sPar [2, 3] (aCons (dV 3) (aCons (d2 gMod (dV 2) (dV 3)) aNil))) sNil) [.val (.int a), .val (.int b), .val (.int x), .val (.int y)] (0, 0)
      = some (.nx [.val (.int a), .val (.int b), .val (.int (Nat.gcd x y)), .val (.int 0)], (0, 0)) := by
    intro y
    induction y using Nat.strongRecOn with
    | ind y ih =>
      intro x fuel hf
      obtain ⟨f, rfl⟩ : ∃ f, fuel = f + 1 := ⟨fuel - 1, by omega⟩
      by_cases h : y = 0
      · subst h
        simp [sWhile]
      · have e := ih (x % y) (Nat.mod_lt x (by omega)) y f (by have := Nat.mod_lt x (show 0 < y by omega); omega)
        have e2 : gMod (.int (x : Int)) (.int (y : Int)) = some (.int ((x % y : Nat) : Int)) := by rw [gMod_int (by omega)]; norm_cast
        have e3 : Nat.gcd y (x % y) = Nat.gcd x y := by rw [Nat.gcd_comm y, ← Nat.gcd_rec, Nat.gcd_comm]
        rw [e3] at e
        simp [sWhile, h, e2, e, -Int.natCast_emod]
  have hg : 0 < Nat.gcd a b := Nat.gcd_pos_of_pos_right a hb
  have hg2 : Nat.gcd a b ≤ b := Nat.gcd_le_right a hb
  have e1 : gDiv (.int (a : Int)) (.int ((Nat.gcd a b : Nat) : Int)) = some (.int ((a / Nat.gcd a b : Nat) : Int)) := by rw [gDiv_s (by omega) (by omega)]; norm_cast
  have e2 : gDiv (.int (b : Int)) (.int ((Nat.gcd a b : Nat) : Int)) = some (.int ((b / Nat.gcd a b : Nat) : Int)) := by rw [gDiv_s (by omega) (by omega)]; norm_cast
  simp only [g_lowest, b_lowest]
  simp [loop b a 1000 (by omega), e1, e2, -Int.natCast_ediv]
theorem m_pace (W : Rw n r m X) : ∃ p q : Int, g_pace [rg n r, tI (ls m X)] = some (.ok (.tuple [.int p, .int q])) ∧ p * m = min (r * m) (n - m) * q ∧ 0 < q ∧ Int.gcd p q = 1 ∧ q ≤ 24 := by
  have hm := W.m0
  have hM := W.m24
  have hn := W.n0
  have hmn := W.mn
  have hn1 := W.R.n1
  have hr := W.R.r0
  have hr1 := W.R.r1
  have e2 : gMul (.int (m : Int)) (.int (r + 1)) = some (.int (m * (r + 1))) := gMul_l (by omega) (by omega)
  by_cases h : (m : Int) * (r + 1) ≤ n
  · refine ⟨r, 1, ?_, ?_, by decide, by simp, by decide⟩
    · simp [g_pace, b_pace, m_need_row W, e2, h]
    · rw [Int.mul_add] at h
      rw [Int.mul_comm (m : Int) r] at h
      omega
  · have e3 : n - m = ((n.toNat - m : Nat) : Int) := by omega
    have e4 := m_lowest (a := n.toNat - m) (b := m) hm (by omega)
    have hg : 0 < Nat.gcd (n.toNat - m) m := Nat.gcd_pos_of_pos_right _ hm
    refine ⟨(((n.toNat - m) / Nat.gcd (n.toNat - m) m : Nat) : Int), ((m / Nat.gcd (n.toNat - m) m : Nat) : Int), by simp [g_pace, b_pace, m_need_row W, e2, h, e3, e4, -Int.natCast_ediv], ?_, ?_, ?_, ?_⟩
    · rw [Int.mul_add, Int.mul_comm (m : Int) r] at h
      rw [show min (r * m) (n - m) = n - m by omega, e3]
      obtain ⟨x, hx⟩ := Nat.gcd_dvd_left (n.toNat - m) m
      obtain ⟨y, hy⟩ := Nat.gcd_dvd_right (n.toNat - m) m
      norm_cast
      generalize Nat.gcd (n.toNat - m) m = g at *
      have hx' : (n.toNat - m) / g = x := by rw [hx]; exact Nat.mul_div_cancel_left x hg
      have hy' : m / g = y := by rw [hy]; exact Nat.mul_div_cancel_left y hg
      rw [hx', hy']
      conv => lhs; rw [hy]
      conv => rhs; rw [hx]
      rw [← Nat.mul_assoc, Nat.mul_comm x g]
    · have := Nat.div_pos (Nat.gcd_le_right (n.toNat - m) hm) hg
      omega
    · rw [Int.gcd_natCast_natCast]
      rw [Nat.gcd_div (Nat.gcd_dvd_left _ _) (Nat.gcd_dvd_right _ _)]
      exact Nat.div_self hg
    · have := Nat.div_le_self m (Nat.gcd (n.toNat - m) m)
      omega
theorem m_flow_of {k : Int} (h : -1000 ≤ k ∧ k ≤ 1000) : g_flow_of [rg n r, .int k] = some (.ok (.int (min (r * k) (n - k)))) := by
  have e : gMul (.int r) (.int k) = some (.int (r * k)) := gMul_r (by omega) (by omega)
  simp [g_flow_of, b_flow_of, e]
theorem m_flow (R : Rg n r) {k : Int} (h0 : 1 ≤ k) (h1 : k ≤ n) : g_flow [rg n r, .int k] = some (.ok (.int (min (r * k) (n - k)))) := by
  have := R.n1
  simp [g_flow, b_flow, g_need_many, b_need_many, m_need_ring R, m_is_whole, h0, h1, m_flow_of (n := n) (r := r) (k := k) (by omega)]
end
end G8

set_option Elab.async false
set_option linter.all false
set_option maxRecDepth 100000
set_option maxHeartbeats 1000000
namespace G8
open PySem PySem.Spec PyProof.Rows L2
/-! ### the dice -/
theorem emod_bd {x k : Int} (h : 0 < k) : 0 ≤ x % k ∧ x % k < k := ⟨Int.emod_nonneg _ (by omega), Int.emod_lt_of_pos _ h⟩
theorem m_law_drawn (c k : Int) : ∃ x, g__law_drawn [.int c, .int k] = some (.ok (.int x)) := by
  have e1 : gMul (.int c) (.int 6364136223846793005) = some (.int (c * 6364136223846793005)) := gMul_r (by decide) (by decide)
  have e2 : gMul (.int (k + 1)) (.int 1442695040888963407) = some (.int ((k + 1) * 1442695040888963407)) := gMul_r (by decide) (by decide)
  have h1 := emod_bd (x := c * 6364136223846793005 + (k + 1) * 1442695040888963407) (k := 340282366920938463463374607431768211507) (by decide)
  have e3 : gMod (.int (c * 6364136223846793005 + (k + 1) * 1442695040888963407)) (.int 340282366920938463463374607431768211507) = some (.int ((c * 6364136223846793005 + (k + 1) * 1442695040888963407) % 340282366920938463463374607431768211507)) := gMod_int (by decide)
  generalize (c * 6364136223846793005 + (k + 1) * 1442695040888963407) % 340282366920938463463374607431768211507 = a at h1 e3
  have e4 : gMul (.int a) (.int a) = some (.int (a * a)) := gMul_w (by omega) (by omega)
  have h2 := emod_bd (x := a * a) (k := 340282366920938463463374607431768211297) (by decide)
  have e5 : gMod (.int (a * a)) (.int 340282366920938463463374607431768211297) = some (.int ((a * a) % 340282366920938463463374607431768211297)) := gMod_int (by decide)
  generalize (a * a) % 340282366920938463463374607431768211297 = b at h2 e5
  have h3 := emod_bd (x := b) (k := 18446744073709551557) (by decide)
  have e6 : gMod (.int b) (.int 18446744073709551557) = some (.int (b % 18446744073709551557)) := gMod_int (by decide)
  have e7 : gDiv (.int b) (.int 18446744073709551557) = some (.int (b / 18446744073709551557)) := gDiv_s (by decide) (by decide)
  have h4 : 0 ≤ b / 18446744073709551557 ∧ b / 18446744073709551557 ≤ 20000000000000000000 := by omega
  generalize b % 18446744073709551557 = c1 at h3 e6
  generalize b / 18446744073709551557 = c2 at h4 e7
  have e8 : gMul (.int (c1 + 1)) (.int (c2 + 1)) = some (.int ((c1 + 1) * (c2 + 1))) := gMul_w (by omega) (by omega)
  have h5 : ((c1 + 1) * (c2 + 1)).natAbs ≤ 100000000000000000000 * 100000000000000000000 := by
    rw [Int.natAbs_mul]
    exact Nat.mul_le_mul (by omega) (by omega)
  have e9 : gMul (.int ((c1 + 1) * (c2 + 1))) (.int b) = some (.int ((c1 + 1) * (c2 + 1) * b)) := gMul_w (Nat.le_trans h5 (by decide +kernel)) (by omega)
  refine ⟨((c1 + 1) * (c2 + 1) * b) % 340282366920938463463374607431768211507, ?_⟩
  have e10 : gMod (.int ((c1 + 1) * (c2 + 1) * b)) (.int 340282366920938463463374607431768211507) = some (.int (((c1 + 1) * (c2 + 1) * b) % 340282366920938463463374607431768211507)) := gMod_int (by decide)
  simp only [g__law_drawn, b__law_drawn]
  simp [e1, e2, e3, e4, e5, e6, e7, e8, e9, e10]
theorem m_law_roll (δ : Dl) {k : Int} (h0 : 0 < k) (h1 : k ≤ 1000) : ∃ (x : Int) (δ' : Dl), g__law_roll [.int k] δ = some (.int x, δ') ∧ 0 ≤ x ∧ x < k := by
  have e1 : gPow (.int 10) (.int 18) = some (.int 1000000000000000000) := by
    show (if _ then _ else _) = _
    rw [if_pos (cdec_iff.mpr (by decide))]
    rfl
  obtain ⟨x, hx⟩ := m_law_drawn δ.1 (δ.2 + 1)
  by_cases h : 1000000000000000000 ≤ δ.1
  · refine ⟨δ.1 % k, (δ.1 / k, δ.2), ?_, (emod_bd h0).1, (emod_bd h0).2⟩
    have e2 : gMod (.int δ.1) (.int k) = some (.int (δ.1 % k)) := gMod_int h0
    have e3 : gDiv (.int δ.1) (.int k) = some (.int (δ.1 / k)) := gDiv_s h0 (by omega)
    simp only [g__law_roll, b__law_roll]
    simp [e1, h, e2, e3]
  · refine ⟨(x / 8) % k, (δ.1, δ.2 + 1), ?_, (emod_bd h0).1, (emod_bd h0).2⟩
    have e2 : gMod (.int (x / 8)) (.int k) = some (.int ((x / 8) % k)) := gMod_int h0
    have e3 : gDiv (.int x) (.int 8) = some (.int (x / 8)) := gDiv_s (by decide) (by decide)
    simp only [g__law_roll, b__law_roll]
    simp [e1, h, e2, e3, hx]
theorem m_law_any_ring (δ : Dl) {k : Int} (h0 : 4 ≤ k) (h1 : k ≤ 24) : ∃ (n r : Int) (δ' : Dl), g__law_any_ring [.int k] δ = some (rg n r, δ') ∧ Rg n r ∧ n ≤ k := by
  obtain ⟨x, δ1, e1, hx⟩ := m_law_roll δ (k := k - 3) (by omega) (by omega)
  obtain ⟨y, δ2, e2, hy⟩ := m_law_roll δ1 (k := 3) (by omega) (by omega)
  refine ⟨4 + x, 1 + y, δ2, ?_, ⟨by omega, by omega, by omega, by omega⟩, by omega⟩
  simp only [g__law_any_ring, b__law_any_ring]
  simp [e1, e2]
end G8

set_option Elab.async false
set_option linter.all false
set_option maxRecDepth 100000
set_option maxHeartbeats 1000000
namespace G8
open PySem PySem.Spec PyProof.Rows L2
/-! ### a row from its cells -/
theorem row_of {n r : Int} (R : Rg n r) {l : List Int} (hs : l.Pairwise (· < ·)) (hne : l ≠ []) (hb : ∀ x ∈ l, 0 ≤ x ∧ x < n) : ∃ X, l = ls l.length X ∧ Rw n r l.length X := by
  have hm : 0 < l.length := List.length_pos_iff.mpr hne
  let X : Nat → Int := fun i => (i / l.length : Nat) * n + l.getD (i % l.length) 0
  have small : ∀ i, i < l.length → X i = l.getD i 0 := fun i hi => by
    show ((i / l.length : Nat) : Int) * n + l.getD (i % l.length) 0 = _
    rw [Nat.div_eq_of_lt hi, Nat.mod_eq_of_lt hi]
    simp
  have inl : ∀ i, i < l.length → 0 ≤ l.getD i 0 ∧ l.getD i 0 < n := fun i hi => by
    have : l.getD i 0 = l[i] := by simp [List.getD, hi]
    rw [this]
    exact hb _ (List.getElem_mem hi)
  refine ⟨X, ?_, R, ⟨fun i => ?_, fun i => ?_⟩, hm, ?_, ?_⟩
  · refine List.ext_getElem (by simp) fun i h1 h2 => ?_
    have e : (ls l.length X)[i] = X i := by simp [ls]
    rw [e, small i h1]
    simp [List.getD, h1]
  · show (((i + l.length) / l.length : Nat) : Int) * n + l.getD ((i + l.length) % l.length) 0 = ((i / l.length : Nat) : Int) * n + l.getD (i % l.length) 0 + n
    rw [Nat.add_div_right _ hm, Nat.add_mod_right, show ((i / l.length + 1 : Nat) : Int) = ((i / l.length : Nat) : Int) + 1 by omega, Int.add_mul]
    omega
  · show ((i / l.length : Nat) : Int) * n + l.getD (i % l.length) 0 < (((i + 1) / l.length : Nat) : Int) * n + l.getD ((i + 1) % l.length) 0
    have hlt := Nat.mod_lt i hm
    have e0 := Nat.div_add_mod i l.length
    by_cases c : i % l.length + 1 < l.length
    · have e1 : (i + 1) / l.length = i / l.length := by
        conv => lhs; rw [← e0, Nat.add_assoc, Nat.mul_add_div hm, Nat.div_eq_of_lt c]
        rfl
      have e2 : (i + 1) % l.length = i % l.length + 1 := by
        conv => lhs; rw [← e0, Nat.add_assoc, Nat.mul_add_mod, Nat.mod_eq_of_lt c]
      rw [e1, e2]
      have := List.pairwise_iff_getElem.mp hs (i % l.length) (i % l.length + 1) hlt c (by omega)
      have g1 : l.getD (i % l.length) 0 = l[i % l.length] := by simp [List.getD, hlt]
      have g2 : l.getD (i % l.length + 1) 0 = l[i % l.length + 1] := by simp [List.getD, c]
      omega
    · have c' : i % l.length + 1 = l.length := by omega
      have e1 : (i + 1) / l.length = i / l.length + 1 := by
        conv => lhs; rw [← e0, Nat.add_assoc, Nat.mul_add_div hm, c', Nat.div_self hm]
      have e2 : (i + 1) % l.length = 0 := by
        conv => lhs; rw [← e0, Nat.add_assoc, Nat.mul_add_mod, c', Nat.mod_self]
      rw [e1, e2, show ((i / l.length + 1 : Nat) : Int) = ((i / l.length : Nat) : Int) + 1 by omega, Int.add_mul]
      have h1 := inl _ hlt
      have h2 := inl 0 hm
      omega
  · rw [small 0 hm]; exact (inl 0 hm).1
  · rw [small _ (by omega)]; exact (inl _ (by omega)).2
/-! ### a comprehension with dice in its test -/
theorem lcD_dice {P : Int → Prop} {td : TgD} {tst elt : DE} {ρ : Rho} (h : ∀ (x : Int) (δ : Dl), P x → ∃ ρ1 b δ1, td (.int x) ρ = some ρ1 ∧ tst ρ1 δ = some (.ok (.bool b), δ1) ∧ ∀ δ2, elt ρ1 δ2 = some (.ok (.int x), δ2)) :
    ∀ (xs : List Int) (δ : Dl), (∀ x ∈ xs, P x) → ∃ (ys : List Int) (δ' : Dl), lcD td tst elt ρ (xs.map .int) δ = some (.ok (ys.map .int), δ') ∧ ys.length ≤ xs.length ∧ ∀ y ∈ ys, y ∈ xs
  | [], δ, _ => ⟨[], δ, rfl, Nat.le_refl _, fun _ z => z⟩
  | x :: xs, δ, hx => by
    obtain ⟨ρ1, b, δ1, h1, h2, h3⟩ := h x δ (hx x (List.mem_cons_self ..))
    obtain ⟨ys, δ', h4, h5, h6⟩ := lcD_dice h xs δ1 fun y hy => hx y (List.mem_cons_of_mem _ hy)
    cases b with
    | false => exact ⟨ys, δ', by simp only [List.map_cons, lcD, h1, h2, h4], by rw [List.length_cons]; omega, fun y hy => List.mem_cons_of_mem _ (h6 y hy)⟩
    | true =>
      refine ⟨x :: ys, δ', by simp only [List.map_cons, lcD, h1, h2, h3, h4, bnd], by rw [List.length_cons, List.length_cons]; omega, fun y hy => ?_⟩
      rcases List.mem_cons.mp hy with rfl | hy
      · exact List.mem_cons_self ..
      · exact List.mem_cons_of_mem _ (h6 y hy)
theorem rngI (a c : Nat) : rng (a : Int) ((a : Int) + c) = (ls c fun i => (a : Int) + i).map .int := by
  rw [rng_nat, ← ls_int]
  refine List.map_congr_left fun i _ => ?_
  simp
theorem rngI0 {n : Int} (hn : 0 ≤ n) : rng 0 n = (ls n.toNat fun i => (i : Int)).map .int := by
  have := rngI 0 n.toNat
  rw [show (((0 : Nat) : Int)) = 0 from rfl, Int.zero_add, show ((n.toNat : Nat) : Int) = n by omega] at this
  rw [this]
  congr 1
  exact ls_congr fun i _ => by omega
theorem m_law_any_row (δ : Dl) {n r : Int} (R : Rg n r) : ∃ (m : Nat) (X : Nat → Int) (δ' : Dl), g__law_any_row [rg n r] δ = some (tI (ls m X), δ') ∧ Rw n r m X := by
  have hn0 := R.n0
  have hn1 := R.n1
  obtain ⟨act, δ1, ea, ha⟩ := m_law_roll δ (k := 4) (by omega) (by omega)
  have okn : okR n = true := okR_s (by omega) (by omega)
  -- the first cells
  have turn : ∀ (x : Int) (δ : Dl), (0 ≤ x ∧ x < n) → ∃ ρ1 b δ1, tgN 5 (.int x) [.dice, .val (rg n r), .val (.int act), .val (.int n), .un, .un] = some ρ1 ∧
      (d2 gEq (dCallD 0 g__law_roll (aCons (d2 gIx (dL (fLst (aCons (dC (.int 2)) (aCons (dC (.int 3)) (aCons (dC (.int 5)) (aCons (dC (.int 4)) aNil)))))) (dV 2)) aNil)) (dC (.int 0))) ρ1 δ = some (.ok (.bool b), δ1) ∧ ∀ δ2, dV 5 ρ1 δ2 = some (.ok (.int x), δ2) := by
    intro x δ _
    have hd : ∃ k : Int, atI [PyData.int 2, PyData.int 3, PyData.int 5, PyData.int 4] act = some (.int k) ∧ 0 < k ∧ k ≤ 5 := by
      obtain h | h | h | h : act = 0 ∨ act = 1 ∨ act = 2 ∨ act = 3 := by omega
      all_goals subst h
      · exact ⟨2, rfl, by omega, by omega⟩
      · exact ⟨3, rfl, by omega, by omega⟩
      · exact ⟨5, rfl, by omega, by omega⟩
      · exact ⟨4, rfl, by omega, by omega⟩
    obtain ⟨k, e1, h1, h2⟩ := hd
    obtain ⟨y, δ2, e2, _⟩ := m_law_roll δ (k := k) h1 (by omega)
    exact ⟨_, decide (y = 0), δ2, rfl, by simp [e1, e2], fun δ2 => rfl⟩
  obtain ⟨ys, δ2, e1, l1, m1⟩ := lcD_dice turn (ls n.toNat fun i => (i : Int)) δ1 (fun x hx => by obtain ⟨i, hi, rfl⟩ := ls_mem.mp hx; omega)
  have b1 : ∀ y ∈ ys, 0 ≤ y ∧ y < n := fun y hy => by obtain ⟨i, hi, rfl⟩ := ls_mem.mp (m1 y hy); omega
  rw [ls_len] at l1
  -- what is found
  suffices h : ∃ (zs : List Int) (δ3 : Dl), (∀ z ∈ zs, 0 ≤ z ∧ z < n) ∧ zs ≠ [] ∧ zs.length < 64 ∧ g__law_any_row [rg n r] δ = some (tI (ssort zs), δ3) by
    obtain ⟨zs, δ3, hb, hne, _, e⟩ := h
    obtain ⟨X, eX, W⟩ := row_of R (ssort_lt zs) (fun z => by
      obtain ⟨y, hy⟩ := List.exists_mem_of_ne_nil _ hne
      have := (ssort_mem zs y).mpr hy
      rw [z] at this
      cases this) (fun x hx => hb x ((ssort_mem zs x).mp hx))
    exact ⟨_, X, δ3, by rw [e]; exact congrArg (fun q => some (tI q, δ3)) eX, W⟩
  have hlen : (ls n.toNat fun i => (i : Int)).length ≤ 100000 := by simp; omega
  have hlen' : n.toNat ≤ 100000 := by omega
  by_cases h3 : act = 3
  · obtain ⟨k, δ3, e3, hk⟩ := m_law_roll δ2 (k := n) (by omega) (by omega)
    have e4 : gDiv (.int k) (.int 2) = some (.int (k / 2)) := gDiv_s (by omega) (by omega)
    have ok2 : okRg 0 (k / 2 + 1) = true := okRg_s (by omega) (by omega) (by omega) (by omega) (by omega)
    have turn2 : ∀ (x : Int) (δ : Dl), (0 ≤ x ∧ x < n) → ∃ ρ1 b δ1, tgN 5 (.int x) [.dice, .val (rg n r), .val (.int act), .val (.int n), .val (lI ys), .un] = some ρ1 ∧
        (d2 gGt (d2 gMul (dC (.int 2)) (dV 5)) (dV 3)) ρ1 δ = some (.ok (.bool b), δ1) ∧ ∀ δ2, dV 5 ρ1 δ2 = some (.ok (.int x), δ2) := by
      intro x δ _
      have e5 : gMul (.int 2) (.int x) = some (.int (2 * x)) := gMul_l (by decide) (by decide)
      exact ⟨_, decide (n < 2 * x), δ, rfl, by simp [e5], fun δ2 => rfl⟩
    obtain ⟨vs, δ4, e5, l5, m5⟩ := lcD_dice turn2 ys δ3 b1
    refine ⟨ls (k / 2 + 1).toNat (fun i => (i : Int)) ++ vs, δ4, fun z hz => ?_, fun z => ?_, by rw [List.length_append, ls_len]; omega, ?_⟩
    · rcases List.mem_append.mp hz with z1 | z1
      · obtain ⟨i, hi, rfl⟩ := ls_mem.mp z1; omega
      · exact b1 z (m5 z z1)
    · have := congrArg List.length z
      rw [List.length_append, ls_len] at this
      simp at this
      omega
    · have h6 : (k / 2 + 1).toNat + vs.length ≤ 100000 := by omega
      have h7 : ys.length ≤ 100000 := by omega
      have h8 : (k / 2 + 1).toNat + vs.length < 64 := by omega
      have h9 : ls (k / 2 + 1).toNat (fun i => (i : Int)) ++ vs ≠ [] := fun z => by
        have := congrArg List.length z
        rw [List.length_append, ls_len] at this
        simp at this
        omega
      have hne : gNe (.list ((ls (k / 2 + 1).toNat (fun i => (i : Int)) ++ vs).map .int)) (.list []) = some (.bool true) := (gNe_lI _ []).trans (by rw [decide_eq_false h9]; rfl)
      subst h3
      have eq : decide ((3 : Int) = 3) = true := rfl
      simp only [g__law_any_row, b__law_any_row]
      simp [ea, okn, rngI0 (show 0 ≤ n by omega), hlen', e1, e3, e4, ok2, rngI0 (show 0 ≤ k / 2 + 1 by omega), h7, e5, h6, ← List.map_append, hne, h8]
  · have h7 : ys.length < 64 := by omega
    have eq : decide (act = 3) = false := decide_eq_false h3
    by_cases h0 : ys = []
    · subst h0
      obtain ⟨k, δ3, e3, hk⟩ := m_law_roll δ2 (k := n) (by omega) (by omega)
      refine ⟨[k], δ3, fun z hz => by rw [List.mem_singleton.mp hz]; omega, by simp, by simp, ?_⟩
      have hz : gNe (.list []) (.list []) = some (.bool false) := rfl
      have h1 : asInts [PyData.int k] = some [k] := rfl
      simp only [g__law_any_row, b__law_any_row]
      simp [ea, okn, rngI0 (show 0 ≤ n by omega), hlen', e1, e3, h3, hz, h1]
    · have hne : gNe (.list (ys.map .int)) (.list []) = some (.bool true) := (gNe_lI _ []).trans (by rw [decide_eq_false h0]; rfl)
      refine ⟨ys, δ2, b1, h0, h7, ?_⟩
      simp only [g__law_any_row, b__law_any_row]
      simp [ea, okn, rngI0 (show 0 ≤ n by omega), hlen', e1, h3, hne, h7]
end G8

set_option Elab.async false
set_option linter.all false
set_option maxRecDepth 100000
set_option maxHeartbeats 1000000
namespace G8
open PySem PySem.Spec PyProof.Rows L2
section
variable {n r : Int} {m : Nat} {X Y Z : Nat → Int}
theorem enumD_ls (m : Nat) (Y : Nat → Int) : enumD ((ls m Y).map .int) = (List.range m).map fun i => .tuple [.int (i : Nat), .int (Y i)] := by
  unfold enumD
  refine List.ext_getElem (by simp) fun i h1 h2 => ?_
  simp [ls]
theorem atI_last {α : Type} (l : List α) (x : α) : atI (l ++ [x]) (-1) = some x := by
  unfold atI ixN
  rw [if_neg (by decide), if_pos (by rw [List.length_append]; simp only [List.length_cons, List.length_nil]; omega)]
  have : (-1 + ((l ++ [x]).length : Int)).toNat = l.length := by rw [List.length_append]; simp only [List.length_cons, List.length_nil]; omega
  rw [this]
  simp
/-- one beat, cart by cart -/
theorem m_law_step (hm : 0 < m) (hM : m ≤ 1000) (hr0 : 0 ≤ r) (hr : r ≤ 100) (hp : Y m = Y 0 + n) (hi : ∀ i, i < m → Y i < Y (i + 1)) : g__law_step [rg n r, lI (ls m Y)] = some (.ok (lI (ls m (stp r Y)))) := by
  have wl : ∀ (k fuel : Nat) (here spot ahead : Int) (ds : List D) (v : Sl), here + k = min (spot + r) (ahead - 1) → k < fuel →
      sWhile fuel (dAnd (d2 gLt (d2 gSub (dV 6) (dV 4)) (d2 gIx (dB 0) (dC (.int 1)))) (d2 gLt (d2 gAdd (dV 6) (dC (.int 1))) (dV 5))) (sSeq (sSet 6 (d2 gAdd (dV 6) (dC (.int 1)))) sNil)
        [.val (rg n r), .val (lI (ls m Y)), .own ds, v, .val (.int spot), .val (.int ahead), .val (.int here)] (0, 0)
        = some (.nx [.val (rg n r), .val (lI (ls m Y)), .own ds, v, .val (.int spot), .val (.int ahead), .val (.int (min (spot + r) (ahead - 1)))], (0, 0)) := by
    intro k
    induction k with
    | zero =>
      intro fuel here spot ahead ds v e hf
      obtain ⟨f, rfl⟩ : ∃ f, fuel = f + 1 := ⟨fuel - 1, by omega⟩
      have e' : here = min (spot + r) (ahead - 1) := by omega
      by_cases c : here - spot < r
      · have c2 : ¬ here + 1 < ahead := by omega
        simp [sWhile, c, c2, ← e']
      · simp [sWhile, c, ← e']
    | succ k ih =>
      intro fuel here spot ahead ds v e hf
      obtain ⟨f, rfl⟩ : ∃ f, fuel = f + 1 := ⟨fuel - 1, by omega⟩
      have c : here - spot < r := by omega
      have c2 : here + 1 < ahead := by omega
      have := ih f (here + 1) spot ahead ds v (by omega) (by omega)
      simp [sWhile, c, c2, this]
  have loop : ∀ (l : List Nat) (ds : List D) (s1 s2 s3 s4 : Sl), (∀ i ∈ l, i < m) → ds.length + l.length ≤ 1000 → ∃ s1' s2' s3' s4', forD (tgT [3, 4]) (sSeq (sSet 5 (dIf (d2 gLt (d2 gAdd (dV 3) (dC (.int 1))) (dCB gLen (aCons (dV 1) aNil))) (d2 gIx (dB 1) (d2 gAdd (dV 3) (dC (.int 1)))) (d2 gAdd (d2 gIx (dB 1) (dC (.int 0))) (d2 gIx (dB 0) (dC (.int 0))))))
      (sSeq (sSet 6 (dV 4)) (sSeq (sWhile 1000 (dAnd (d2 gLt (d2 gSub (dV 6) (dV 4)) (d2 gIx (dB 0) (dC (.int 1)))) (d2 gLt (d2 gAdd (dV 6) (dC (.int 1))) (dV 5))) (sSeq (sSet 6 (d2 gAdd (dV 6) (dC (.int 1)))) sNil)) (sSeq (sApp 2 (dV 6)) sNil))))
      (l.map fun i => .tuple [.int (i : Nat), .int (Y i)]) [.val (rg n r), .val (lI (ls m Y)), .own ds, s1, s2, s3, s4] (0, 0)
      = some (.nx [.val (rg n r), .val (lI (ls m Y)), .own (ds ++ l.map fun i => .int (stp r Y i)), s1', s2', s3', s4'], (0, 0)) := by
    intro l
    induction l with
    | nil => intro ds s1 s2 s3 s4 _ _; exact ⟨s1, s2, s3, s4, by simp [forD]⟩
    | cons x xs ih =>
      intro ds s1 s2 s3 s4 hl hd
      rw [List.length_cons] at hd
      have hx := hl x (List.mem_cons_self ..)
      obtain ⟨s1', s2', s3', s4', e⟩ := ih (ds ++ [.int (stp r Y x)]) (.val (.int x)) (.val (.int (Y x))) (.val (.int (Y (x + 1)))) (.val (.int (stp r Y x))) (fun i h => hl i (List.mem_cons_of_mem _ h)) (by rw [List.length_append]; simp; omega)
      refine ⟨s1', s2', s3', s4', ?_⟩
      have hxx := hi x hx
      have hw := wl (min (Y x + r) (Y (x + 1) - 1) - Y x).toNat 1000 (Y x) (Y x) (Y (x + 1)) ds (.val (.int x)) (by omega) (by omega)
      have hd' : ds.length < 100000 := by omega
      have ea : (if (x : Int) + 1 < m then atI ((ls m Y).map PyData.int) ((x : Int) + 1) else (some (PyData.int (Y 0 + n)))) = some (.int (Y (x + 1))) := by
        by_cases c : x + 1 < m
        · rw [if_pos (by omega)]
          exact_mod_cast atI_ls c Y
        · rw [if_neg (by omega), ← hp, show m = x + 1 by omega]
      have e0 : atI ((ls m Y).map PyData.int) 0 = some (.int (Y 0)) := by exact_mod_cast atI_ls hm Y
      have fin : (ds ++ [PyData.int (stp r Y x)]) ++ xs.map (fun i => PyData.int (stp r Y i)) = ds ++ (x :: xs).map fun i => PyData.int (stp r Y i) := by simp
      rw [fin] at e
      by_cases c : (x : Int) + 1 < m
      · rw [if_pos c] at ea
        simp [forD, c, ea, hw, hd']
        exact e
      · rw [if_neg c] at ea
        have ea' : Y 0 + n = Y (x + 1) := PyData.int.inj (Option.some.inj ea)
        simp [forD, c, e0, ea', hw, hd']
        exact e
  obtain ⟨s1, s2, s3, s4, e⟩ := loop (List.range m) [] .un .un .un .un (fun i h => List.mem_range.mp h) (by simp; omega)
  simp only [g__law_step, b__law_step]
  simp only [List.nil_append, ls_int] at e
  simp [enumD_ls, e]
theorem m_law_walk (W : Rw n r m X) (k : Nat) (hk : k ≤ 1000) : g__law_walk [rg n r, tI (ls m X), .int k] = some (.ok (.list ((List.range (k + 1)).map fun t => lI (ls m (wlk r X t))))) := by
  have hM := W.m24
  have hr := W.R.r1
  have step : ∀ t, g__law_step [rg n r, lI (ls m (wlk r X t))] = some (.ok (lI (ls m (wlk r X (t + 1))))) := fun t =>
    m_law_step W.m0 (by omega) W.r0 (by omega) (by have := (W.P.wlk W.r0 t).per 0; rwa [show 0 + m = m by omega] at this) fun i _ => (W.P.wlk W.r0 t).inc i
  have loop : ∀ (l : List Nat) (t : Nat) (s : Sl), t + l.length ≤ 1001 → ∃ s', forD (tgN 4) (sSeq (sApp 3 (dCall g__law_step (aCons (dV 0) (aCons (d2 gIx (dB 3) (d1 gNeg (dC (.int 1)))) aNil)))) sNil)
      (l.map fun i => .int ((i : Nat) : Int)) [.val (rg n r), .val (tI (ls m X)), .val (.int k), .own ((List.range (t + 1)).map fun t => lI (ls m (wlk r X t))), s] (0, 0)
      = some (.nx [.val (rg n r), .val (tI (ls m X)), .val (.int k), .own ((List.range (t + l.length + 1)).map fun t => lI (ls m (wlk r X t))), s'], (0, 0)) := by
    intro l
    induction l with
    | nil => intro t s _; exact ⟨s, by simp [forD]⟩
    | cons x xs ih =>
      intro t s hl
      rw [List.length_cons] at hl
      obtain ⟨s', e⟩ := ih (t + 1) (.val (.int x)) (by omega)
      refine ⟨s', ?_⟩
      have ex : ((List.range (t + 1)).map fun t => lI (ls m (wlk r X t))) = ((List.range t).map fun t => lI (ls m (wlk r X t))) ++ [lI (ls m (wlk r X t))] := by rw [List.range_succ, List.map_append]; rfl
      have ex2 : ((List.range (t + 1 + 1)).map fun t => lI (ls m (wlk r X t))) = ((List.range (t + 1)).map fun t => lI (ls m (wlk r X t))) ++ [lI (ls m (wlk r X (t + 1)))] := by rw [List.range_succ, List.map_append]; rfl
      have e1 : atI ((List.range (t + 1)).map fun t => lI (ls m (wlk r X t))) (-1) = some (lI (ls m (wlk r X t))) := by rw [ex]; exact atI_last _ _
      have hd' : t + 1 < 100000 := by omega
      rw [ex2, show t + 1 + xs.length + 1 = t + (x :: xs).length + 1 by rw [List.length_cons]; omega] at e
      rw [List.map_cons, forD]
      simp only [tgN, List.set_cons_succ, List.set_cons_zero, sSeq, sApp, List.getElem?_cons_succ, List.getElem?_cons_zero, dCall, aCons, dV, d2, d1, dB, dC, bnd, bndS, lft, gNeg, gIx, aNil, e1, step, List.length_map, List.length_range, hd', if_true, sNil]
      exact e
  obtain ⟨s', e⟩ := loop (List.range k) 0 .un (by simp; omega)
  have ok1 : okR (k : Int) = true := okR_s (by omega) (by omega)
  rw [List.length_range, Nat.zero_add] at e
  have e0 : ((List.range (0 + 1)).map fun t => lI (ls m (wlk r X t))) = [lI (ls m X)] := rfl
  rw [e0] at e
  simp only [g__law_walk, b__law_walk]
  simp [ok1, rng0, e]
end
end G8

set_option Elab.async false
set_option linter.all false
set_option maxRecDepth 100000
set_option maxHeartbeats 1000000
namespace G8
open PySem PySem.Spec PyProof.Rows L2
section
variable {n r : Int} {m : Nat} {X Y Z F : Nat → Int}
/-! ### sums -/
theorem sum_snoc (m : Nat) (F : Nat → Int) : (ls (m + 1) F).sum = (ls m F).sum + F m := by rw [ls_snoc, List.sum_append]; simp
theorem sum_const (F : Nat → Int) (c : Int) : ∀ m : Nat, (ls m fun i => F i + c).sum = (ls m F).sum + m * c
  | 0 => by simp [ls]
  | m + 1 => by
    rw [sum_snoc, sum_snoc, sum_const F c m, show ((m + 1 : Nat) : Int) = (m : Int) + 1 by omega, Int.add_mul]
    omega
theorem sum_shift (F : Nat → Int) : ∀ m : Nat, (ls m fun i => F (i + 1)).sum = (ls m F).sum + F m - F 0
  | 0 => by simp [ls]
  | m + 1 => by
    rw [sum_snoc, sum_snoc, sum_shift F m]
    omega
theorem sum_sub (F G : Nat → Int) : ∀ m : Nat, (ls m fun i => F i - G i).sum = (ls m F).sum - (ls m G).sum
  | 0 => by simp [ls]
  | m + 1 => by
    rw [sum_snoc, sum_snoc, sum_snoc, sum_sub F G m]
    omega
theorem sum_turn {c : Int} (h : ∀ i, F (i + m) = F i + c) : ∀ s : Nat, (ls m fun i => F (i + s)).sum = (ls m F).sum + s * c
  | 0 => by simp
  | s + 1 => by
    have e : (fun i => F (i + (s + 1))) = fun i => F (i + 1 + s) := funext fun i => by rw [show i + (s + 1) = i + 1 + s by omega]
    have h1 : (ls m fun i => F (i + 1 + s)).sum = (ls m fun i => F (i + s)).sum + F (m + s) - F (0 + s) := sum_shift (fun i => F (i + s)) m
    have h2 := h s
    rw [Nat.add_comm s m] at h2
    rw [e, h1, sum_turn h s, h2, Nat.zero_add, show ((s + 1 : Nat) : Int) = (s : Int) + 1 by omega, Int.add_mul]
    omega
/-- how far all carts go in a settled beat -/
def went (n r : Int) (m : Nat) : Int := min (r * m) (n - m)
theorem runs_room (P : Per n m Y) (h : Runs r Y) : r * m ≤ n - m := by
  have key : ∀ k : Nat, Y 0 + (r + 1) * k ≤ Y k := by
    intro k
    induction k with
    | zero => simp
    | succ k ih =>
      have := h k
      rw [show ((k + 1 : Nat) : Int) = (k : Int) + 1 by omega, Int.mul_add]
      omega
  have h1 := key m
  have h2 := P.per 0
  rw [Nat.zero_add] at h2
  rw [h2, Int.add_mul] at h1
  omega
theorem backs_tight (P : Per n m Y) (h : Backs r Y) : n - m ≤ r * m := by
  have key : ∀ k : Nat, Y k ≤ Y 0 + (r + 1) * k := by
    intro k
    induction k with
    | zero => simp
    | succ k ih =>
      have := h k
      rw [show ((k + 1 : Nat) : Int) = (k : Int) + 1 by omega, Int.mul_add]
      omega
  have h1 := key m
  have h2 := P.per 0
  rw [Nat.zero_add] at h2
  rw [h2, Int.add_mul] at h1
  omega
theorem went_step (P : Per n m Y) (h : Runs r Y ∨ Backs r Y) : (ls m (stp r Y)).sum - (ls m Y).sum = went n r m := by
  unfold went
  rcases h with h | h
  · have := runs_room P h
    rw [h.stp, sum_const, Int.mul_comm]
    omega
  · have := backs_tight P h
    have e : (fun i => Y (i + 1) - 1) = fun i => (fun i => Y (i + 1)) i + (-1) := funext fun i => by simp only []; omega
    rw [h.stp, e, sum_const, sum_shift]
    have h2 := P.per 0
    rw [Nat.zero_add] at h2
    omega
theorem passes_round (W : Rw n r m X) (c : Int) {T : Nat} (h : Runs r (wlk r X T) ∨ Backs r (wlk r X T)) (L : Nat) : passes n r m X c (T + L * n.toNat) - passes n r m X c T = went n r m * L := by
  have hn := W.n0
  have P := W.P.wlk W.r0 T
  have en : ((n.toNat : Nat) : Int) = n := by omega
  unfold passes went
  rw [sum_sub, sum_sub, wlk_add]
  generalize wlk r X T = Y at *
  rcases h with h | h
  · have := runs_room P h
    rw [h.on]
    have e : (fun i => (Y i + r * ((L * n.toNat : Nat) : Int) - c - 1) / n) = fun i => (fun i => (Y i - c - 1) / n) i + r * L := funext fun i => by
      rw [show ((L * n.toNat : Nat) : Int) = (L : Int) * n by rw [Int.natCast_mul, en], ← Int.mul_assoc, show Y i + r * L * n - c - 1 = (Y i - c - 1) + r * L * n by omega, Int.add_mul_ediv_right _ _ (by omega)]
    rw [e, sum_const, show min (r * (m : Int)) (n - m) = r * m by omega, show r * (m : Int) * (L : Int) = (m : Int) * (r * (L : Int)) by rw [Int.mul_assoc, Int.mul_left_comm]]
    omega
  · have := backs_tight P h
    rw [h.on]
    have e : (fun i => (Y (i + L * n.toNat) - ((L * n.toNat : Nat) : Int) - c - 1) / n) = fun i => (fun i => (fun i => (Y i - c - 1) / n) (i + L * n.toNat)) i + (-L) := funext fun i => by
      rw [show ((L * n.toNat : Nat) : Int) = (L : Int) * n by rw [Int.natCast_mul, en], show Y (i + L * n.toNat) - (L : Int) * n - c - 1 = (Y (i + L * n.toNat) - c - 1) + (-(L : Int)) * n by rw [Int.neg_mul]; omega, Int.add_mul_ediv_right _ _ (by omega)]
    have hF : ∀ i, (fun i => (Y i - c - 1) / n) (i + m) = (fun i => (Y i - c - 1) / n) i + 1 := fun i => by
      show (Y (i + m) - c - 1) / n = (Y i - c - 1) / n + 1
      rw [P.per, show Y i + n - c - 1 = (Y i - c - 1) + 1 * n by omega, Int.add_mul_ediv_right _ _ (by omega)]
    have h1 : (ls m fun i => (Y (i + L * n.toNat) - c - 1) / n).sum = (ls m fun i => (Y i - c - 1) / n).sum + ((L * n.toNat : Nat) : Int) * 1 := sum_turn (F := fun i => (Y i - c - 1) / n) hF (L * n.toNat)
    have h2 : ((ls m fun i => (fun i => (fun i => (Y i - c - 1) / n) (i + L * n.toNat)) i + (-L)).sum : Int) = (ls m fun i => (Y (i + L * n.toNat) - c - 1) / n).sum + (m : Int) * (-L) := sum_const (fun i => (Y (i + L * n.toNat) - c - 1) / n) (-L) m
    rw [e, h2, h1, show min (r * (m : Int)) (n - m) = n - m by omega, Int.sub_mul, Int.natCast_mul, en, Int.mul_neg, Int.mul_comm n]
    omega
/-! ### the best number of carts -/
def flw (n r : Int) (i : Nat) : Int := min (r * (1 + i)) (n - (1 + i))
theorem rng1 {n : Int} (hn : 0 ≤ n) : rng 1 (n + 1) = (List.range n.toNat).map fun i => .int (1 + (i : Int)) := by
  unfold rng
  rw [show (n + 1 - 1).toNat = n.toNat by omega]
theorem m_best_many (R : Rg n r) : ∃ i0 : Nat, i0 < n.toNat ∧ g_best_many [rg n r] = some (.ok (.tuple [.int (flw n r i0), .int (1 + i0)])) ∧ (∀ j, j < n.toNat → flw n r j ≤ flw n r i0) ∧ ∀ j, j < i0 → flw n r j ≠ flw n r i0 := by
  have hn := R.n0
  have hn1 := R.n1
  obtain ⟨p, hp, hg, hl⟩ := gMax_pairs (ps := (List.range n.toNat).map fun i => (flw n r i, -(1 + (i : Int)))) (by simp; omega)
  obtain ⟨i0, hi, rfl⟩ := List.mem_map.mp hp
  have hi := List.mem_range.mp hi
  have hq : ∀ j, j < n.toNat → ¬ plt (flw n r i0, -(1 + (i0 : Int))) (flw n r j, -(1 + (j : Int))) := fun j hj => hl _ (List.mem_map.mpr ⟨j, List.mem_range.mpr hj, rfl⟩)
  refine ⟨i0, hi, ?_, fun j hj => ?_, fun j hj e => ?_⟩
  · have ok1 : okR 1 = true := okR_s (by omega) (by omega)
    have ok2 : okR (n + 1) = true := okR_s (by omega) (by omega)
    have h1 : n.toNat ≤ 100000 := by omega
    have l1 : lcD (tgN 3) dYes (dTup (aCons (dCall g_flow_of (aCons (dV 0) (aCons (dV 3) aNil))) (aCons (d1 gNeg (dV 3)) aNil))) [.val (rg n r), .un, .un, .un] ((List.range n.toNat).map fun (i : Nat) => .int (1 + (i : Int))) (0, 0)
        = some (.ok (((List.range n.toNat).map fun (i : Nat) => (flw n r i, -(1 + (i : Int)))).map pD), (0, 0)) := by
      rw [lcD_map (e := fun i => pD (flw n r i, -(1 + (i : Int)))), List.map_map]
      · rfl
      · intro i hi
        have := List.mem_range.mp hi
        exact ⟨_, rfl, rfl, by simp [m_flow_of (n := n) (r := r) (k := 1 + (i : Int)) (by omega), flw]⟩
    simp only [g_best_many, b_best_many]
    simp [m_need_ring R, ok1, ok2, rng1 (show 0 ≤ n by omega), h1, l1, -List.map_map]
    simp [hg, -List.map_map]
  · have := hq j hj
    unfold plt at this
    simp only at this
    omega
  · have := hq j (by omega)
    unfold plt at this
    simp only at this
    omega
theorem maxL_at {N i0 : Nat} (hi : i0 < N) (h : ∀ j, j < N → F j ≤ F i0) : maxL (ls N F) = F i0 := by
  have h1 := (maxL_le (ls_ne (show 0 < N by omega) F) (F i0)).mpr fun y hy => by obtain ⟨j, hj, rfl⟩ := ls_mem.mp hy; exact h j hj
  have h2 := (maxL_le (ls_ne (show 0 < N by omega) F) (maxL (ls N F))).mp (Int.le_refl _) (F i0) (ls_mem.mpr ⟨i0, hi, rfl⟩)
  omega
theorem gIdx_ls {N i0 : Nat} {v : Int} (hi : i0 < N) (h0 : F i0 = v) (h : ∀ j, j < i0 → F j ≠ v) : gIdx ((ls N F).map .int) (.int v) = some (.int (i0 : Nat)) := by
  unfold gIdx
  have e : (((ls N F).map PyData.int).findIdx? fun z => PyData.eqv z (.int v)) = some i0 := by
    rw [List.findIdx?_eq_some_iff_getElem]
    refine ⟨by simpa using hi, ?_, fun j hj => ?_⟩
    · simp [ls, h0]
    · simp [ls, h j hj]
  rw [e]
  simp
end
end G8

set_option Elab.async false
set_option linter.all false
set_option maxRecDepth 100000
set_option maxHeartbeats 1000000
namespace G8
open PySem PySem.Spec PyProof.Rows L2
section
variable {n r : Int} {m : Nat} {X Y Z F : Nat → Int}
theorem m_gaps (W : Rw n r m X) : g_gaps [rg n r, tI (ls m X)] = some (.ok (tI (ls m fun i => X (i + 1) - X i - 1))) := by
  simp [g_gaps, b_gaps, m_need_row W, m_all_gaps W.m0 (by have := W.m24; omega) W.pm]
open Classical in
theorem m_runs (W : Rw n r m X) : g_runs [rg n r, tI (ls m X)] = some (.ok (.bool (decide (Runs r X)))) := by
  have this : g_does_run [rg n r, tI (ls m X)] = some (.ok (.bool (decide (Runs r X)))) := by
    have := W.run 0
    rw [W.row0] at this
    exact this
  simp [g_runs, b_runs, m_need_row W, this]
open Classical in
theorem m_backs (W : Rw n r m X) : g_backs [rg n r, tI (ls m X)] = some (.ok (.bool (decide (Backs r X)))) := by
  have this : g_does_back [rg n r, tI (ls m X)] = some (.ok (.bool (decide (Backs r X)))) := by
    have := W.back 0
    rw [W.row0] at this
    exact this
  simp [g_backs, b_backs, m_need_row W, this]
open Classical in
theorem m_settles (W : Rw n r m X) {T : Nat} (S : Sett r m X T) : g_settles [rg n r, tI (ls m X)] = some (.ok (.tuple [.int T, .str (if Runs r (wlk r X T) then "runs" else "backs")])) := by
  have e : ∀ a b c : D, gCut [a, b, c] none (some 2) = [a, b] := fun _ _ _ => rfl
  simp [g_settles, b_settles, m_need_row W, m_settled W S, e]
theorem m_need_all (W : Rw n r m X) {t : Int} (h0 : 0 ≤ t) (h1 : t ≤ 1000000000000000000) : g_need_all [rg n r, tI (ls m X), .int t] = some (.ok .none) := by
  simp [g_need_all, b_need_all, m_need_row W, m_need_moment h0 h1]
theorem m_gone (W : Rw n r m X) {t : Nat} (ht : t ≤ 1000000000000000000) : g_gone [rg n r, tI (ls m X), .int t] = some (.ok (tI (ls m fun i => wlk r X t i - X i))) := by
  simp [g_gone, b_gone, m_need_all W (t := (t : Int)) (by omega) (by omega), m_all_gone W ht]
theorem m_row_at (W : Rw n r m X) {t : Nat} (ht : t ≤ 1000000000000000000) : g_row_at [rg n r, tI (ls m X), .int t] = some (.ok (tI (rowAt n r m X t))) := by
  have e : (fun i => (X i + (wlk r X t i - X i)) % n) = fun i => wlk r X t i % n := funext fun i => by rw [show X i + (wlk r X t i - X i) = wlk r X t i by omega]
  simp [g_row_at, b_row_at, m_all_gone W ht, m_moved W.n0 (show m ≤ 1000 by have := W.m24; omega), e, rowAt]
theorem m_after (W : Rw n r m X) {t : Nat} (ht : t ≤ 1000000000000000000) : g_after [rg n r, tI (ls m X), .int t] = some (.ok (tI (rowAt n r m X t))) := by
  simp [g_after, b_after, m_need_all W (t := (t : Int)) (by omega) (by omega), m_row_at W ht]
theorem m_is_room (W : Rw n r m X) : g_is_room [rg n r, tI (ls m X)] = some (.ok (.bool (decide ((m : Int) * (r + 1) ≤ n)))) := by
  have hM := W.m24
  have e2 : gMul (.int (m : Int)) (.int (r + 1)) = some (.int (m * (r + 1))) := gMul_l (by omega) (by omega)
  simp [g_is_room, b_is_room, e2]
theorem m_has_room (W : Rw n r m X) : g_has_room [rg n r, tI (ls m X)] = some (.ok (.bool (decide ((m : Int) * (r + 1) ≤ n)))) := by
  simp [g_has_room, b_has_room, m_need_row W, m_is_room W]
/-! ### the round of rows -/
theorem rowAt_next (W : Rw n r m X) {s t : Nat} (h : rowAt n r m X s = rowAt n r m X t) (k : Nat) : rowAt n r m X (s + k) = rowAt n r m X (t + k) := by
  induction k with
  | zero => exact h
  | succ k ih =>
    have h1 := W.next (s + k)
    have h2 := W.next (t + k)
    rw [ih] at h1
    rw [h1] at h2
    have h3 := Except.ok.inj (Option.some.inj h2)
    have h4 := PyData.tuple.inj h3
    exact (List.map_inj_right fun a b e => PyData.int.inj e).mp h4
open Classical in
theorem row_runs (W : Rw n r m X) {s t : Nat} (h : rowAt n r m X s = rowAt n r m X t) : Runs r (wlk r X s) ↔ Runs r (wlk r X t) := by
  have h1 := W.run s
  have h2 := W.run t
  rw [h, h2] at h1
  have h3 := PyData.bool.inj (Except.ok.inj (Option.some.inj h1))
  exact (decide_eq_decide.mp h3).symm
open Classical in
theorem row_backs (W : Rw n r m X) {s t : Nat} (h : rowAt n r m X s = rowAt n r m X t) : Backs r (wlk r X s) ↔ Backs r (wlk r X t) := by
  have h1 := W.back s
  have h2 := W.back t
  rw [h, h2] at h1
  have h3 := PyData.bool.inj (Except.ok.inj (Option.some.inj h1))
  exact (decide_eq_decide.mp h3).symm
theorem settled_on {T : Nat} (h : Runs r (wlk r X T) ∨ Backs r (wlk r X T)) (k : Nat) : (Runs r (wlk r X T) → Runs r (wlk r X (T + k))) ∧ (Backs r (wlk r X T) → Backs r (wlk r X (T + k))) := by
  rw [wlk_add]
  refine ⟨fun h i => ?_, fun h i => ?_⟩
  · rw [h.on]; have := h i; simp only []; omega
  · rw [h.on]; have := h (i + k); simp only []; rw [show i + 1 + k = i + k + 1 by omega]; omega
/-- no row comes twice ahead of the round's end -/
theorem rows_once (W : Rw n r m X) {T L : Nat} (S : Sett r m X T) (Q : Lap n r m X T L) {s t : Nat} (hst : s < t) (ht : t < T + L) : rowAt n r m X s ≠ rowAt n r m X t := by
  intro h
  have hset : ∀ k, T ≤ k → Runs r (wlk r X k) ∨ Backs r (wlk r X k) := fun k hk => by
    have := settled_on S.is (k - T)
    rw [show T + (k - T) = k by omega] at this
    exact S.is.imp this.1 this.2
  by_cases hs : s < T
  · -- then s is settled at some later time of its own round
    have per : ∀ k, rowAt n r m X (s + k * (t - s)) = rowAt n r m X s := by
      intro k
      induction k with
      | zero => simp
      | succ k ih =>
        have h2 := rowAt_next W h (k * (t - s))
        rw [ih] at h2
        rw [show s + (k + 1) * (t - s) = t + k * (t - s) by rw [Nat.add_mul]; omega]
        exact h2.symm
    have h3 := per T
    have hk : T ≤ s + T * (t - s) := by
      have := Nat.le_mul_of_pos_right T (show 0 < t - s by omega)
      omega
    have h4 := hset _ hk
    exact S.first s hs (h4.imp (row_runs W h3).mp (row_backs W h3).mp)
  · have h2 := rowAt_next W h (T + L - t)
    rw [show t + (T + L - t) = T + L by omega, Q.is] at h2
    exact Q.first (L - (t - s)) (by omega) (by omega) (by rw [show T + (L - (t - s)) = s + (T + L - t) by omega]; exact h2)
theorem row_round (W : Rw n r m X) {T L : Nat} (Q : Lap n r m X T L) (k j : Nat) : rowAt n r m X (T + L * k + j) = rowAt n r m X (T + j) := by
  induction k with
  | zero => simp
  | succ k ih =>
    have := rowAt_next W Q.is (L * k + j)
    rw [show T + L * (k + 1) + j = T + L + (L * k + j) by rw [Nat.mul_add]; omega, this, ← ih, Nat.add_assoc]
theorem sum_on (W : Rw n r m X) {T : Nat} (h : Runs r (wlk r X T) ∨ Backs r (wlk r X T)) : ∀ k : Nat, (ls m (wlk r X (T + k))).sum = (ls m (wlk r X T)).sum + k * went n r m
  | 0 => by simp
  | k + 1 => by
    have h1 := sum_on W h k
    have hs := settled_on h k
    have h2 := went_step (W.P.wlk W.r0 (T + k)) (h.imp hs.1 hs.2)
    have h3 : (ls m (wlk r X (T + (k + 1)))).sum - (ls m (wlk r X (T + k))).sum = went n r m := h2
    rw [show ((k + 1 : Nat) : Int) = (k : Int) + 1 by omega, Int.add_mul]
    omega
theorem room_runs (W : Rw n r m X) {T : Nat} (h : Runs r (wlk r X T) ∨ Backs r (wlk r X T)) : Runs r (wlk r X T) ↔ (m : Int) * (r + 1) ≤ n := by
  have P := W.P.wlk W.r0 T
  constructor
  · intro h
    have := runs_room P h
    rw [Int.mul_add, Int.mul_comm (m : Int) r]
    omega
  · intro hr
    rcases h with h | h
    · exact h
    · -- all gaps are r
      have h1 := (settles (r := r) P W.m0 (t := m - 1) (by have := W.m0; omega))
      rw [if_pos hr, h.on] at h1
      intro i
      have := (per_all (p := fun x => r ≤ x) (F := fun i => wlk r X T (i + 1) - wlk r X T i - 1) (m := m) (fun i => by
        show wlk r X T (i + m + 1) - wlk r X T (i + m) - 1 = _
        rw [show i + m + 1 = i + 1 + m by omega, P.per, P.per]; omega) W.m0 (m - 1)).mp (fun i _ => by
          have := h1 i
          simp only [] at this
          show r ≤ wlk r X T (i + (m - 1) + 1) - wlk r X T (i + (m - 1)) - 1
          rw [show i + 1 + (m - 1) = i + (m - 1) + 1 by omega] at this
          omega) i
      exact this
end
end G8

set_option Elab.async false
set_option linter.all false
set_option maxRecDepth 100000
set_option maxHeartbeats 1000000
namespace G8
open PySem PySem.Spec PyProof.Rows L2
section
variable {n r : Int} {m : Nat} {X Y Z F : Nat → Int}
theorem m_law_as_row (hn : 0 < n) (hM : m ≤ 1000) : g__law_as_row [rg n r, lI (ls m Y)] = some (.ok (tI (isort (ls m fun i => Y i % n)))) := by
  have e5 : m ≤ 100000 := by omega
  simp only [g__law_as_row, b__law_as_row]
  simp [e5]
  rw [← ls_int, lcD_map (e := fun i => .int (Y i % n)), ls_int]
  · simp [gSorted]
  · exact fun i _ => ⟨_, rfl, rfl, by simp [gMod_int hn]⟩
theorem m_law_low {a b : Nat} (hb : 0 < b) (hb1 : b ≤ 900) : g__law_low [.int a, .int b] = some (.ok (.tuple [.int ((a / Nat.gcd a b : Nat) : Int), .int ((b / Nat.gcd a b : Nat) : Int)])) := m_lowest hb hb1
theorem gEq_none (m : Nat) (p : Nat → Prop) [DecidablePred p] : gEq (.list ((List.range m).filterMap fun i => if p i then none else some (.int 1))) (.list []) = some (.bool (decide (∀ i, i < m → p i))) := by
  have e : ((List.range m).filterMap fun i => if p i then none else some (PyData.int 1)) = (((List.range m).filter fun i => !decide (p i)).map fun _ => (1 : Int)).map .int := by
    rw [List.map_map]
    generalize List.range m = l
    induction l with
    | nil => rfl
    | cons x xs ih => by_cases h : p x <;> simp [h, ih]
  rw [e]
  refine (gEq_lI _ []).trans ?_
  congr 2
  rw [decide_eq_decide]
  simp [List.filter_eq_nil_iff]
open Classical in
noncomputable def mark (r : Int) (X : Nat → Int) (t : Nat) : Str := if Runs r (wlk r X t) then "runs" else if Backs r (wlk r X t) then "backs" else "neither"
open Classical in
theorem m_law_marks (W : Rw n r m X) (k : Nat) (hk : k ≤ 900) : g__law_marks [rg n r, .list ((List.range (k + 1)).map fun t => lI (ls m (wlk r X t)))] = some (.ok (.list ((List.range k).map fun t => .str (mark r X t)))) := by
  have hm := W.m0
  have hM := W.m24
  have hM1 : m ≤ 100000 := by omega
  have per : ∀ t, Per n m (wlk r X t) := W.P.wlk W.r0
  obtain ⟨LL, hLL⟩ : ∃ LL : D, LL = .list ((List.range (k + 1)).map fun t => lI (ls m (wlk r X t))) := ⟨_, rfl⟩
  have loop : ∀ (l : List Nat) (ds : List D) (s1 s2 s3 s4 s5 : Sl) , ds.length + l.length ≤ 900 → ∃ s1' s2' s3' s4' s5', forD (tgT [3, 4]) (sSeq (sSet 5 (d2 gAdd (dSl (dV 3) (some (dC (.int 1))) none) (dL (fLst (aCons (d2 gAdd (d2 gIx (dB 3) (dC (.int 0))) (d2 gIx (dB 0) (dC (.int 0)))) aNil)))))
    (sSeq (sSet 6 (d2 gEq (dL (fLc (f2 gZip (dV 3) (dV 4)) (tgT [7, 8]) (d2 gNe (d2 gSub (dV 8) (dV 7)) (d2 gIx (dB 0) (dC (.int 1)))) (dC (.int 1)) [7, 8])) (dL (fLst aNil))))
    (sSeq (sSet 9 (d2 gEq (dL (fLc (f2 gZip (dV 5) (dV 4)) (tgT [10, 8]) (d2 gNe (dV 8) (d2 gSub (dV 10) (dC (.int 1)))) (dC (.int 1)) [10, 8])) (dL (fLst aNil))))
    (sSeq (sApp 2 (dIf (dV 6) (dC (.str "runs")) (dIf (dV 9) (dC (.str "backs")) (dC (.str "neither")))))
    sNil)))) (l.map fun t => .tuple [lI (ls m (wlk r X t)), lI (ls m (wlk r X (t + 1)))]) [.val (rg n r), .val LL, .own ds, s1, s2, s3, s4, .un, .un, s5, .un] (0, 0)
      = some (.nx [.val (rg n r), .val LL, .own (ds ++ l.map fun t => .str (mark r X t)), s1', s2', s3', s4', .un, .un, s5', .un], (0, 0)) := by
    intro l
    induction l with
    | nil => intro ds s1 s2 s3 s4 s5 _; exact ⟨s1, s2, s3, s4, s5, by simp [forD]⟩
    | cons t ts ih =>
      intro ds s1 s2 s3 s4 s5 hd
      rw [List.length_cons] at hd
      obtain ⟨s1', s2', s3', s4', s5', e⟩ := ih (ds ++ [.str (mark r X t)]) (.val (lI (ls m (wlk r X t)))) (.val (lI (ls m (wlk r X (t + 1))))) (.val (lI (ls m fun i => wlk r X t (i + 1)))) (.val (.bool (decide (Runs r (wlk r X t))))) (.val (.bool (decide (Backs r (wlk r X t))))) (by rw [List.length_append]; simp; omega)
      refine ⟨s1', s2', s3', s4', s5', ?_⟩
      have fin : (ds ++ [PyData.str (mark r X t)]) ++ ts.map (fun i => PyData.str (mark r X i)) = ds ++ (t :: ts).map fun i => PyData.str (mark r X i) := by simp
      rw [fin] at e
      have hd' : ds.length < 100000 := by omega
      have pt := (per t).per 0
      rw [Nat.zero_add] at pt
      generalize hY : wlk r X t = Y at *
      have hY1 : wlk r X (t + 1) = stp r Y := by rw [← hY]; rfl
      simp only [hY1] at e
      have PY : Per n m Y := hY ▸ per t
      have e1 : ((ls m Y).map PyData.int).drop 1 ++ [PyData.int (Y 0 + n)] = (ls m fun i => Y (i + 1)).map .int := by
        obtain ⟨m', rfl⟩ : ∃ k, m = k + 1 := ⟨m - 1, by omega⟩
        rw [ls_succ, ls_snoc m' fun i => Y (i + 1), List.map_append, List.map_cons, ← pt]; rfl
      have e2 : atI ((ls m Y).map PyData.int) 0 = some (.int (Y 0)) := by exact_mod_cast atI_ls hm Y
      have e4 : m - 1 + 1 ≤ 100000 := by omega
      have e4' : m - 1 ≤ 99999 := by omega
      have e4'' : m ≤ 100000 := by omega
      have l1 : ∀ a b c d e f : Sl, lcD (tgT [7, 8]) (d2 gNe (d2 gSub (dV 8) (dV 7)) (d2 gIx (dB 0) (dC (.int 1)))) (dC (.int 1)) [.val (rg n r), a, b, c, d, e, f, .un, .un, s5, .un] ((List.range m).map fun i => .tuple [.int (Y i), .int (stp r Y i)]) (0, 0) = some (.ok ((List.range m).filterMap fun i => if stp r Y i - Y i = r then none else some (.int 1)), (0, 0)) := by
        intro a b c d e f
        refine lcD_filterMap fun i _ => ?_
        by_cases h : stp r Y i - Y i = r
        · exact ⟨_, rfl, by simp [h]⟩
        · exact ⟨_, rfl, by simp [h]⟩
      have l2 : ∀ a b c d e f g : Sl, lcD (tgT [10, 8]) (d2 gNe (dV 8) (d2 gSub (dV 10) (dC (.int 1)))) (dC (.int 1)) [.val (rg n r), a, b, c, d, e, f, .un, .un, g, .un] ((List.range m).map fun i => .tuple [.int (Y (i + 1)), .int (stp r Y i)]) (0, 0) = some (.ok ((List.range m).filterMap fun i => if stp r Y i = Y (i + 1) - 1 then none else some (.int 1)), (0, 0)) := by
        intro a b c d e f g
        refine lcD_filterMap fun i _ => ?_
        by_cases h : stp r Y i = Y (i + 1) - 1
        · exact ⟨_, rfl, by simp [h]⟩
        · exact ⟨_, rfl, by simp [h]⟩
      have b1 : decide (∀ i, i < m → stp r Y i - Y i = r) = decide (Runs r Y) := by
        rw [decide_eq_decide]
        have := per_all (p := fun x => r ≤ x) (F := fun i => Y (i + 1) - Y i - 1) (m := m) (fun i => by
          show Y (i + m + 1) - Y (i + m) - 1 = _
          rw [show i + m + 1 = i + 1 + m by omega, PY.per, PY.per]; omega) hm 0
        refine Iff.trans ?_ this
        refine forall_congr' fun i => forall_congr' fun _ => ?_
        show stp r Y i - Y i = r ↔ r ≤ Y (i + 1) - Y i - 1
        unfold stp
        omega
      have b2 : decide (∀ i, i < m → stp r Y i = Y (i + 1) - 1) = decide (Backs r Y) := by
        rw [decide_eq_decide]
        have := per_all (p := fun x => x ≤ r) (F := fun i => Y (i + 1) - Y i - 1) (m := m) (fun i => by
          show Y (i + m + 1) - Y (i + m) - 1 = _
          rw [show i + m + 1 = i + 1 + m by omega, PY.per, PY.per]; omega) hm 0
        refine Iff.trans ?_ this
        refine forall_congr' fun i => forall_congr' fun _ => ?_
        show stp r Y i = Y (i + 1) - 1 ↔ Y (i + 1) - Y i - 1 ≤ r
        unfold stp
        omega
      have q1 := gEq_none m fun i => stp r Y i - Y i = r
      have q2 := gEq_none m fun i => stp r Y i = Y (i + 1) - 1
      rw [b1] at q1
      rw [b2] at q2
      have hmk : mark r X t = (if Runs r Y then ("runs" : Str) else if Backs r Y then ("backs" : Str) else ("neither" : Str)) := by unfold mark; rw [hY]
      rw [hmk] at e
      rw [List.map_cons, forD]
      simp only [tgT, List.length_cons, List.length_nil, Nat.reduceAdd, if_true, setAll, List.set_cons_succ, List.set_cons_zero]
      have es : ∀ ρ δ, dIf (dV 6) (dC (.str "runs")) (dIf (dV 9) (dC (.str "backs")) (dC (.str "neither"))) [.val (rg n r), .val LL, .own ds, .val (lI (ls m Y)), .val (lI (ls m (stp r Y))), ρ, .val (.bool (decide (Runs r Y))), .un, .un, .val (.bool (decide (Backs r Y))), .un] δ = some (.ok (.str (mark r X t)), δ) := by
        intro ρ δ
        rw [hmk]
        by_cases c1 : Runs r Y <;> by_cases c2 : Backs r Y <;> simp [c1, c2]
      rw [← hmk] at e
      simp only [hY, hY1]
      simp [cut_tail, e1, e2, e4, e4', e4'', zipD_ls, l1, l2, hM1, q1, q2, hd', -List.drop_one, -List.map_drop, -dIf, es]
      exact e
  obtain ⟨s1, s2, s3, s4, s5, e⟩ := loop (List.range k) [] .un .un .un .un .un (by simp; omega)
  have ez : zipD ((List.range (k + 1)).map fun t => lI (ls m (wlk r X t))) (((List.range (k + 1)).map fun t => lI (ls m (wlk r X t))).drop 1) = (List.range k).map fun t => .tuple [lI (ls m (wlk r X t)), lI (ls m (wlk r X (t + 1)))] := by
    unfold zipD
    refine List.ext_getElem (by simp) fun i h1 h2 => ?_
    simp
  simp only [g__law_marks, b__law_marks]
  rw [List.nil_append, hLL] at e
  simp [cut_tail, ez, e, -List.drop_one, -List.map_drop]
end
end G8

set_option Elab.async false
set_option linter.all false
set_option maxRecDepth 100000
set_option maxHeartbeats 1000000
namespace G8
open PySem PySem.Spec PyProof.Rows L2
section
variable {n r : Int} {m : Nat} {X Y Z F : Nat → Int}
theorem m_paceN (W : Rw n r m X) : ∃ p q : Nat, g_pace [rg n r, tI (ls m X)] = some (.ok (.tuple [.int p, .int q])) ∧ (p : Int) * m = went n r m * q ∧ g__law_low [.int p, .int q] = some (.ok (.tuple [.int p, .int q])) ∧ p ≤ 2000 ∧ q ≤ 24 := by
  obtain ⟨p, q, e, h1, h2, h3, h4⟩ := m_pace W
  have hm := W.m0
  have hM := W.m24
  have hmn := W.mn
  have hn1 := W.R.n1
  have hr0 := W.R.r0
  have hr1 := W.R.r1
  have hrm : 0 ≤ r * (m : Int) := Int.mul_nonneg (by omega) (by omega)
  have hw0 : 0 ≤ min (r * (m : Int)) (n - m) := by omega
  have hp0 : 0 ≤ p := by
    have h5 : 0 ≤ p * m := by rw [h1]; exact Int.mul_nonneg hw0 (by omega)
    by_cases c : 0 ≤ p
    · exact c
    · have := Int.mul_neg_of_neg_of_pos (show p < 0 by omega) (show (0 : Int) < m by omega)
      omega
  obtain ⟨p, rfl⟩ : ∃ k : Nat, p = k := ⟨p.toNat, by omega⟩
  obtain ⟨q, rfl⟩ : ∃ k : Nat, q = k := ⟨q.toNat, by omega⟩
  rw [Int.gcd_natCast_natCast] at h3
  have hp : p ≤ 2000 := by
    have h5 : (p : Int) * 1 ≤ p * m := Int.mul_le_mul_of_nonneg_left (by omega) hp0
    have h6 : min (r * (m : Int)) (n - m) * q ≤ 24 * 24 := Int.mul_le_mul (by omega) h4 (by omega) (by omega)
    omega
  refine ⟨p, q, e, h1, ?_, hp, by omega⟩
  rw [m_law_low (by omega) (by omega), h3, Nat.div_one, Nat.div_one]
theorem atI_walk {k j : Nat} (h : j < k) (f : Nat → D) : atI ((List.range k).map f) (j : Int) = some (f j) := by
  rw [atI_nat (by simpa using h)]
  simp
theorem m_law_far_right (W : Rw n r m X) {T L : Nat} (S : Sett r m X T) (Q : Lap n r m X T L) (k : Nat) (hk : k ≤ 10000000000000000) :
    g__law_far_right [rg n r, tI (ls m X), .list ((List.range (T + L + 1)).map fun t => lI (ls m (wlk r X t))), .tuple [.int T, .int L], .int k] = some (.ok (.bool true)) := by
  have hm := W.m0
  have hM := W.m24
  have hn := W.n0
  have hn1 := W.R.n1
  have hT := S.le
  have hL := Q.le
  have hL0 := Q.pos
  have a1 : atI ((List.range (T + L + 1)).map fun t => lI (ls m (wlk r X t))) ((T : Int) + L) = some (lI (ls m (wlk r X (T + L)))) := by
    have := atI_walk (k := T + L + 1) (j := T + L) (by omega) fun t => lI (ls m (wlk r X t))
    rwa [Int.natCast_add] at this
  have a2 : atI ((List.range (T + L + 1)).map fun t => lI (ls m (wlk r X t))) (T : Int) = some (lI (ls m (wlk r X T))) := atI_walk (by omega) fun t => lI (ls m (wlk r X t))
  have a3 : atI ((List.range (T + L + 1)).map fun t => lI (ls m (wlk r X t))) ((T : Int) + 1) = some (lI (ls m (wlk r X (T + 1)))) := by
    have := atI_walk (k := T + L + 1) (j := T + 1) (by omega) fun t => lI (ls m (wlk r X t))
    rwa [Int.natCast_add] at this
  have hLk : L * k ≤ 24 * 10000000000000000 := Nat.mul_le_mul (by omega) hk
  have g1 : gMul (.int (L : Int)) (.int (k : Int)) = some (.int (L * k)) := gMul_l (by omega) (by omega)
  have ef : (T : Int) + L * k = ((T + L * k : Nat) : Int) := by rw [Int.natCast_add, Int.natCast_mul]
  have ef1 : (T : Int) + L * k + 1 = ((T + L * k + 1 : Nat) : Int) := by rw [ef]; rfl
  have f1 := m_after W (t := T + L * k) (by omega)
  have f2 := m_after W (t := T + L * k + 1) (by omega)
  have f3 := m_gone W (t := T + L * k) (by omega)
  have r1 := row_round W Q k 0
  have r2 := row_round W Q k 1
  rw [Nat.add_zero, Nat.add_zero] at r1
  rw [← ef, r1] at f1
  rw [← ef1, r2] at f2
  rw [← ef] at f3
  have w1 := m_law_as_row (r := r) (Y := wlk r X T) hn (show m ≤ 1000 by omega)
  have w2 := m_law_as_row (r := r) (Y := wlk r X (T + 1)) hn (show m ≤ 1000 by omega)
  have s1 := sum_on W S.is L
  have s2 := sum_on W S.is (L * k)
  have hs := sum_sub (wlk r X (T + L * k)) X m
  have g2 : gMul (.int (k : Int)) (.int ((ls m (wlk r X (T + L))).sum - (ls m (wlk r X T)).sum)) = some (.int (k * ((ls m (wlk r X (T + L))).sum - (ls m (wlk r X T)).sum))) := gMul_l (by omega) (by omega)
  have fin : (ls m fun i => wlk r X (T + L * k) i - X i).sum = (ls m (wlk r X T)).sum - (ls m X).sum + k * ((ls m (wlk r X (T + L))).sum - (ls m (wlk r X T)).sum) := by
    rw [hs, s1, s2, Int.natCast_mul, show (ls m (wlk r X T)).sum + (L : Int) * went n r m - (ls m (wlk r X T)).sum = (L : Int) * went n r m by omega, Int.mul_comm (L : Int) (k : Int), Int.mul_assoc]
    omega
  have q1 : gNe (tI (rowAt n r m X T)) (tI (isort (ls m fun i => wlk r X T i % n))) = some (.bool false) := by rw [gNe_tI]; simp [rowAt]
  have q2 : gNe (tI (rowAt n r m X (T + 1))) (tI (isort (ls m fun i => wlk r X (T + 1) i % n))) = some (.bool false) := by rw [gNe_tI]; simp [rowAt]
  simp only [g__law_far_right, b__law_far_right]
  simp [a1, a2, a3, g1, f1, f2, f3, w1, w2, q1, q2, g2, fin]
end
end G8

set_option Elab.async false
set_option linter.all false
set_option maxRecDepth 100000
set_option maxHeartbeats 2000000
namespace G8
open PySem PySem.Spec PyProof.Rows L2
/-! ### steps of a body -/
theorem sq_nx {g h : DS} {ρ ρ' : Rho} {δ δ' : Dl} (e : g ρ δ = some (.nx ρ', δ')) : sSeq g h ρ δ = h ρ' δ' := by simp only [sSeq, e]
theorem sq_no {t : DE} {g h : DS} {ρ : Rho} {δ : Dl} (e : t ρ δ = some (.ok (.bool false), δ)) : sSeq (sIf t g sNil) h ρ δ = h ρ δ := by simp only [sSeq, sIf, e, bndS, sNil]
theorem sq_yes {t : DE} {g f h : DS} {ρ : Rho} {δ : Dl} (e : t ρ δ = some (.ok (.bool true), δ)) : sSeq (sIf t g f) h ρ δ = sSeq g h ρ δ := by simp only [sSeq, sIf, e, bndS]
theorem lastI1 {α : Type} (a : α) : atI [a] (-1) = some a := rfl
/-- a loop that only goes on, its dice at rest -/
theorem forD_all {α : Type} {td : TgD} {body : DS} {h : α → D} {δ : Dl} {I : Rho → Prop} : ∀ {xs : List α} {ρ : Rho}, (∀ x ∈ xs, ∀ ρ, I ρ → ∃ ρ1 ρ2, td (h x) ρ = some ρ1 ∧ body ρ1 δ = some (.nx ρ2, δ) ∧ I ρ2) → I ρ →
    ∃ ρ2, forD td body (xs.map h) ρ δ = some (.nx ρ2, δ) ∧ I ρ2
  | [], ρ, _, i => ⟨ρ, rfl, i⟩
  | x :: xs, ρ, H, i => by
    obtain ⟨ρ1, ρ2, h1, h2, h3⟩ := H x (List.mem_cons_self ..) ρ i
    obtain ⟨ρ3, h4, h5⟩ := forD_all (fun y hy => H y (List.mem_cons_of_mem _ hy)) h3
    exact ⟨ρ3, by simp only [List.map_cons, forD, h1, h2, h4], h5⟩
/-- a counted loop -/
theorem forD_count {td : TgD} {body : DS} {h : Nat → D} {δ : Dl} {N : Nat} (I : Nat → Rho → Prop) (step : ∀ i ρ, i < N → I i ρ → ∃ ρ1 ρ2, td (h i) ρ = some ρ1 ∧ body ρ1 δ = some (.nx ρ2, δ) ∧ I (i + 1) ρ2) {ρ : Rho} (h0 : I 0 ρ) :
    ∃ ρ2, forD td body ((List.range N).map h) ρ δ = some (.nx ρ2, δ) ∧ I N ρ2 := by
  have key : ∀ k i ρ, i + k = N → I i ρ → ∃ ρ2, forD td body ((List.range' i k).map h) ρ δ = some (.nx ρ2, δ) ∧ I N ρ2 := by
    intro k
    induction k with
    | zero => intro i ρ e hi; exact ⟨ρ, rfl, by rw [← e]; exact hi⟩
    | succ k ih =>
      intro i ρ e hi
      obtain ⟨ρ1, ρ2, h1, h2, h3⟩ := step i ρ (by omega) hi
      obtain ⟨ρ3, h4, h5⟩ := ih (i + 1) ρ2 (by omega) h3
      exact ⟨ρ3, by rw [List.range'_succ, List.map_cons]; simp only [forD, h1, h2, h4], h5⟩
  rw [List.range_eq_range']
  exact key N 0 ρ (by omega) h0
section
variable {n r : Int} {m : Nat} {X Y Z F : Nat → Int}
/-! ### far moments: held, held_by -/
theorem m_held (W : Rw n r m X) {t : Nat} (ht : t ≤ 1000000000000000000) : g_held [rg n r, tI (ls m X), .int t] = some (.ok (tI (ls m fun i => r * t - (wlk r X t i - X i)))) := by
  have hM := W.m24
  have hr := W.R.r1
  have hr0 := W.r0
  have h2 : m ≤ 100000 := by omega
  have e1 : gMul (.int r) (.int (t : Int)) = some (.int (r * t)) := gMul_l (by omega) (by omega)
  simp only [g_held, b_held]
  simp [m_need_all W (t := (t : Int)) (by omega) (by omega), m_all_gone W ht, h2]
  rw [← ls_int, lcD_map (e := fun i => .int (r * t - (wlk r X t i - X i))), ls_int]
  exact fun i hi => ⟨_, rfl, rfl, by simp [e1]⟩
/-- no lag ahead of the one that is told comes as low -/
theorem Lag.le (W : Rw n r m X) {t c k : Nat} (L : Lag n r m X t c k) : k ≤ t := by
  have h1 := L.hi
  have hm := W.m0
  unfold askB askC at h1
  split at h1
  · omega
  · split at h1 <;> omega
theorem Lag.all (W : Rw n r m X) {t c k : Nat} (L : Lag n r m X t c k) {j : Nat} (hj : j < k) : mn (fun k => X (c + k) - (r + 1) * (k : Int)) t < X (c + j) - (r + 1) * (j : Int) := by
  have hk := L.le W
  have h0 : mn (fun k => X (c + k) - (r + 1) * (k : Int)) t ≤ X (c + j) - (r + 1) * (j : Int) := mn_le (fun k => X (c + k) - (r + 1) * (k : Int)) (show j ≤ t by omega)
  by_cases hb : askB n r m t ≤ j
  · have := L.first j hb hj
    omega
  · have hb' : askB n r m t = t - m + 1 ∧ 2 * m ≤ t ∧ n < (m : Int) * (r + 1) := by
      unfold askB at hb ⊢
      split
      · rename_i z
        rw [if_pos z] at hb
        omega
      · rename_i z
        rw [if_neg z] at hb
        split
        · rename_i z2
          rw [if_pos z2] at hb
          omega
        · omega
    have h1 := mn_le (fun k => X (c + k) - (r + 1) * (k : Int)) (show j + m ≤ t by omega)
    have h2 := W.P.per (c + j)
    simp only [show c + (j + m) = c + j + m by omega, h2] at h1
    have h3 : (r + 1) * ((j + m : Nat) : Int) = (r + 1) * (j : Int) + (m : Int) * (r + 1) := by rw [Int.natCast_add, Int.mul_add, Int.mul_comm (r + 1) (m : Int)]
    omega
theorem Lag.way (L : Lag n r m X t c k) : X (c + k) - X c + r * ((t : Int) - k) - k = wlk r X t c - X c := by
  have h := L.is
  rw [wlk_eq, ← h, Int.mul_sub, Int.add_mul]
  omega
theorem way_eq (t c k : Nat) : X (c + k) - X c + r * ((t : Int) - k) - k = X (c + k) - (r + 1) * (k : Int) + (r * t - X c) := by
  rw [Int.mul_sub, Int.add_mul]
  omega
theorem m_held_by (W : Rw n r m X) {t : Nat} (ht : t ≤ 1000000000000000000) : ∃ K : Nat → Nat, (∀ c, c < m → Lag n r m X t c (K c)) ∧ g_held_by [rg n r, tI (ls m X), .int t] = some (.ok (tI (ls m fun c => (K c : Int)))) := by
  have hM := W.m24
  have h1 : okR (m : Int) = true := okR_s (by omega) (by omega)
  have h2 : m ≤ 100000 := by omega
  have ex : ∀ c, ∃ k, c < m → Lag n r m X t c k ∧ g_least_at [rg n r, tI (ls m X), .int c, .int t] = some (.ok (.tuple [.int (wlk r X t c - X c), .int k])) := fun c => by
    by_cases hc : c < m
    · obtain ⟨k, h⟩ := m_least_at W ht hc
      exact ⟨k, fun _ => h⟩
    · exact ⟨0, fun z => absurd z hc⟩
  obtain ⟨K, hK⟩ := Classical.axiomOfChoice ex
  refine ⟨K, fun c hc => (hK c hc).1, ?_⟩
  simp only [g_held_by, b_held_by]
  simp [m_need_all W (t := (t : Int)) (by omega) (by omega), h1, h2, rng0]
  rw [lcD_map (e := fun c => .int (K c : Int)), ls_int]
  exact fun c hc => ⟨_, rfl, rfl, by simp [(hK c (List.mem_range.mp hc)).2]⟩
/-! ### the law's own ways -/
theorem m_law_way (W : Rw n r m X) {c : Nat} (hc : c < m) (k t : Nat) : g__law_way [rg n r, tI (ls m X), .int c, .int k, .int t] = some (.ok (.int (X (c + k) - X c + r * ((t : Int) - k) - k))) := by
  have hm := W.m0
  have hM := W.m24
  have hn := W.n0
  have hn1 := W.R.n1
  have hr := W.R.r1
  have hr0 := W.r0
  have e1 : gDiv (.int ((c : Int) + k)) (.int (m : Int)) = some (.int ((c + k) / m : Nat)) := by
    rw [gDiv_s (by omega) (by omega)]; norm_cast
  have e2 : gMod (.int ((c : Int) + k)) (.int (m : Int)) = some (.int ((c + k) % m : Nat)) := by
    rw [gMod_int (by omega)]; norm_cast
  have e3 : gMul (.int (((c + k) / m : Nat) : Int)) (.int n) = some (.int (((c + k) / m : Nat) * n)) := gMul_r (by omega) (by omega)
  have e4 := atI_ls (Nat.mod_lt (c + k) hm) X
  have e5 := atI_ls hc X
  have e6 := W.P.div (c + k)
  have e7 : gMul (.int r) (.int ((t : Int) - k)) = some (.int (r * ((t : Int) - k))) := gMul_l (by omega) (by omega)
  simp only [g__law_way, b__law_way]
  simp [e1, e2, e3, e4, e5, e7, -Int.natCast_ediv, -Int.natCast_emod]
  omega
theorem m_law_ahead (W : Rw n r m X) {c k : Nat} (hc : c < m) (hk : k ≤ 100) : g__law_ahead [rg n r, tI (ls m X), .int c, .int k] = some (.ok (.int (X (c + k) - X c))) := by
  have hm := W.m0
  have hM := W.m24
  have hn := W.n0
  have hn1 := W.R.n1
  obtain ⟨Q, hQ⟩ : ∃ Q, Q = (c + k) / m := ⟨_, rfl⟩
  have hq : Q ≤ 124 := by rw [hQ]; exact Nat.le_trans (Nat.div_le_self _ _) (by omega)
  have e1 : gDiv (.int ((c : Int) + k)) (.int (m : Int)) = some (.int (Q : Int)) := by
    rw [gDiv_s (by omega) (by omega), hQ]; norm_cast
  have ok1 : okR ((Q : Int) + 1) = true := okR_s (by omega) (by omega)
  have hM5 : m ≤ 100000 := by omega
  have hlt : c + k < (Q + 1) * m := by
    rw [Nat.add_mul, Nat.one_mul, Nat.mul_comm, hQ]
    have := Nat.div_add_mod (c + k) m
    have := Nat.mod_lt (c + k) hm
    omega
  have loop := forD_count (td := tgN 5) (body := sSeq (sSet 4 (d2 gAdd (dV 4) (dL (fLc (fSeq (dV 1)) (tgN 6) dYes (d2 gAdd (dV 6) (d2 gMul (dV 5) (d2 gIx (dB 0) (dC (.int 0))))) [6])))) sNil) (h := fun i => .int (i : Int)) (δ := (0, 0)) (N := Q + 1)
    (fun q ρ => ∃ s5, ρ = [.val (rg n r), .val (tI (ls m X)), .val (.int c), .val (.int k), .val (lI (ls (q * m) X)), s5, .un]) (fun q ρ hq' ⟨s5, e⟩ => by
      subst e
      refine ⟨_, [.val (rg n r), .val (tI (ls m X)), .val (.int c), .val (.int k), .val (lI (ls ((q + 1) * m) X)), .val (.int q), .un], rfl, ?_, .val (.int q), rfl⟩
      have e3 : gMul (.int (q : Int)) (.int n) = some (.int (q * n)) := gMul_r (by omega) (by omega)
      have hqm : q * m ≤ 125 * 24 := Nat.mul_le_mul (by omega) hM
      have l1 : lcD (tgN 6) dYes (d2 gAdd (dV 6) (d2 gMul (dV 5) (d2 gIx (dB 0) (dC (PyData.int 0))))) [.val (rg n r), .val (tI (ls m X)), .val (.int c), .val (.int k), .val (lI (ls (q * m) X)), .val (.int q), .un] ((ls m X).map .int) (0, 0) = some (.ok ((ls m fun i => X (i + q * m)).map .int), (0, 0)) := by
        rw [← ls_int, lcD_map (e := fun i => .int (X (i + q * m))), ls_int]
        intro i _
        exact ⟨_, rfl, rfl, by simp [e3, W.P.mul i q]⟩
      have hl : q * m + m ≤ 100000 := by omega
      simp [l1, hM5, hl]
      rw [← List.map_append, ← ls_add, Nat.add_mul, Nat.one_mul]) (ρ := [.val (rg n r), .val (tI (ls m X)), .val (.int c), .val (.int k), .val (.list []), .un, .un]) ⟨.un, by simp [ls]⟩
  obtain ⟨ρ2, e, s5', rfl⟩ := loop
  have rg1 : rng 0 ((Q : Int) + 1) = (List.range (Q + 1)).map fun (i : Nat) => .int (i : Int) := by
    rw [show (Q : Int) + 1 = ((Q + 1 : Nat) : Int) by omega]
    exact rng0 _
  have e4 : atI ((ls ((Q + 1) * m) X).map PyData.int) ((c : Int) + k) = some (.int (X (c + k))) := by
    have := atI_ls hlt X
    rwa [Int.natCast_add] at this
  have e5 := atI_ls hc X
  simp only [g__law_ahead, b__law_ahead]
  simp only [run, startR, List.length_cons, List.length_nil, Nat.reduceAdd, if_true, List.map_cons, List.map_nil, List.cons_append, List.nil_append, Nat.reduceSub, List.replicate_succ, List.replicate_zero]
  rw [sq_nx (ρ' := [.val (rg n r), .val (tI (ls m X)), .val (.int c), .val (.int k), .val (.list []), .un, .un]) (δ' := (0, 0)) (by simp)]
  rw [sq_nx (ρ' := [.val (rg n r), .val (tI (ls m X)), .val (.int c), .val (.int k), .val (lI (ls ((Q + 1) * m) X)), s5', .un]) (δ' := (0, 0)) (by
    simp only [sFor, f1, d2, dV, dC, dCB, aCons, aNil, gLen, bnd, bndS, lft, List.getElem?_cons_succ, List.getElem?_cons_zero, gAdd, e1, gRng1, List.length_map, ls_len, ok1, if_true, rg1]
    exact e)]
  simp [e4, e5]
end
end G8

set_option Elab.async false
set_option linter.all false
set_option maxRecDepth 100000
set_option maxHeartbeats 2000000
namespace G8
open PySem PySem.Spec PyProof.Rows L2
section
variable {n r : Int} {m : Nat} {X Y Z F : Nat → Int}
/-! ### refusals -/
/-- no whole number from lo to hi -/
def NoNum (d : D) (lo hi : Int) : Prop := g_is_whole [d, .int lo, .int hi] = some (.ok (.bool false))
theorem noNum_int {i lo hi : Int} (h : ¬ (lo ≤ i ∧ i ≤ hi)) : NoNum (.int i) lo hi := by
  unfold NoNum
  rw [m_is_whole, decide_eq_false h]
theorem noNum_bool (b : Bool) (lo hi : Int) : NoNum (.bool b) lo hi := by simp [NoNum, g_is_whole, b_is_whole]
theorem noNum_none (lo hi : Int) : NoNum .none lo hi := by simp [NoNum, g_is_whole, b_is_whole]
theorem noNum_str (x : Str) (lo hi : Int) : NoNum (.str x) lo hi := by simp [NoNum, g_is_whole, b_is_whole]
theorem x_need_moment {d : D} (h : NoNum d 0 1000000000000000000) : g_need_moment [d] = some (.error "BadNumber") := by
  unfold NoNum at h
  simp [g_need_moment, b_need_moment, h]
theorem x_need_all (W : Rw n r m X) {d : D} (h : NoNum d 0 1000000000000000000) : g_need_all [rg n r, tI (ls m X), d] = some (.error "BadNumber") := by
  simp [g_need_all, b_need_all, m_need_row W, x_need_moment h]
theorem x_gone (W : Rw n r m X) {d : D} (h : NoNum d 0 1000000000000000000) : g_gone [rg n r, tI (ls m X), d] = some (.error "BadNumber") := by simp [g_gone, b_gone, x_need_all W h]
theorem x_after (W : Rw n r m X) {d : D} (h : NoNum d 0 1000000000000000000) : g_after [rg n r, tI (ls m X), d] = some (.error "BadNumber") := by simp [g_after, b_after, x_need_all W h]
theorem x_held (W : Rw n r m X) {d : D} (h : NoNum d 0 1000000000000000000) : g_held [rg n r, tI (ls m X), d] = some (.error "BadNumber") := by simp [g_held, b_held, x_need_all W h]
theorem x_held_by (W : Rw n r m X) {d : D} (h : NoNum d 0 1000000000000000000) : g_held_by [rg n r, tI (ls m X), d] = some (.error "BadNumber") := by simp [g_held_by, b_held_by, x_need_all W h]
theorem pow18 : gPow (.int 10) (.int 18) = some (.int 1000000000000000000) := by
  show (if _ then _ else _) = _
  rw [if_pos (cdec_iff.mpr (by decide))]
  rfl
theorem mul_list (xs : List D) (k : Nat) (h : k ≤ 1000) (h2 : xs.length ≤ 100) : gMul (.list xs) (.int (k : Int)) = some (.list (List.replicate k xs).flatten) := by
  show (if _ then _ else _) = _
  rw [if_pos ⟨by omega, by omega, h2⟩, show (k : Int).toNat = k by omega]
/-- all that was told is the same refusal -/
theorem sh_ref (x : String) (h : x ∈ excN) (k : Nat) : SeqAt.shaped (.list (List.replicate k (refused x))) = true := by
  have h1 : PyData.canLay0 (refused x) = true ∧ PyData.depth (refused x) = 1 := by
    simp only [excN, List.mem_cons, List.not_mem_nil, or_false] at h
    rcases h with rfl | rfl | rfl | rfl | rfl | rfl | rfl | rfl | rfl <;> exact ⟨by decide +kernel, by decide +kernel⟩
  have h2 : ∀ k, PyData.canLayAll0 (List.replicate k (refused x)) = true ∧ PyData.depthAll (List.replicate k (refused x)) ≤ 1 := by
    intro k
    induction k with
    | zero => exact ⟨rfl, by simp [PyData.depthAll]⟩
    | succ k ih =>
      rw [List.replicate_succ]
      refine ⟨by rw [PyData.canLayAll0, h1.1, ih.1]; rfl, ?_⟩
      rw [PyData.depthAll, h1.2]
      have := ih.2
      omega
  have := (h2 k).2
  unfold SeqAt.shaped
  rw [PyData.canLay0, PyData.depth, (h2 k).1, Bool.true_and, decide_eq_true_eq]
  omega
theorem eqv_ref (x : String) : PyData.eqv (refused x) (refused x) = true := by
  unfold refused
  simp only [u_eqv_tt, u_eqvAll_cc, u_eqv_ss, u_eqvAll_nn, beq_self_eq_true, Bool.and_self]
theorem eqvAll_refl_ref (x : String) : ∀ k, PyData.eqvAll (List.replicate k (refused x)) (List.replicate k (refused x)) = true
  | 0 => by simp
  | k + 1 => by
    rw [List.replicate_succ, u_eqvAll_cc, eqvAll_refl_ref x k, eqv_ref]
    rfl
theorem gNe_ref {x : String} (h : x ∈ excN) (k : Nat) : gNe (.list (List.replicate k (refused x))) (.list (List.replicate k (refused x))) = some (.bool false) := by
  unfold gNe
  rw [if_pos ⟨sh_ref x h k, sh_ref x h k⟩, u_eqv_ll, eqvAll_refl_ref]
  rfl
theorem m_law_moments_refused (W : Rw n r m X) : g__law_moments_refused [rg n r, tI (ls m X)] = some (.ok (.bool true)) := by
  have hb : "BadNumber" ∈ excN := by decide
  have ml := mul_list [refused "BadNumber"] 4 (by omega) (by simp)
  have ne' : gNe (.list [refused "BadNumber", refused "BadNumber", refused "BadNumber", refused "BadNumber"]) (.list [refused "BadNumber", refused "BadNumber", refused "BadNumber", refused "BadNumber"]) = some (.bool false) := gNe_ref hb 4
  have hflat : (List.replicate 4 [refused "BadNumber"]).flatten = List.replicate 4 (refused "BadNumber") := rfl
  rw [hflat] at ml
  have ml' : gMul (.list [refused "BadNumber"]) (.int 4) = some (.list (List.replicate 4 (refused "BadNumber"))) := ml
  have loop := forD_all (td := tgN 2) (body := sSeq (sSetF 3 (fLst (aCons (dTold (dCall g_gone (aCons (dV 0) (aCons (dV 1) (aCons (dV 2) aNil))))) aNil)))
    (sSeq (sApp 3 (dTold (dCall g_after (aCons (dV 0) (aCons (dV 1) (aCons (dV 2) aNil))))))
    (sSeq (sApp 3 (dTold (dCall g_held (aCons (dV 0) (aCons (dV 1) (aCons (dV 2) aNil))))))
    (sFrz 3 (sSeq (sIf (d2 gNe (d2 gAdd (dV 3) (dL (fLst (aCons (dTold (dCall g_held_by (aCons (dV 0) (aCons (dV 1) (aCons (dV 2) aNil))))) aNil)))) (d2 gMul (dL (fLst (aCons (dTup (aCons (dC (.str "refused")) (aCons (dC (.str "BadNumber")) aNil))) aNil))) (dC (.int 4)))) (sSeq (sRet (dC (.bool false)))
    sNil) sNil) sNil))))) (h := fun d : D => d) (δ := (0, 0)) (I := fun ρ => ∃ s2 s3, ρ = [.val (rg n r), .val (tI (ls m X)), s2, s3]) (xs := [.int (-1), .int 1000000000000000001, .bool true, .none, .str "1"])
    (ρ := [.val (rg n r), .val (tI (ls m X)), .un, .un]) (fun d hd ρ ⟨s2, s3, e⟩ => by
      subst e
      have hn : NoNum d 0 1000000000000000000 := by
        simp only [List.mem_cons, List.not_mem_nil, or_false] at hd
        rcases hd with rfl | rfl | rfl | rfl | rfl
        · exact noNum_int (by omega)
        · exact noNum_int (by omega)
        · exact noNum_bool _ _ _
        · exact noNum_none _ _
        · exact noNum_str _ _ _
      refine ⟨_, [.val (rg n r), .val (tI (ls m X)), .val d, .val (.list [refused "BadNumber", refused "BadNumber", refused "BadNumber"])], rfl, ?_, _, _, rfl⟩
      simp [x_gone W hn, x_after W hn, x_held W hn, x_held_by W hn, hb, ml', ne']) ⟨.un, .un, rfl⟩
  obtain ⟨ρ2, e, s2, s3, rfl⟩ := loop
  rw [List.map_id'] at e
  simp only [g__law_moments_refused, b__law_moments_refused]
  simp [pow18, e]
end
end G8

set_option Elab.async false
set_option linter.all false
set_option maxRecDepth 100000
set_option maxHeartbeats 2000000
namespace G8
open PySem PySem.Spec PyProof.Rows L2
/-! ### one cart more -/
def sk (a i : Nat) : Nat := if i < a then i else i + 1
section
variable {n r : Int} {m a : Nat} {X Y Z F G : Nat → Int} {φ : Nat → Nat} {c : Int}
/-- V is the row X with one cart more, on c; cart i of X is cart φ i of V -/
structure Ins (n r : Int) (m : Nat) (X V : Nat → Int) (φ : Nat → Nat) (c : Int) (a : Nat) : Prop where
  W : Rw n r (m + 1) V
  am : a ≤ m
  new : V a = c
  old : ∀ i, V (φ i) = X i
  up : ∀ i, φ i < φ (i + 1)
  near : ∀ i, i < m → φ i = sk a i
  row : ls (m + 1) V = ls a X ++ c :: ls (m - a) fun i => X (i + a)
theorem ins_ex (W : Rw n r m X) (h0 : 0 ≤ c) (h1 : c < n) (hc : c ∉ ls m X) : ∃ V φ a, Ins n r m X V φ c a := by
  have hm := W.m0
  obtain ⟨a, ha, hlo, hhi⟩ : ∃ a, a ≤ m ∧ (∀ i, i < a → X i < c) ∧ ∀ i, a ≤ i → i < m → c < X i := by
    obtain ⟨s, hs, h2, h3⟩ := first_at (p := fun i => i = m ∨ c < X i) (fun i => Classical.em _) m (.inl rfl)
    have ne : ∀ i, i < m → X i ≠ c := fun i hi e => hc (ls_mem.mpr ⟨i, hi, e⟩)
    refine ⟨s, hs, fun i hi => ?_, fun i hi hi2 => ?_⟩
    · have := h3 i hi
      have := ne i (by omega)
      simp only [not_or] at *
      omega
    · have h4 := W.P.mono hi
      rcases h2 with h2 | h2
      · omega
      · omega
  let b : Nat → Int := fun j => if j < a then X j else if j = a then c else X (j - 1)
  let V : Nat → Int := fun j => ((j / (m + 1) : Nat) : Int) * n + b (j % (m + 1))
  let φ : Nat → Nat := fun i => i / m * (m + 1) + sk a (i % m)
  have bsk : ∀ j, b (sk a j) = X j := fun j => by
    show (if sk a j < a then X (sk a j) else if sk a j = a then c else X (sk a j - 1)) = _
    unfold sk
    by_cases h : j < a
    · rw [if_pos h, if_pos h]
    · rw [if_neg h, if_neg (by omega), if_neg (by omega), show j + 1 - 1 = j by omega]
  have sk_le : ∀ j, j < m → sk a j ≤ m := fun j hj => by unfold sk; split <;> omega
  have Vd : ∀ q j, j ≤ m → V (q * (m + 1) + j) = (q : Int) * n + b j := fun q j hj => by
    show (((q * (m + 1) + j) / (m + 1) : Nat) : Int) * n + b ((q * (m + 1) + j) % (m + 1)) = _
    have e1 : (q * (m + 1) + j) / (m + 1) = q := by
      rw [Nat.mul_comm, Nat.mul_add_div (by omega), Nat.div_eq_of_lt (by omega)]; omega
    have e2 : (q * (m + 1) + j) % (m + 1) = j := by
      rw [Nat.mul_comm, Nat.mul_add_mod, Nat.mod_eq_of_lt (by omega)]
    rw [e1, e2]
  have V0 : ∀ j, j ≤ m → V j = b j := fun j hj => by have := Vd 0 j hj; simpa using this
  have binc : ∀ j, j < m → b j < b (j + 1) := fun j hj => by
    show (if j < a then X j else if j = a then c else X (j - 1)) < (if j + 1 < a then X (j + 1) else if j + 1 = a then c else X (j + 1 - 1))
    by_cases h2 : j + 1 < a
    · rw [if_pos (by omega), if_pos h2]; exact W.P.inc j
    · rw [if_neg h2]
      by_cases h3 : j + 1 = a
      · rw [if_pos (by omega), if_pos h3]; exact hlo j (by omega)
      · rw [if_neg h3, if_neg (by omega), show j + 1 - 1 = j by omega]
        by_cases h4 : j = a
        · rw [if_pos h4]; exact hhi j (by omega) hj
        · rw [if_neg h4]
          have := W.P.inc (j - 1)
          rwa [show j - 1 + 1 = j by omega] at this
  have bnd' : ∀ j, j ≤ m → 0 ≤ b j ∧ b j < n := fun j hj => by
    show 0 ≤ (if j < a then X j else if j = a then c else X (j - 1)) ∧ (if j < a then X j else if j = a then c else X (j - 1)) < n
    by_cases h2 : j < a
    · rw [if_pos h2]; exact W.at (by omega)
    · rw [if_neg h2]
      by_cases h3 : j = a
      · rw [if_pos h3]; exact ⟨h0, h1⟩
      · rw [if_neg h3]; exact W.at (by omega)
  have dm : ∀ i k : Nat, 0 < k → i = i / k * k + i % k ∧ i % k < k := fun i k hk => ⟨by rw [Nat.mul_comm]; exact (Nat.div_add_mod i k).symm, Nat.mod_lt i hk⟩
  have P' : Per n (m + 1) V := by
    refine ⟨fun i => ?_, fun i => ?_⟩
    · obtain ⟨e, l⟩ := dm i (m + 1) (by omega)
      generalize i / (m + 1) = q at e
      generalize i % (m + 1) = j at e l
      subst e
      rw [show q * (m + 1) + j + (m + 1) = (q + 1) * (m + 1) + j by rw [Nat.add_mul]; omega, Vd _ _ (by omega), Vd _ _ (by omega), Int.natCast_add, Int.add_mul]
      omega
    · obtain ⟨e, l⟩ := dm i (m + 1) (by omega)
      generalize i / (m + 1) = q at e
      generalize i % (m + 1) = j at e l
      subst e
      by_cases hj : j < m
      · rw [show q * (m + 1) + j + 1 = q * (m + 1) + (j + 1) by omega, Vd _ _ (by omega), Vd _ _ (by omega)]
        have := binc j hj
        omega
      · have hjm : j = m := by omega
        subst hjm
        rw [show q * (j + 1) + j + 1 = (q + 1) * (j + 1) + 0 by rw [Nat.add_mul]; omega, Vd _ _ (by omega), Vd _ _ (by omega), Int.natCast_add, Int.add_mul]
        have := (bnd' j (by omega)).2
        have := (bnd' 0 (by omega)).1
        omega
  refine ⟨V, φ, a, ⟨W.R, P', by omega, by rw [V0 0 (by omega)]; exact (bnd' 0 (by omega)).1, by rw [show m + 1 - 1 = m by omega, V0 m (by omega)]; exact (bnd' m (by omega)).2⟩, ha, ?_, fun i => ?_, fun i => ?_, fun i hi => ?_, ?_⟩
  · rw [V0 a ha]
    show (if a < a then X a else if a = a then c else X (a - 1)) = c
    rw [if_neg (by omega), if_pos rfl]
  · obtain ⟨e, l⟩ := dm i m hm
    show V (i / m * (m + 1) + sk a (i % m)) = _
    rw [Vd _ _ (sk_le _ l), bsk]
    exact (W.P.div i).symm
  · obtain ⟨e, l⟩ := dm i m hm
    show i / m * (m + 1) + sk a (i % m) < (i + 1) / m * (m + 1) + sk a ((i + 1) % m)
    by_cases hj : i % m + 1 < m
    · have e1 : (i + 1) / m = i / m := by
        conv => lhs; rw [e, Nat.add_assoc, Nat.mul_comm, Nat.mul_add_div hm, Nat.div_eq_of_lt hj]
        omega
      have e2 : (i + 1) % m = i % m + 1 := by
        conv => lhs; rw [e, Nat.add_assoc, Nat.mul_comm, Nat.mul_add_mod, Nat.mod_eq_of_lt hj]
      rw [e1, e2]
      unfold sk
      split <;> split <;> omega
    · have e1 : (i + 1) / m = i / m + 1 := by
        conv => lhs; rw [e, Nat.add_assoc, show i % m + 1 = m by omega, Nat.mul_comm, ← Nat.mul_succ, Nat.mul_div_cancel_left _ hm]
      rw [e1, Nat.add_mul]
      have := sk_le _ l
      omega
  · show i / m * (m + 1) + sk a (i % m) = _
    rw [Nat.div_eq_of_lt hi, Nat.mod_eq_of_lt hi]
    omega
  · have e1 : ls (m + 1) V = ls (m + 1) b := ls_congr fun i hi => V0 i (by omega)
    rw [e1]
    obtain ⟨k, rfl⟩ : ∃ k, m = a + k := ⟨m - a, by omega⟩
    rw [show a + k + 1 = a + (k + 1) by omega, ls_add, ls_succ]
    congr 1
    · exact ls_congr fun i hi => if_pos hi
    · congr 1
      · show (if 0 + a < a then _ else if 0 + a = a then c else _) = c
        rw [if_neg (by omega), if_pos (by omega)]
      · rw [show a + k - a = k by omega]
        refine ls_congr fun i hi => ?_
        show (if i + 1 + a < a then _ else if i + 1 + a = a then c else X (i + 1 + a - 1)) = _
        rw [if_neg (by omega), if_neg (by omega), show i + 1 + a - 1 = i + a by omega]
/-- the wider row, sorted -/
theorem Ins.sorted {V : Nat → Int} (I : Ins n r m X V φ c a) : isort (ls m X ++ [c]) = ls (m + 1) V := by
  refine isort_eq ?_ (ls_pairwise fun i j hij _ => Int.le_of_lt (I.W.P.lt hij))
  have e : ls m X = ls a X ++ ls (m - a) fun i => X (i + a) := by
    have h := ls_add a (m - a) X
    rwa [show a + (m - a) = m by have := I.am; omega] at h
  rw [I.row, e, List.append_assoc]
  exact (List.perm_append_left_iff _).mpr List.perm_append_comm
/-- a cart more lets none go farther -/
theorem Ins.less {V : Nat → Int} (I : Ins n r m X V φ c a) : ∀ t i, wlk r V t (φ i) ≤ wlk r X t i
  | 0, i => by show V (φ i) ≤ X i; rw [I.old]; exact Int.le_refl _
  | t + 1, i => by
    show min (wlk r V t (φ i) + r) (wlk r V t (φ i + 1) - 1) ≤ min (wlk r X t i + r) (wlk r X t (i + 1) - 1)
    have h1 := I.less t i
    have h2 := I.less t (i + 1)
    have h3 := (I.W.P.wlk I.W.r0 t).mono (show φ i + 1 ≤ φ (i + 1) from I.up i)
    omega
theorem fm_congr {α β : Type} {f g : α → Option β} : ∀ {l : List α}, (∀ x ∈ l, f x = g x) → l.filterMap f = l.filterMap g
  | [], _ => rfl
  | x :: l, h => by
    rw [List.filterMap_cons, List.filterMap_cons, h x (List.mem_cons_self ..), fm_congr fun y hy => h y (List.mem_cons_of_mem _ hy)]
/-- all but the new one -/
theorem drop_new (F : Nat → D) {a m : Nat} (ha : a ≤ m) : (List.range (m + 1)).filterMap (fun j => if j = a then none else some (F j)) = (List.range m).map fun i => F (sk a i) := by
  obtain ⟨k, rfl⟩ : ∃ k, m = a + k := ⟨m - a, by omega⟩
  have h1 : List.range (a + k + 1) = List.range a ++ a :: (List.range k).map fun i => a + (i + 1) := by
    rw [show a + k + 1 = a + (k + 1) by omega, List.range_add (n := a) (m := k + 1), List.range_succ_eq_map (n := k), List.map_cons, List.map_map]; rfl
  have h2 : List.range (a + k) = List.range a ++ (List.range k).map fun i => a + i := List.range_add
  rw [h1, h2, List.filterMap_append, List.map_append, List.filterMap_cons, if_pos rfl, List.filterMap_map, List.map_map]
  have e1 : (List.range a).filterMap (fun j => if j = a then none else some (F j)) = (List.range a).map fun i => F (sk a i) := by
    rw [← List.filterMap_eq_map']
    refine fm_congr fun i hi => ?_
    have := List.mem_range.mp hi
    rw [if_neg (by omega)]
    unfold sk
    rw [if_pos this]
  rw [e1]
  congr 1
  rw [← List.filterMap_eq_map']
  refine fm_congr fun i _ => ?_
  show (if a + (i + 1) = a then none else some (F (a + (i + 1)))) = some (F (sk a (a + i)))
  rw [if_neg (by omega)]
  unfold sk
  rw [if_neg (by omega), show a + i + 1 = a + (i + 1) by omega]
end
end G8

set_option Elab.async false
set_option linter.all false
set_option maxRecDepth 100000
set_option maxHeartbeats 2000000
namespace G8
open PySem PySem.Spec PyProof.Rows L2
section
variable {n r : Int} {m a : Nat} {X V F G : Nat → Int} {φ : Nat → Nat} {c : Int}
theorem Ins.gs (I : Ins n r m X V φ c a) : gSorted [.tuple ((ls m X).map PyData.int ++ [.int c])] = some ((ls (m + 1) V).map .int) := by
  have e : (ls m X).map PyData.int ++ [PyData.int c] = (ls m X ++ [c]).map .int := by simp
  rw [e]
  show (asInts _).map _ = _
  rw [asInts_map, Option.map_some, I.sorted]
theorem Ins.ne (I : Ins n r m X V φ c a) {j : Nat} (hj : j < m + 1) : (V j = c) ↔ j = a := by
  constructor
  · intro h
    rw [← I.new] at h
    rcases Nat.lt_trichotomy j a with z | z | z
    · have := I.W.P.lt z; omega
    · exact z
    · have := I.W.P.lt z; omega
  · rintro rfl; exact I.new
theorem Ins.pick (I : Ins n r m X V φ c a) (G : Nat → Int) : (List.range (m + 1)).filterMap (fun j => if j = a then none else some (PyData.int (G j))) = (ls m fun i => G (φ i)).map .int := by
  rw [drop_new (fun j => .int (G j)) I.am, ← ls_int]
  exact List.map_congr_left fun i hi => by rw [I.near i (List.mem_range.mp hi)]
theorem m_all_later (W : Rw n r m X) (I : Ins n r m X V φ c a) {t : Nat} (ht : t ≤ 1000000000000000000) : g_all_later [rg n r, tI (ls m X), .int c, .int t] = some (.ok (tI (ls m fun i => wlk r X t i - wlk r V t (φ i)))) := by
  have hM := W.m24
  have hM5 : m ≤ 100000 := by omega
  have hM6 : m + 1 ≤ 100000 := by omega
  have hM7 : ((ls m X).map PyData.int).length + [PyData.int c].length ≤ 100000 := by simp; omega
  have gs := I.gs
  have eV := m_all_gone I.W ht
  have eX := m_all_gone W ht
  have z1 : zipD ((ls (m + 1) V).map .int) ((ls (m + 1) fun j => wlk r V t j - V j).map .int) = _ := zipD_ls (m + 1) _ _
  have z2 : zipD ((ls m fun i => wlk r X t i - X i).map .int) ((ls m fun i => wlk r V t (φ i) - V (φ i)).map .int) = _ := zipD_ls m _ _
  simp only [g_all_later, b_all_later]
  simp only [run, startR, List.length_cons, List.length_nil, Nat.reduceAdd, if_true, List.map_cons, List.map_nil, List.cons_append, List.nil_append, Nat.reduceSub, List.replicate_succ, List.replicate_zero]
  rw [sq_nx (ρ' := [.val (rg n r), .val (tI (ls m X)), .val (.int c), .val (.int t), .val (tI (ls (m + 1) V)), .un, .un, .un, .un]) (δ' := (0, 0)) (by simp [hM5, hM6, gs])]
  rw [sq_nx (ρ' := [.val (rg n r), .val (tI (ls m X)), .val (.int c), .val (.int t), .val (tI (ls (m + 1) V)), .own ((ls m fun i => wlk r V t (φ i) - V (φ i)).map .int), .un, .un, .un]) (δ' := (0, 0)) (by
    simp [eV, z1, hM6]
    rw [lcD_filterMap (e := fun j => if j = a then none else some (.int (wlk r V t j - V j))), I.pick (fun j => wlk r V t j - V j)]
    intro j hj
    have h := I.ne (List.mem_range.mp hj)
    by_cases e : j = a
    · rw [if_pos e]
      exact ⟨_, rfl, by simp [h.mpr e]⟩
    · rw [if_neg e]
      have hne : ¬ V j = c := fun z => e (h.mp z)
      exact ⟨_, rfl, by simp [hne], rfl⟩)]
  simp [eX, z2, hM5]
  rw [lcD_map (e := fun i => .int (wlk r X t i - wlk r V t (φ i))), ls_int]
  intro i _
  refine ⟨_, rfl, rfl, ?_⟩
  have := I.old i
  simp
  omega
theorem m_law_less (W : Rw n r m X) (I : Ins n r m X V φ c a) {t : Nat} (ht : t ≤ 1000) : g__law_less [rg n r, tI (ls m X), .int c, .int t] = some (.ok (tI (ls m fun i => wlk r X t i - wlk r V t (φ i)))) := by
  have hM := W.m24
  have hM5 : m ≤ 100000 := by omega
  have hM6 : m + 1 ≤ 100000 := by omega
  have gs := I.gs
  have eV := m_law_walk I.W t ht
  have eX := m_law_walk W t ht
  have aV : atI ((List.range (t + 1)).map fun s => lI (ls (m + 1) (wlk r V s))) (-1) = some (lI (ls (m + 1) (wlk r V t))) := by rw [List.range_succ, List.map_append]; exact atI_last _ _
  have aX : atI ((List.range (t + 1)).map fun s => lI (ls m (wlk r X s))) (-1) = some (lI (ls m (wlk r X t))) := by rw [List.range_succ, List.map_append]; exact atI_last _ _
  have z1 : zipD ((ls (m + 1) (wlk r V t)).map .int) ((ls (m + 1) V).map .int) = _ := zipD_ls (m + 1) _ _
  have z2 : zipD ((ls m (wlk r X t)).map .int) ((ls m fun i => wlk r V t (φ i)).map .int) = _ := zipD_ls m _ _
  simp only [g__law_less, b__law_less]
  simp only [run, startR, List.length_cons, List.length_nil, Nat.reduceAdd, if_true, List.map_cons, List.map_nil, List.cons_append, List.nil_append, Nat.reduceSub, List.replicate_succ, List.replicate_zero]
  rw [sq_nx (ρ' := [.val (rg n r), .val (tI (ls m X)), .val (.int c), .val (.int t), .val (tI (ls (m + 1) V)), .un, .un, .un, .un, .un, .un, .un]) (δ' := (0, 0)) (by simp [hM5, hM6, gs])]
  rw [sq_nx (ρ' := [.val (rg n r), .val (tI (ls m X)), .val (.int c), .val (.int t), .val (tI (ls (m + 1) V)), .val (lI (ls (m + 1) (wlk r V t))), .val (lI (ls m (wlk r X t))), .un, .un, .un, .un, .un]) (δ' := (0, 0)) (by simp [eV, eX, aV, aX])]
  rw [sq_nx (ρ' := [.val (rg n r), .val (tI (ls m X)), .val (.int c), .val (.int t), .val (tI (ls (m + 1) V)), .val (lI (ls (m + 1) (wlk r V t))), .val (lI (ls m (wlk r X t))), .own ((ls m fun i => wlk r V t (φ i)).map .int), .un, .un, .un, .un]) (δ' := (0, 0)) (by
    simp [z1, hM6]
    rw [lcD_filterMap (e := fun j => if j = a then none else some (.int (wlk r V t j))), I.pick (fun j => wlk r V t j)]
    intro j hj
    have h := I.ne (List.mem_range.mp hj)
    by_cases e : j = a
    · rw [if_pos e]
      exact ⟨_, rfl, by simp [h.mpr e]⟩
    · rw [if_neg e]
      have hne : ¬ V j = c := fun z => e (h.mp z)
      exact ⟨_, rfl, by simp [hne], rfl⟩)]
  simp [z2, hM5]
  rw [lcD_map (e := fun i => .int (wlk r X t i - wlk r V t (φ i))), ls_int]
  exact fun i _ => ⟨_, rfl, rfl, by simp⟩
theorem gIn_row (W : Rw n r m X) (c : Int) : gIn (.int c) (tI (ls m X)) = some (.bool (decide (c ∈ ls m X))) := by
  show (asInts _).map _ = _
  rw [asInts_map, Option.map_some]
  congr 2
  unfold memI
  rw [Bool.eq_iff_iff]
  simp
theorem gNotIn_row (W : Rw n r m X) (c : Int) : gNotIn (.int c) (tI (ls m X)) = some (.bool (!decide (c ∈ ls m X))) := by
  show (asInts _).map _ = _
  rw [asInts_map, Option.map_some]
  congr 3
  unfold memI
  rw [Bool.eq_iff_iff]
  simp
theorem m_later (W : Rw n r m X) (I : Ins n r m X V φ c a) (h0 : 0 ≤ c) (h1 : c < n) (hc : c ∉ ls m X) {t : Nat} (ht : t ≤ 1000000000000000000) : g_later [rg n r, tI (ls m X), .int c, .int t] = some (.ok (tI (ls m fun i => wlk r X t i - wlk r V t (φ i)))) := by
  have w1 : (0 ≤ c ∧ c ≤ n - 1) := by omega
  simp [g_later, b_later, m_need_row W, m_is_whole, w1, gIn_row W, hc, m_need_moment (t := (t : Int)) (by omega) (by omega), m_all_later W I ht]
theorem x_laterC (W : Rw n r m X) {d e : D} (h : NoNum d 0 (n - 1)) : g_later [rg n r, tI (ls m X), d, e] = some (.error "BadCell") := by
  unfold NoNum at h
  simp [g_later, b_later, m_need_row W, h]
theorem x_laterR (W : Rw n r m X) {e : D} (hc : c ∈ ls m X) : g_later [rg n r, tI (ls m X), .int c, e] = some (.error "BadCell") := by
  obtain ⟨i, hi, rfl⟩ := ls_mem.mp hc
  have w1 : (0 ≤ X i ∧ X i ≤ n - 1) := by have := W.at hi; omega
  simp [g_later, b_later, m_need_row W, m_is_whole, w1, gIn_row W, hc]
theorem x_laterM (W : Rw n r m X) (h0 : 0 ≤ c) (h1 : c < n) (hc : c ∉ ls m X) {e : D} (h : NoNum e 0 1000000000000000000) : g_later [rg n r, tI (ls m X), .int c, e] = some (.error "BadNumber") := by
  have w1 : (0 ≤ c ∧ c ≤ n - 1) := by omega
  simp [g_later, b_later, m_need_row W, m_is_whole, w1, gIn_row W, hc, x_need_moment h]
/-! ### free cells -/
/-- the cells without a cart, rising -/
def freeC (n : Int) (m : Nat) (X : Nat → Int) : List Int := ((List.range n.toNat).filter fun (i : Nat) => !decide ((i : Int) ∈ ls m X)).map fun (i : Nat) => (i : Int)
theorem freeC_mem {x : Int} : x ∈ freeC n m X ↔ 0 ≤ x ∧ x < n ∧ x ∉ ls m X := by
  unfold freeC
  rw [List.mem_map]
  constructor
  · rintro ⟨i, hi, rfl⟩
    obtain ⟨h1, h2⟩ := List.mem_filter.mp hi
    have := List.mem_range.mp h1
    simp at h2
    exact ⟨by omega, by omega, h2⟩
  · rintro ⟨h1, h2, h3⟩
    refine ⟨x.toNat, List.mem_filter.mpr ⟨List.mem_range.mpr (by omega), ?_⟩, by omega⟩
    rw [show ((x.toNat : Nat) : Int) = x by omega]
    simp [h3]
theorem freeC_len : (freeC n m X).length ≤ n.toNat := by
  unfold freeC
  rw [List.length_map]
  exact Nat.le_trans (List.length_filter_le _ _) (by simp)
theorem free_fm : ((List.range n.toNat).filterMap fun (i : Nat) => if (i : Int) ∈ ls m X then none else some (PyData.int (i : Int))) = (freeC n m X).map .int := by
  unfold freeC
  rw [List.map_map]
  generalize List.range n.toNat = l
  induction l with
  | nil => rfl
  | cons x l ih =>
    rw [List.filterMap_cons, List.filter_cons]
    by_cases h : (x : Int) ∈ ls m X
    · rw [if_pos h, if_neg (by simp [h]), ih]
    · rw [if_neg h, if_pos (by simp [h]), List.map_cons, ih]; rfl
theorem rngN (h : 0 ≤ n) : rng 0 n = (List.range n.toNat).map fun (i : Nat) => .int (i : Int) := by
  have := rng0 n.toNat
  rwa [show ((n.toNat : Nat) : Int) = n by omega] at this
end
end G8

set_option Elab.async false
set_option linter.all false
set_option maxRecDepth 100000
set_option maxHeartbeats 2000000
namespace G8
open PySem PySem.Spec PyProof.Rows L2
section
variable {n r : Int} {m a : Nat} {X V F G : Nat → Int} {φ : Nat → Nat} {c : Int}
/-- by how much each is later, cell by cell -/
structure Lates (n r : Int) (m : Nat) (X : Nat → Int) (t : Nat) (L : Int → List Int) : Prop where
  len : ∀ c ∈ freeC n m X, (L c).length = m
  all : ∀ c ∈ freeC n m X, g_all_later [rg n r, tI (ls m X), .int c, .int t] = some (.ok (tI (L c)))
  lat : ∀ c ∈ freeC n m X, g_later [rg n r, tI (ls m X), .int c, .int t] = some (.ok (tI (L c)))
  law : t ≤ 1000 → ∀ c ∈ freeC n m X, g__law_less [rg n r, tI (ls m X), .int c, .int t] = some (.ok (tI (L c)))
  nn : ∀ c ∈ freeC n m X, ∀ x ∈ L c, 0 ≤ x
theorem lates (W : Rw n r m X) {t : Nat} (ht : t ≤ 1000000000000000000) : ∃ L, Lates n r m X t L := by
  have ex : ∀ c : Int, ∃ l : List Int, c ∈ freeC n m X → l.length = m ∧ g_all_later [rg n r, tI (ls m X), .int c, .int t] = some (.ok (tI l)) ∧ g_later [rg n r, tI (ls m X), .int c, .int t] = some (.ok (tI l)) ∧
      (t ≤ 1000 → g__law_less [rg n r, tI (ls m X), .int c, .int t] = some (.ok (tI l))) ∧ ∀ x ∈ l, 0 ≤ x := fun c => by
    by_cases hc : c ∈ freeC n m X
    · obtain ⟨h0, h1, h2⟩ := freeC_mem.mp hc
      obtain ⟨V, φ, a, I⟩ := ins_ex W h0 h1 h2
      refine ⟨_, fun _ => ⟨by simp, m_all_later W I ht, m_later W I h0 h1 h2 ht, fun h => m_law_less W I h, fun x hx => ?_⟩⟩
      obtain ⟨i, _, rfl⟩ := ls_mem.mp hx
      have := I.less t i
      omega
    · exact ⟨[], fun z => absurd z hc⟩
  obtain ⟨L, hL⟩ := Classical.axiomOfChoice ex
  exact ⟨L, fun c h => (hL c h).1, fun c h => (hL c h).2.1, fun c h => (hL c h).2.2.1, fun k c h => (hL c h).2.2.2.1 k, fun c h => (hL c h).2.2.2.2⟩
theorem gEq_lnil (xs : List D) (h : SeqAt.shaped (.list xs) = true) : gEq (.list xs) (.list []) = some (.bool (decide (xs = []))) := by
  unfold gEq
  rw [if_pos ⟨h, rfl⟩, u_eqv_ll]
  cases xs <;> simp
theorem gNe_lnil (xs : List D) (h : SeqAt.shaped (.list xs) = true) : gNe (.list xs) (.list []) = some (.bool (!decide (xs = []))) := by
  unfold gNe
  rw [if_pos ⟨h, rfl⟩, u_eqv_ll]
  cases xs <;> simp
theorem free_lc (W : Rw n r m X) {ρ : Rho} {δ : Dl} {j i k : Nat} (hk : ρ[k]? = some (.val (tI (ls m X)))) (hkj : k ≠ j) (hj : j < ρ.length) : lcD (tgN j) (d2 gNotIn (dV j) (dV k)) (dV j) ρ ((List.range n.toNat).map fun (i : Nat) => .int (i : Int)) δ = some (.ok ((freeC n m X).map .int), δ) := by
  rw [← free_fm]
  refine lcD_filterMap fun i _ => ?_
  have e1 : (ρ.set j (.val (.int (i : Int))))[j]? = some (.val (.int i)) := List.getElem?_set_self hj
  have e2 : (ρ.set j (.val (.int (i : Int))))[k]? = some (.val (tI (ls m X))) := by rw [List.getElem?_set_ne (Ne.symm hkj)]; exact hk
  have e3 := gNotIn_row W (i : Int)
  by_cases h : (i : Int) ∈ ls m X
  · rw [if_pos h]
    rw [decide_eq_true h] at e3
    exact ⟨_, rfl, by simp only [d2, dV, e1, e2, bnd, e3, lft]; rfl⟩
  · rw [if_neg h]
    rw [decide_eq_false h] at e3
    exact ⟨_, rfl, by simp only [d2, dV, e1, e2, bnd, e3, lft]; rfl, by simp only [dV, e1]⟩
theorem m_worst (W : Rw n r m X) {t : Nat} (ht : t ≤ 1000000000000000000) {L : Int → List Int} (hL : Lates n r m X t L) (hne : freeC n m X ≠ []) : ∃ p : Int × Int, gMax [.list ((freeC n m X).map fun c => pD ((L c).sum, -c))] = some (pD p) ∧ g_worst [rg n r, tI (ls m X), .int t] = some (.ok (.tuple [.int p.1, .int (-p.2)])) := by
  have hn := W.n0
  have hn1 := W.R.n1
  have okn : okR n = true := okR_s (by omega) (by omega)
  have hl := freeC_len (n := n) (m := m) (X := X)
  have hl5 : (freeC n m X).length ≤ 100000 := by omega
  have hn5 : n.toNat ≤ 100000 := by omega
  obtain ⟨p, _, hp, _⟩ := gMax_pairs (ps := (freeC n m X).map fun c => ((L c).sum, -c)) (by simpa using hne)
  rw [List.map_map] at hp
  have hp : gMax [.list ((freeC n m X).map fun c => pD ((L c).sum, -c))] = some (pD p) := hp
  refine ⟨p, hp, ?_⟩
  have hne' : ¬ (freeC n m X).map PyData.int = [] := by simpa using hne
  simp only [g_worst, b_worst]
  simp only [run, startR, List.length_cons, List.length_nil, Nat.reduceAdd, if_true, List.map_cons, List.map_nil, List.cons_append, List.nil_append, Nat.reduceSub, List.replicate_succ, List.replicate_zero]
  rw [sq_nx (ρ' := [.val (rg n r), .val (tI (ls m X)), .val (.int t), .un, .un, .un, .un]) (δ' := (0, 0)) (by simp [m_need_all W (t := (t : Int)) (by omega) (by omega)])]
  rw [sq_nx (ρ' := [.val (rg n r), .val (tI (ls m X)), .val (.int t), .own ((freeC n m X).map .int), .un, .un, .un]) (δ' := (0, 0)) (by
    simp [okn, rngN (show 0 ≤ n by omega), hn5]
    rw [free_lc W (k := 1) (j := 4) (i := 0) rfl (by decide) (by simp)])]
  simp only [sFrz, List.getElem?_cons_succ, List.getElem?_cons_zero, List.set_cons_succ, List.set_cons_zero]
  rw [sq_no (by simp only [d2, dV, dL, fLst, aNil, bnd, List.getElem?_cons_succ, List.getElem?_cons_zero, List.length_nil, Nat.zero_le, if_true, gEq_lnil _ (sh_intsL _), lft, decide_eq_false hne'])]
  rw [sq_nx (ρ' := [.val (rg n r), .val (tI (ls m X)), .val (.int t), .val (lI (freeC n m X)), .un, .val (.int p.1), .val (.int p.2)]) (δ' := (0, 0)) (by
    simp [hl5]
    rw [lcD_map (e := fun c => pD ((L c).sum, -c))]
    · simp [hp]
    · intro c hc
      refine ⟨_, rfl, rfl, ?_⟩
      simp [hL.all c hc])]
  simp
theorem x_worstN (W : Rw n r m X) {t : Nat} (ht : t ≤ 1000000000000000000) (hne : freeC n m X = []) : g_worst [rg n r, tI (ls m X), .int t] = some (.error "Nothing") := by
  have hn := W.n0
  have hn1 := W.R.n1
  have okn : okR n = true := okR_s (by omega) (by omega)
  have hn5 : n.toNat ≤ 100000 := by omega
  have hne' : (freeC n m X).map PyData.int = [] := by rw [hne]; rfl
  simp only [g_worst, b_worst]
  simp only [run, startR, List.length_cons, List.length_nil, Nat.reduceAdd, if_true, List.map_cons, List.map_nil, List.cons_append, List.nil_append, Nat.reduceSub, List.replicate_succ, List.replicate_zero]
  rw [sq_nx (ρ' := [.val (rg n r), .val (tI (ls m X)), .val (.int t), .un, .un, .un, .un]) (δ' := (0, 0)) (by simp [m_need_all W (t := (t : Int)) (by omega) (by omega)])]
  rw [sq_nx (ρ' := [.val (rg n r), .val (tI (ls m X)), .val (.int t), .own [], .un, .un, .un]) (δ' := (0, 0)) (by
    simp [okn, rngN (show 0 ≤ n by omega), hn5]
    rw [free_lc W (k := 1) (j := 4) (i := 0) rfl (by decide) (by simp), hne'])]
  simp [gEq]
theorem x_worstM (W : Rw n r m X) {d : D} (h : NoNum d 0 1000000000000000000) : g_worst [rg n r, tI (ls m X), d] = some (.error "BadNumber") := by simp [g_worst, b_worst, x_need_all W h]
/-! ### a full ring -/
theorem full_rw (R : Rg n r) : Rw n r n.toNat (fun i => (i : Int)) := by
  have := R.n0
  exact ⟨R, ⟨fun i => by omega, fun i => by omega⟩, by omega, by simp, by omega⟩
theorem full_free (h : 0 ≤ n) : freeC n n.toNat (fun i => (i : Int)) = [] := by
  rw [List.eq_nil_iff_forall_not_mem]
  intro x hx
  obtain ⟨h1, h2, h3⟩ := freeC_mem.mp hx
  exact h3 (ls_mem.mpr ⟨x.toNat, by omega, by omega⟩)
theorem full_wlk (hr : 0 ≤ r) : ∀ t, wlk r (fun (i : Nat) => (i : Int)) t = fun (i : Nat) => (i : Int)
  | 0 => rfl
  | t + 1 => by
    show stp r (wlk r (fun (i : Nat) => (i : Int)) t) = _
    rw [full_wlk hr t]
    funext i
    unfold stp
    simp only []
    omega
theorem full_row (h : 0 ≤ n) : PyData.tuple (rng 0 n) = tI (ls n.toNat fun i => (i : Int)) := by
  rw [rngN h, ls_int n.toNat fun i => (i : Int)]
theorem sh_refd (x : String) (h : x ∈ excN) : SeqAt.shaped (refused x) = true := by
  simp only [excN, List.mem_cons, List.not_mem_nil, or_false] at h
  rcases h with rfl | rfl | rfl | rfl | rfl | rfl | rfl | rfl | rfl <;> decide +kernel
theorem gNe_ref1 {x : String} (h : x ∈ excN) : gNe (refused x) (refused x) = some (.bool false) := by
  unfold gNe
  rw [if_pos ⟨sh_refd x h, sh_refd x h⟩, eqv_ref]
  rfl
end
end G8

set_option Elab.async false
set_option linter.all false
set_option maxRecDepth 100000
set_option maxHeartbeats 2000000
namespace G8
open PySem PySem.Spec PyProof.Rows L2
section
variable {n r c : Int} {m : Nat} {X Y Z F : Nat → Int}
/-! ### gates -/
theorem div_step (hn : 0 < n) (a : Int) : a / n - (a - 1) / n = if a % n = 0 then 1 else 0 := by
  have h := Int.mul_ediv_add_emod a n
  have h0 := Int.emod_nonneg a (show n ≠ 0 by omega)
  have h1 := Int.emod_lt_of_pos a hn
  by_cases e : a % n = 0
  · rw [if_pos e]
    have := (Int.ediv_emod_unique (a := a - 1) (r := n - 1) (q := a / n - 1) hn).mpr ⟨by rw [Int.mul_sub]; omega, by omega, by omega⟩
    rw [this.1]; omega
  · rw [if_neg e]
    have := (Int.ediv_emod_unique (a := a - 1) (r := a % n - 1) (q := a / n) hn).mpr ⟨by omega, by omega, by omega⟩
    rw [this.1]; omega
theorem mod_cell (hn : 0 < n) (h0 : 0 ≤ c) (h1 : c < n) (x : Int) : x % n = c ↔ (x - c) % n = 0 := by
  constructor
  · intro h; rw [Int.sub_emod, h, Int.emod_eq_of_lt h0 h1]; simp
  · intro h
    have := Int.emod_emod_of_dvd x (Int.dvd_refl n)
    have h2 := Int.mul_ediv_add_emod (x - c) n
    have := (Int.ediv_emod_unique (a := x) (r := c) (q := (x - c) / n) hn).mpr ⟨by omega, h0, h1⟩
    exact this.2
theorem count_gate (hn : 0 < n) (h0 : 0 ≤ c) (h1 : c < n) (x : Int) : ∀ k : Nat, (((List.range k).filterMap fun i => if (x + (i : Nat)) % n = c then some (PyData.int 1) else none).length : Int) = (x + k - c - 1) / n - (x - c - 1) / n
  | 0 => by simp
  | k + 1 => by
    have ih := count_gate hn h0 h1 x k
    rw [List.range_succ, List.filterMap_append, List.length_append]
    have d := div_step hn (x + k - c)
    have e := mod_cell hn h0 h1 (x + k)
    have e2 : x + ((k + 1 : Nat) : Int) - c - 1 = x + k - c := by omega
    rw [e2]
    by_cases q : (x + k) % n = c
    · rw [if_pos (e.mp q)] at d
      simp only [List.filterMap_cons, q, if_true, List.filterMap_nil, List.length_cons, List.length_nil]
      omega
    · rw [if_neg fun z => q (e.mpr z)] at d
      simp only [List.filterMap_cons, q, if_false, List.filterMap_nil, List.length_nil]
      omega
theorem gate_now (hn : 0 < n) (h0 : 0 ≤ c) (h1 : c < n) (z : Int) {g : Int} (g0 : 0 ≤ g) (g1 : g < n) : (z + g - c - 1) / n - (z - c - 1) / n = if (c - z) % n < g then 1 else 0 := by
  have h := Int.mul_ediv_add_emod (c - z) n
  have d0 := Int.emod_nonneg (c - z) (show n ≠ 0 by omega)
  have d1 := Int.emod_lt_of_pos (c - z) hn
  have e1 := (Int.ediv_emod_unique (a := z - c - 1) (r := n - 1 - (c - z) % n) (q := -((c - z) / n) - 1) hn).mpr ⟨by rw [Int.mul_sub, Int.mul_neg]; omega, by omega, by omega⟩
  by_cases q : (c - z) % n < g
  · rw [if_pos q]
    have e2 := (Int.ediv_emod_unique (a := z + g - c - 1) (r := g - 1 - (c - z) % n) (q := -((c - z) / n)) hn).mpr ⟨by rw [Int.mul_neg]; omega, by omega, by omega⟩
    rw [e1.1, e2.1]; omega
  · rw [if_neg q]
    have e2 := (Int.ediv_emod_unique (a := z + g - c - 1) (r := n + g - 1 - (c - z) % n) (q := -((c - z) / n) - 1) hn).mpr ⟨by rw [Int.mul_sub, Int.mul_neg]; omega, by omega, by omega⟩
    rw [e1.1, e2.1]; omega
/-- how many pass a gate at the next beat -/
def now (n r : Int) (m : Nat) (Y : Nat → Int) (c : Int) : Int := (ls m fun i => (stp r Y i - c - 1) / n - (Y i - c - 1) / n).sum
theorem len_fm {f : Nat → D} {p : Nat → Prop} [DecidablePred p] : ∀ m : Nat, (((List.range m).filterMap fun i => if p i then some (f i) else none).length : Int) = (ls m fun i => if p i then 1 else 0).sum
  | 0 => rfl
  | m + 1 => by
    rw [List.range_succ, List.filterMap_append, List.length_append, sum_snoc, ← len_fm (f := f) m]
    by_cases q : p m <;> simp [q]
theorem m_heard_now (W : Rw n r m Z) (h0 : 0 ≤ c) (h1 : c < n) : g_heard_now [rg n r, tI (ls m Z), .int c] = some (.ok (.int (now n r m Z c))) := by
  have hM := W.m24
  have hn := W.n0
  have R := W.R
  have hr0 := W.r0
  have := R.n0
  have := R.r1
  have hg := m_goings (r := r) W.m0 (show m ≤ 1000 by omega) W.pm
  have e : now n r m Z c = (ls m fun i => if (c - Z i) % n < min r (Z (i + 1) - Z i - 1) then 1 else 0).sum := by
    unfold now
    refine congrArg _ (ls_congr fun i hi => ?_)
    have hi := W.P.inc i
    rw [← gate_now hn h0 h1 (Z i) (g := min r (Z (i + 1) - Z i - 1)) (by omega) (by omega)]
    unfold stp
    rw [show min (Z i + r) (Z (i + 1) - 1) = Z i + min r (Z (i + 1) - Z i - 1) by omega]
  rw [e, ← len_fm (f := fun i => .int (Z i)) (p := fun i => (c - Z i) % n < min r (Z (i + 1) - Z i - 1))]
  have h5 : ((List.range m).filterMap fun i => if (c - Z i) % n < min r (Z (i + 1) - Z i - 1) then some (PyData.int (Z i)) else none).length ≤ 100000 := by
    have := List.length_filterMap_le (fun i => if (c - Z i) % n < min r (Z (i + 1) - Z i - 1) then some (PyData.int (Z i)) else none) (List.range m)
    rw [List.length_range] at this
    omega
  simp only [g_heard_now, b_heard_now]
  simp [hg, zipD_ls]
  rw [lcD_filterMap (e := fun i => if (c - Z i) % n < min r (Z (i + 1) - Z i - 1) then some (PyData.int (Z i)) else none)]
  · rw [if_pos (show m ≤ 100000 by omega)]
  · intro i hi
    refine ⟨_, rfl, ?_⟩
    by_cases q : (c - Z i) % n < min r (Z (i + 1) - Z i - 1)
    · rw [if_pos q]
      exact ⟨by simp [gMod_int hn, q], by simp⟩
    · rw [if_neg q]
      simp [gMod_int hn, q]
theorem Of.now {Y Z : Nat → Int} (O : Of n r m Y Z) (P : Per n m Y) (c : Int) : now n r m Z c = now n r m Y c := by
  obtain ⟨s, q, h⟩ := O.sh
  have hn := O.W.n0
  have e : stp r Z = fun i => stp r Y (i + s) - q * n := by rw [← stp_sh]; exact congrArg _ (funext h)
  have PS := P.stp O.W.r0
  have hs := sum_turn (m := m) (c := 0) (F := fun i => (stp r Y i - c - 1) / n - (Y i - c - 1) / n) (fun i => by
    show (stp r Y (i + m) - c - 1) / n - (Y (i + m) - c - 1) / n = _
    rw [PS.per, P.per, show stp r Y i + n - c - 1 = stp r Y i - c - 1 + n * 1 by omega, show Y i + n - c - 1 = Y i - c - 1 + n * 1 by omega, Int.add_mul_ediv_left _ _ (by omega), Int.add_mul_ediv_left _ _ (by omega)]
    omega) s
  rw [Int.mul_zero, Int.add_zero] at hs
  unfold G8.now
  rw [← hs]
  refine congrArg _ (ls_congr fun i _ => ?_)
  rw [e, h]
  show (stp r Y (i + s) - q * n - c - 1) / n - (Y (i + s) - q * n - c - 1) / n = _
  rw [show stp r Y (i + s) - q * n - c - 1 = stp r Y (i + s) - c - 1 + n * (-q) by rw [Int.mul_neg, Int.mul_comm]; omega, show Y (i + s) - q * n - c - 1 = Y (i + s) - c - 1 + n * (-q) by rw [Int.mul_neg, Int.mul_comm]; omega, Int.add_mul_ediv_left _ _ (by omega), Int.add_mul_ediv_left _ _ (by omega)]
  omega
/-- what a gate hears at a beat -/
def ear (n r : Int) (m : Nat) (X : Nat → Int) (c : Int) (t : Nat) : Int := now n r m (wlk r X t) c
theorem Rw.hear (W : Rw n r m X) (h0 : 0 ≤ c) (h1 : c < n) (t : Nat) : g_heard_now [rg n r, tI (rowAt n r m X t), .int c] = some (.ok (.int (ear n r m X c t))) := by
  obtain ⟨Z, e, O⟩ := W.row t
  rw [e, m_heard_now O.W h0 h1, O.now (W.P.wlk W.r0 t)]
  rfl
theorem ear_row {m' : Nat} {X' : Nat → Int} (W : Rw n r m X) (W' : Rw n r m' X') (h0 : 0 ≤ c) (h1 : c < n) {s t : Nat} (e : rowAt n r m X s = rowAt n r m' X' t) : ear n r m X c s = ear n r m' X' c t := by
  have a := W.hear h0 h1 s
  rw [e, W'.hear h0 h1 t] at a
  simp only [Option.some.injEq, Except.ok.injEq, PyData.int.injEq] at a
  exact a.symm
theorem passes_ear (W : Rw n r m X) (c : Int) : ∀ k : Nat, passes n r m X c k = (ls k (ear n r m X c)).sum
  | 0 => by
    unfold passes
    have : (ls m fun i => (wlk r X 0 i - c - 1) / n - (X i - c - 1) / n) = ls m fun _ => 0 := ls_congr fun i _ => by show (X i - c - 1) / n - (X i - c - 1) / n = 0; omega
    rw [this]
    have z : ∀ m : Nat, (ls m fun _ => (0 : Int)).sum = 0 := fun m => by induction m with
      | zero => rfl
      | succ m ih => rw [sum_snoc, ih]; rfl
    rw [z]; rfl
  | k + 1 => by
    rw [sum_snoc, ← passes_ear W c k]
    unfold passes ear now
    rw [sum_sub, sum_sub, sum_sub]
    show _ = _ + ((ls m fun i => (wlk r X (k + 1) i - c - 1) / n).sum - _)
    omega
theorem sum_app (F : Nat → Int) (a : Nat) : ∀ b : Nat, (ls (a + b) F).sum = (ls a F).sum + (ls b fun i => F (a + i)).sum
  | 0 => by simp [ls]
  | b + 1 => by rw [← Nat.add_assoc, sum_snoc, sum_snoc, sum_app F a b]; omega
theorem passes_add (W : Rw n r m X) (c : Int) (a b : Nat) : passes n r m X c (a + b) = passes n r m X c a + (ls b fun i => ear n r m X c (a + i)).sum := by
  rw [passes_ear W, passes_ear W, sum_app]
theorem ear_lap (W : Rw n r m X) (h0 : 0 ≤ c) (h1 : c < n) {T L : Nat} (Q : Lap n r m X T L) (k j : Nat) : ear n r m X c (T + L * k + j) = ear n r m X c (T + j) := ear_row W W h0 h1 (row_round W Q k j)
theorem passes_lap (W : Rw n r m X) (h0 : 0 ≤ c) (h1 : c < n) {T L : Nat} (Q : Lap n r m X T L) : ∀ k : Nat, passes n r m X c (T + L * k) = passes n r m X c T + k * (passes n r m X c (T + L) - passes n r m X c T)
  | 0 => by simp
  | k + 1 => by
    have a : T + L * (k + 1) = T + L * k + L := by rw [Nat.mul_add, Nat.mul_one]; omega
    rw [a, passes_add W, passes_lap W h0 h1 Q k, passes_add W c T L, ls_congr (m := L) fun i _ => ear_lap W h0 h1 Q k i]
    have : (((k + 1 : Nat) : Int)) = k + 1 := by omega
    rw [this, Int.add_mul, Int.one_mul]
    omega
end
end G8

set_option Elab.async false
set_option linter.all false
set_option maxRecDepth 100000
set_option maxHeartbeats 2000000
namespace G8
open PySem PySem.Spec PyProof.Rows L2
/-- a counted loop that ends early -/
theorem forD_find {td : TgD} {body : DS} {h : Nat → D} {δ : Dl} {N b : Nat} {d : D} (hb : b < N) (I : Nat → Rho → Prop) (step : ∀ i ρ, i < b → I i ρ → ∃ ρ1 ρ2, td (h i) ρ = some ρ1 ∧ body ρ1 δ = some (.nx ρ2, δ) ∧ I (i + 1) ρ2)
    (last : ∀ ρ, I b ρ → ∃ ρ1, td (h b) ρ = some ρ1 ∧ body ρ1 δ = some (.ret d, δ)) {ρ : Rho} (h0 : I 0 ρ) : forD td body ((List.range N).map h) ρ δ = some (.ret d, δ) := by
  have key : ∀ k i ρ, i + k = b → I i ρ → forD td body ((List.range' i (N - i)).map h) ρ δ = some (.ret d, δ) := by
    intro k
    induction k with
    | zero =>
      intro i ρ e hi
      obtain rfl : i = b := by omega
      obtain ⟨ρ1, h1, h2⟩ := last ρ hi
      rw [show N - i = (N - i - 1) + 1 by omega, List.range'_succ, List.map_cons]
      simp only [forD, h1, h2]
    | succ k ih =>
      intro i ρ e hi
      obtain ⟨ρ1, ρ2, h1, h2, h3⟩ := step i ρ (by omega) hi
      have h4 := ih (i + 1) ρ2 (by omega) h3
      rw [show N - i = (N - (i + 1)) + 1 by omega, List.range'_succ, List.map_cons]
      simp only [forD, h1, h2, h4]
  rw [List.range_eq_range']
  exact key b 0 ρ (by omega) h0
section
variable {n r c : Int} {m m' : Nat} {X X' Y Z F : Nat → Int}
theorem m_heard (W : Rw n r m X) (h0 : 0 ≤ c) (h1 : c < n) {k : Nat} (hk : k ≤ 100) : g_heard [rg n r, tI (ls m X), .int c, .int k] = some (.ok (lI (ls k (ear n r m X c)))) := by
  have loop := forD_count (td := tgN 5) (body := b_heard_l0) (h := fun i : Nat => .int (i : Int)) (δ := (0, 0)) (N := k) (fun i ρ => ∃ s5, ρ = [.val (rg n r), .val (tI (rowAt n r m X i)), .val (.int c), .val (.int k), .own ((ls i (ear n r m X c)).map .int), s5])
    (fun i ρ hi ⟨s5, e⟩ => by
      subst e
      refine ⟨_, [.val (rg n r), .val (tI (rowAt n r m X (i + 1))), .val (.int c), .val (.int k), .own ((ls (i + 1) (ear n r m X c)).map .int), .val (.int i)], rfl, ?_, _, rfl⟩
      have hi5 : i < 100000 := by omega
      simp [b_heard_l0, W.hear h0 h1 i, W.next i, ls_snoc, hi5]) (ρ := [.val (rg n r), .val (tI (rowAt n r m X 0)), .val (.int c), .val (.int k), .own [], .un]) ⟨.un, rfl⟩
  obtain ⟨ρ2, e, s5, rfl⟩ := loop
  rw [W.row0] at e
  have w : g_is_whole [.int (k : Int), .int 0, .int 100] = some (.ok (.bool true)) := by rw [m_is_whole, decide_eq_true ⟨by omega, by omega⟩]
  have okk : okR (k : Int) = true := okR_s (by omega) (by omega)
  simp only [g_heard, b_heard]
  simp [m_need_row W, m_need_cell h0 h1, w, okk, rng0, e]
/-- the first beat at which two rows sound unlike -/
def Unl (n r : Int) (m : Nat) (X : Nat → Int) (m' : Nat) (X' : Nat → Int) (c : Int) (d : D) : Prop :=
  (∃ b : Nat, d = .int b ∧ ear n r m X c b ≠ ear n r m' X' c b ∧ ∀ j, j < b → ear n r m X c j = ear n r m' X' c j) ∨ (d = .none ∧ ∀ j, ear n r m X c j = ear n r m' X' c j)
theorem Unl.symm {d : D} (U : Unl n r m X m' X' c d) : Unl n r m' X' m X c d := by
  rcases U with ⟨b, h1, h2, h3⟩ | ⟨h1, h2⟩
  · exact .inl ⟨b, h1, h2.symm, fun j hj => (h3 j hj).symm⟩
  · exact .inr ⟨h1, fun j => (h2 j).symm⟩
theorem Unl.once {d e : D} (U : Unl n r m X m' X' c d) (V : Unl n r m X m' X' c e) : d = e := by
  rcases U with ⟨b, h1, h2, h3⟩ | ⟨h1, h2⟩
  · rcases V with ⟨b', g1, g2, g3⟩ | ⟨g1, g2⟩
    · by_cases q : b < b'
      · exact absurd (g3 b q) h2
      · by_cases q2 : b' < b
        · exact absurd (h3 b' q2) g2
        · rw [h1, g1, show b = b' by omega]
    · exact absurd (g2 b) h2
  · rcases V with ⟨b', g1, g2, g3⟩ | ⟨g1, g2⟩
    · exact absurd (h2 b') g2
    · rw [h1, g1]
theorem Unl.self {d : D} (U : Unl n r m X m X c d) : d = .none := by
  rcases U with ⟨b, h1, h2, h3⟩ | ⟨h1, h2⟩
  · exact absurd rfl h2
  · exact h1
theorem ear_all (W : Rw n r m X) (W' : Rw n r m' X') (h0 : 0 ≤ c) (h1 : c < n) {T L T' L' : Nat} (Q : Lap n r m X T L) (Q' : Lap n r m' X' T' L') (h : ∀ j, j < max T T' + L * L' → ear n r m X c j = ear n r m' X' c j) : ∀ j, ear n r m X c j = ear n r m' X' c j := by
  intro j
  induction j using Nat.strongRecOn with
  | _ j ih =>
    by_cases hj : j < max T T' + L * L'
    · exact h j hj
    · have hp : 0 < L * L' := Nat.mul_pos Q.pos Q'.pos
      have i0 := ih (j - L * L') (by omega)
      have a1 := ear_lap W h0 h1 Q L' (j - L * L' - T)
      have a2 := ear_lap W' h0 h1 Q' L (j - L * L' - T')
      rw [Nat.mul_comm L' L] at a2
      rw [show T + L * L' + (j - L * L' - T) = j by omega, show T + (j - L * L' - T) = j - L * L' by omega] at a1
      rw [show T' + L * L' + (j - L * L' - T') = j by omega, show T' + (j - L * L' - T') = j - L * L' by omega] at a2
      rw [a1, a2, i0]
theorem m_unlike (W : Rw n r m X) (W' : Rw n r m' X') (h0 : 0 ≤ c) (h1 : c < n) : ∃ d, g_unlike [rg n r, tI (ls m X), tI (ls m' X'), .int c] = some (.ok d) ∧ Unl n r m X m' X' c d := by
  obtain ⟨T, S⟩ := W.sett
  obtain ⟨L, Q⟩ := W.lap S
  obtain ⟨T', S'⟩ := W'.sett
  obtain ⟨L', Q'⟩ := W'.lap S'
  have hM := W.m24
  have hM' := W'.m24
  have hn1 := W.R.n1
  have l1 := Q.le
  have l1' := Q'.le
  have t1 := S.le
  have t1' := S'.le
  have hm : gMul (.int (L : Int)) (.int (L' : Int)) = some (.int (((L * L' : Nat)) : Int)) := by rw [gMul_l (by omega) (by omega)]; norm_cast
  have hLL : L * L' ≤ 24 * 24 := Nat.mul_le_mul (by omega) (by omega)
  have hN : max (T : Int) (T' : Int) + ((L * L' : Nat) : Int) = ((max T T' + L * L' : Nat) : Int) := by omega
  have okN : okR ((max T T' + L * L' : Nat) : Int) = true := okR_s (by omega) (by omega)
  let I : Nat → Rho → Prop := fun i ρ => ∃ s6, ρ = [.val (rg n r), .val (tI (rowAt n r m X i)), .val (tI (rowAt n r m' X' i)), .val (.int c), .val (.tuple [.int T, .int L]), .val (.tuple [.int T', .int L']), s6]
  have step : ∀ i ρ, ear n r m X c i = ear n r m' X' c i → I i ρ → ∃ ρ1 ρ2, tgN 6 (.int (i : Int)) ρ = some ρ1 ∧ b_unlike_l0 ρ1 (0, 0) = some (.nx ρ2, (0, 0)) ∧ I (i + 1) ρ2 := fun i ρ he ⟨s6, e⟩ => by
    subst e
    refine ⟨_, [.val (rg n r), .val (tI (rowAt n r m X (i + 1))), .val (tI (rowAt n r m' X' (i + 1))), .val (.int c), .val (.tuple [.int T, .int L]), .val (.tuple [.int T', .int L']), .val (.int i)], rfl, ?_, _, rfl⟩
    simp [b_unlike_l0, W.hear h0 h1 i, W'.hear h0 h1 i, he, W.next i, W'.next i]
  have r0 : I 0 [.val (rg n r), .val (tI (ls m X)), .val (tI (ls m' X')), .val (.int c), .val (.tuple [.int T, .int L]), .val (.tuple [.int T', .int L']), .un] := ⟨.un, by rw [W.row0, W'.row0]⟩
  by_cases h : ∃ j, j < max T T' + L * L' ∧ ear n r m X c j ≠ ear n r m' X' c j
  · obtain ⟨j, hj, hd⟩ := h
    obtain ⟨b, b1, b2, b3⟩ := first_at (p := fun t => ear n r m X c t ≠ ear n r m' X' c t) (fun _ => Decidable.em _) j hd
    have b4 : ∀ i, i < b → ear n r m X c i = ear n r m' X' c i := fun i hi => Decidable.of_not_not (b3 i hi)
    have e := forD_find (N := max T T' + L * L') (b := b) (d := .int b) (h := fun i : Nat => .int (i : Int)) (by omega) I (fun i ρ hi => step i ρ (b4 i hi)) (fun ρ ⟨s6, e⟩ => by
      subst e
      refine ⟨_, rfl, ?_⟩
      simp [b_unlike_l0, W.hear h0 h1 b, W'.hear h0 h1 b, b2]) r0
    refine ⟨_, ?_, .inl ⟨b, rfl, b2, b4⟩⟩
    simp only [g_unlike, b_unlike]
    simp [m_need_row W, m_need_row W', m_need_cell h0 h1, m_round_at W S Q, m_round_at W' S' Q', hm, hN, okN, rng0, e, -Int.natCast_add, -Int.natCast_mul]
  · have b4 : ∀ i, i < max T T' + L * L' → ear n r m X c i = ear n r m' X' c i := fun i hi => Decidable.of_not_not fun z => h ⟨i, hi, z⟩
    obtain ⟨ρ2, e, s6, rfl⟩ := forD_count (N := max T T' + L * L') (h := fun i : Nat => .int (i : Int)) I (fun i ρ hi => step i ρ (b4 i hi)) r0
    refine ⟨_, ?_, .inr ⟨rfl, ear_all W W' h0 h1 Q Q' b4⟩⟩
    simp only [g_unlike, b_unlike]
    simp [m_need_row W, m_need_row W', m_need_cell h0 h1, m_round_at W S Q, m_round_at W' S' Q', hm, hN, okN, rng0, e, -Int.natCast_add, -Int.natCast_mul]
theorem wlk_bd (W : Rw n r m X) : ∀ t i, X i ≤ wlk r X t i ∧ wlk r X t i ≤ X i + 3 * t
  | 0, i => by simp [wlk]
  | t + 1, i => by
    have h := wlk_bd W t i
    have := W.R.r1
    have := W.r0
    have := (W.P.wlk W.r0 t).inc i
    show X i ≤ stp r (wlk r X t) i ∧ stp r (wlk r X t) i ≤ _
    unfold stp
    omega
theorem m_law_passes (hn : 0 < n) (h0 : 0 ≤ c) (h1 : c < n) (hM : m ≤ 1000) (hb : ∀ i, i < m → Y i ≤ Z i ∧ -1000000 ≤ Y i ∧ Z i ≤ 1000000 ∧ Z i - Y i ≤ 1000) : g__law_passes [rg n r, lI (ls m Y), lI (ls m Z), .int c] = some (.ok (.int (ls m fun i => (Z i - c - 1) / n - (Y i - c - 1) / n).sum)) := by
  have loop := forD_count (td := tgT [5, 6]) (body := b__law_passes_l0) (h := fun i : Nat => .tuple [.int (Y i), .int (Z i)]) (δ := (0, 0)) (N := m) (fun i ρ => ∃ s5 s6, ρ = [.val (rg n r), .val (lI (ls m Y)), .val (lI (ls m Z)), .val (.int c), .val (.int (ls i fun i => (Z i - c - 1) / n - (Y i - c - 1) / n).sum), s5, s6, .un])
    (fun i ρ hi ⟨s5, s6, e⟩ => by
      subst e
      obtain ⟨b1, b2, b3, b4⟩ := hb i hi
      refine ⟨_, [.val (rg n r), .val (lI (ls m Y)), .val (lI (ls m Z)), .val (.int c), .val (.int (ls (i + 1) fun i => (Z i - c - 1) / n - (Y i - c - 1) / n).sum), .val (.int (Y i)), .val (.int (Z i)), .un], rfl, ?_, _, _, rfl⟩
      have o1 : okR (Y i) = true := okR_s (by omega) (by omega)
      have o2 : okR (Z i) = true := okR_s (by omega) (by omega)
      have hl : (Z i - Y i).toNat ≤ 100000 := by omega
      have cg := count_gate hn h0 h1 (Y i) (Z i - Y i).toNat
      rw [show Y i + (((Z i - Y i).toNat : Nat) : Int) - c - 1 = Z i - c - 1 by omega] at cg
      have hlc : lcD (tgN 7) (d2 gEq (d2 gMod (dV 7) (d2 gIx (dB 0) (dC (.int 0)))) (dV 3)) (dC (.int 1)) [.val (rg n r), .val (lI (ls m Y)), .val (lI (ls m Z)), .val (.int c), .val (.int (ls i fun i => (Z i - c - 1) / n - (Y i - c - 1) / n).sum), .val (.int (Y i)), .val (.int (Z i)), .un] (rng (Y i) (Z i)) (0, 0) = some (.ok ((List.range (Z i - Y i).toNat).filterMap fun j => if (Y i + (j : Nat)) % n = c then some (PyData.int 1) else none), (0, 0)) := by
        unfold rng
        refine lcD_filterMap fun j _ => ⟨_, rfl, ?_⟩
        by_cases q : (Y i + (j : Nat)) % n = c
        · rw [if_pos q]
          exact ⟨by simp [gMod_int hn, q], rfl⟩
        · rw [if_neg q]
          simp [gMod_int hn, q]
      have hl2 : (rng (Y i) (Z i)).length ≤ 100000 := by unfold rng; simpa using hl
      simp [b__law_passes_l0, o1, o2, hlc, hl2, cg, sum_snoc]) (ρ := [.val (rg n r), .val (lI (ls m Y)), .val (lI (ls m Z)), .val (.int c), .val (.int 0), .un, .un, .un]) ⟨.un, .un, rfl⟩
  obtain ⟨ρ2, e, s5, s6, rfl⟩ := loop
  simp only [g__law_passes, b__law_passes]
  simp [zipD_ls, e]
end
end G8

set_option Elab.async false
set_option linter.all false
set_option maxRecDepth 100000
set_option maxHeartbeats 2000000
namespace G8
open PySem PySem.Spec PyProof.Rows L2
section
variable {n r c : Int} {m m' : Nat} {X X' Y Z F : Nat → Int}
theorem pow10 {k : Nat} (h : k ≤ 1000) : gPow (.int 10) (.int (k : Int)) = some (.int (10 ^ k)) := by
  show (if _ then _ else _) = _
  rw [if_pos (cdec_iff.mpr ⟨by omega, by omega, by decide, by decide⟩)]
  rfl
theorem m_law_far_right7 (W : Rw n r m X) (h0 : 0 ≤ c) (h1 : c < n) (δ : Dl) : ∃ δ', g__law_far_right7 [rg n r, tI (ls m X), .int c] δ = some (.bool true, δ') := by
  obtain ⟨T, S⟩ := W.sett
  obtain ⟨L, Q⟩ := W.lap S
  have hM := W.m24
  have hn1 := W.R.n1
  have l1 := Q.le
  have t1 := S.le
  obtain ⟨y, δ', ey, hy0, hy1⟩ := m_law_roll δ (k := 3) (by omega) (by omega)
  have p7 : gPow (.int 10) (.int 7) = some (.int 10000000) := pow10 (k := 7) (by omega)
  have p16 : gPow (.int 10) (.int 16) = some (.int 10000000000000000) := pow10 (k := 16) (by omega)
  obtain ⟨k, ek, hk⟩ : ∃ k : Nat, atI [PyData.int 9, PyData.int 10000000, PyData.int 10000000000000000] y = some (.int (k : Int)) ∧ k ≤ 10000000000000000 := by
    obtain h | h | h : y = 0 ∨ y = 1 ∨ y = 2 := by omega
    all_goals subst h
    · exact ⟨9, rfl, by omega⟩
    · exact ⟨10000000, rfl, by omega⟩
    · exact ⟨10000000000000000, rfl, by omega⟩
  have hLk : L * k ≤ 24 * 10000000000000000 := Nat.mul_le_mul (by omega) hk
  have b1 := m_heard_by W (t := T + L) (by omega) h0 h1
  have b2 := m_heard_by W (t := T) (by omega) h0 h1
  have b3 := m_heard_by W (t := T + L * k) (by omega) h0 h1
  rw [passes_lap W h0 h1 Q k] at b3
  rw [show ((T + L : Nat) : Int) = (T : Int) + L by omega] at b1
  have e3 : ((T + L * k : Nat) : Int) = (T : Int) + (L : Int) * k := by rw [Int.natCast_add, Int.natCast_mul]
  rw [e3] at b3
  have m1 : gMul (.int (L : Int)) (.int (k : Int)) = some (.int ((L : Int) * k)) := gMul_l (by omega) (by omega)
  have m2 : gMul (.int (k : Int)) (.int (passes n r m X c (T + L) - passes n r m X c T)) = some (.int (k * (passes n r m X c (T + L) - passes n r m X c T))) := gMul_l (by omega) (by omega)
  refine ⟨δ', ?_⟩
  simp only [g__law_far_right7, b__law_far_right7]
  simp [m_round_of W S Q, p7, p16, ey, ek, b1, b2, m1, m2, b3]
/-! ### refusals at gates -/
theorem x_need_cell {d : D} (h : NoNum d 0 (n - 1)) : g_need_cell [rg n r, d] = some (.error "BadCell") := by
  unfold NoNum at h
  simp [g_need_cell, b_need_cell, h]
theorem x_heardC (W : Rw n r m X) {d e : D} (h : NoNum d 0 (n - 1)) : g_heard [rg n r, tI (ls m X), d, e] = some (.error "BadCell") := by simp [g_heard, b_heard, m_need_row W, x_need_cell h]
theorem x_heardM (W : Rw n r m X) (h0 : 0 ≤ c) (h1 : c < n) {e : D} (h : NoNum e 0 100) : g_heard [rg n r, tI (ls m X), .int c, e] = some (.error "BadNumber") := by
  unfold NoNum at h
  simp [g_heard, b_heard, m_need_row W, m_need_cell h0 h1, h]
theorem x_heard_byC (W : Rw n r m X) {d e : D} (h : NoNum d 0 (n - 1)) : g_heard_by [rg n r, tI (ls m X), d, e] = some (.error "BadCell") := by simp [g_heard_by, b_heard_by, m_need_row W, x_need_cell h]
theorem x_heard_byM (W : Rw n r m X) (h0 : 0 ≤ c) (h1 : c < n) {e : D} (h : NoNum e 0 1000000000000000000) : g_heard_by [rg n r, tI (ls m X), .int c, e] = some (.error "BadNumber") := by simp [g_heard_by, b_heard_by, m_need_row W, m_need_cell h0 h1, x_need_moment h]
theorem x_unlikeC (W : Rw n r m X) (W' : Rw n r m' X') {d : D} (h : NoNum d 0 (n - 1)) : g_unlike [rg n r, tI (ls m X), tI (ls m' X'), d] = some (.error "BadCell") := by simp [g_unlike, b_unlike, m_need_row W, m_need_row W', x_need_cell h]
theorem m_law_gates_refused (W : Rw n r m X) (W' : Rw n r m' X') (h0 : 0 ≤ c) (h1 : c < n) : g__law_gates_refused [rg n r, tI (ls m X), tI (ls m' X'), .int c] = some (.ok (.bool true)) := by
  have bc : "BadCell" ∈ excN := by decide
  have bn : "BadNumber" ∈ excN := by decide
  have ml := mul_list [refused "BadCell"] 3 (by omega) (by simp)
  have ne' : gNe (.list [refused "BadCell", refused "BadCell", refused "BadCell"]) (.list [refused "BadCell", refused "BadCell", refused "BadCell"]) = some (.bool false) := gNe_ref bc 3
  have hflat : (List.replicate 3 [refused "BadCell"]).flatten = List.replicate 3 (refused "BadCell") := rfl
  rw [hflat] at ml
  have ml' : gMul (.list [refused "BadCell"]) (.int 3) = some (.list (List.replicate 3 (refused "BadCell"))) := ml
  have loop2 := forD_all (td := tgN 4) (body := b__law_gates_refused_l2) (h := fun d : D => d) (δ := (0, 0)) (I := fun ρ => ∃ s4 s5, ρ = [.val (rg n r), .val (tI (ls m X)), .val (tI (ls m' X')), .val (.int c), s4, s5]) (xs := [.int (-1), .int n, .bool true, .none, .str "0"])
    (ρ := [.val (rg n r), .val (tI (ls m X)), .val (tI (ls m' X')), .val (.int c), .un, .un]) (fun d hd ρ ⟨s4, s5, e⟩ => by
      subst e
      have hn : NoNum d 0 (n - 1) := by
        simp only [List.mem_cons, List.not_mem_nil, or_false] at hd
        rcases hd with rfl | rfl | rfl | rfl | rfl
        · exact noNum_int (by omega)
        · exact noNum_int (by omega)
        · exact noNum_bool _ _ _
        · exact noNum_none _ _
        · exact noNum_str _ _ _
      refine ⟨_, [.val (rg n r), .val (tI (ls m X)), .val (tI (ls m' X')), .val (.int c), .val d, .val (.list [refused "BadCell", refused "BadCell"])], rfl, ?_, _, _, rfl⟩
      simp [b__law_gates_refused_l2, x_heardC W hn, x_heard_byC W hn, x_unlikeC W W' hn, bc, ml', ne']) ⟨.un, .un, rfl⟩
  obtain ⟨ρ2, e2, s4, s5, rfl⟩ := loop2
  have loop1 := forD_all (td := tgN 4) (body := b__law_gates_refused_l1) (h := fun d : D => d) (δ := (0, 0)) (I := fun ρ => ∃ s4, ρ = [.val (rg n r), .val (tI (ls m X)), .val (tI (ls m' X')), .val (.int c), s4, s5]) (xs := [.int (-1), .int 101, .bool true, .none])
    (ρ := [.val (rg n r), .val (tI (ls m X)), .val (tI (ls m' X')), .val (.int c), s4, s5]) (fun d hd ρ ⟨s4, e⟩ => by
      subst e
      have hn : NoNum d 0 100 := by
        simp only [List.mem_cons, List.not_mem_nil, or_false] at hd
        rcases hd with rfl | rfl | rfl | rfl
        · exact noNum_int (by omega)
        · exact noNum_int (by omega)
        · exact noNum_bool _ _ _
        · exact noNum_none _ _
      refine ⟨_, [.val (rg n r), .val (tI (ls m X)), .val (tI (ls m' X')), .val (.int c), .val d, s5], rfl, ?_, _, rfl⟩
      simp [b__law_gates_refused_l1, x_heardM W h0 h1 hn, bn, gNe_ref1 bn]) ⟨s4, rfl⟩
  obtain ⟨ρ1, e1, s4', rfl⟩ := loop1
  have loop0 := forD_all (td := tgN 4) (body := b__law_gates_refused_l0) (h := fun d : D => d) (δ := (0, 0)) (I := fun ρ => ∃ s4, ρ = [.val (rg n r), .val (tI (ls m X)), .val (tI (ls m' X')), .val (.int c), s4, s5]) (xs := [.int (-1), .int 1000000000000000001, .bool true, .none])
    (ρ := [.val (rg n r), .val (tI (ls m X)), .val (tI (ls m' X')), .val (.int c), s4', s5]) (fun d hd ρ ⟨s4, e⟩ => by
      subst e
      have hn : NoNum d 0 1000000000000000000 := by
        simp only [List.mem_cons, List.not_mem_nil, or_false] at hd
        rcases hd with rfl | rfl | rfl | rfl
        · exact noNum_int (by omega)
        · exact noNum_int (by omega)
        · exact noNum_bool _ _ _
        · exact noNum_none _ _
      refine ⟨_, [.val (rg n r), .val (tI (ls m X)), .val (tI (ls m' X')), .val (.int c), .val d, s5], rfl, ?_, _, rfl⟩
      simp [b__law_gates_refused_l0, x_heard_byM W h0 h1 hn, bn, gNe_ref1 bn]) ⟨s4', rfl⟩
  obtain ⟨ρ0, e0, s4'', rfl⟩ := loop0
  rw [List.map_id'] at e0 e1 e2
  simp only [g__law_gates_refused, b__law_gates_refused]
  simp [pow18, e0, e1, e2]
theorem Of.wlk {Y Z : Nat → Int} (O : Of n r m Y Z) : ∃ (s : Nat) (q : Int), ∀ k i, wlk r Z k i = wlk r Y k (i + s) - q * n := by
  obtain ⟨s, q, h⟩ := O.sh
  refine ⟨s, q, fun k => ?_⟩
  induction k with
  | zero => exact h
  | succ k ih =>
    intro i
    have e : G8.wlk r Z k = fun i => G8.wlk r Y k (i + s) - q * n := funext ih
    show stp r (G8.wlk r Z k) i = stp r (G8.wlk r Y k) (i + s) - q * n
    rw [e, stp_sh]
theorem Of.row {Y Z : Nat → Int} (O : Of n r m Y Z) (P : Per n m Y) (k : Nat) : rowAt n r m Z k = isort (ls m fun i => G8.wlk r Y k i % n) := by
  obtain ⟨s, q, h⟩ := O.wlk
  have e : G8.wlk r Z k = fun i => G8.wlk r Y k (i + s) - q * n := funext (h k)
  unfold rowAt
  rw [e]
  exact row_sh (P.wlk O.W.r0 k) s q
theorem ear_on (W : Rw n r m X) (h0 : 0 ≤ c) (h1 : c < n) (t : Nat) : ∃ Z, rowAt n r m X t = ls m Z ∧ Rw n r m Z ∧ ∀ j, ear n r m Z c j = ear n r m X c (t + j) := by
  obtain ⟨Z, e, O⟩ := W.row t
  refine ⟨Z, e, O.W, fun j => ear_row O.W W h0 h1 ?_⟩
  rw [O.row (W.P.wlk W.r0 t) j]
  unfold rowAt
  rw [wlk_add]
end
end G8

set_option Elab.async false
set_option linter.all false
set_option maxRecDepth 100000
set_option maxHeartbeats 2000000
namespace G8
open PySem PySem.Spec PyProof.Rows L2
section
variable {n r c : Int} {m a : Nat} {X V F G : Nat → Int} {φ : Nat → Nat}
/-! ### harmless -/
/-- no cart is later at t -/
def Eqt (r : Int) (X V : Nat → Int) (φ : Nat → Nat) (t : Nat) : Prop := ∀ i, wlk r X t i = wlk r V t (φ i)
theorem Ins.turn (W : Rw n r m X) (I : Ins n r m X V φ c a) (i : Nat) : φ (i + m) = φ i + (m + 1) := by
  have h := I.old (i + m)
  rw [W.P.per, ← I.old i, ← I.W.P.per] at h
  rcases Nat.lt_trichotomy (φ (i + m)) (φ i + (m + 1)) with z | z | z
  · have := I.W.P.lt z; omega
  · exact z
  · have := I.W.P.lt z; omega
theorem Ins.gap (W : Rw n r m X) (I : Ins n r m X V φ c a) : ∃ i, φ i + 1 < φ (i + 1) := by
  refine Classical.byContradiction fun h => ?_
  have h1 : ∀ i, φ (i + 1) = φ i + 1 := fun i => by
    have := I.up i
    have : ¬ φ i + 1 < φ (i + 1) := fun z => h ⟨i, z⟩
    omega
  have h2 : ∀ i, φ i = φ 0 + i := fun i => by
    induction i with
    | zero => rfl
    | succ i ih => rw [h1, ih]; omega
  have := I.turn W 0
  rw [h2 (0 + m)] at this
  omega
theorem Ins.eqt_of (W : Rw n r m X) (I : Ins n r m X V φ c a) {t : Nat} (h : ∀ i, i < m → wlk r X t i = wlk r V t (φ i)) : Eqt r X V φ t := by
  intro i
  induction i using Nat.strongRecOn with
  | _ i ih =>
    by_cases hi : i < m
    · exact h i hi
    · have hm := W.m0
      have := ih (i - m) (by omega)
      have e := I.turn W (i - m)
      rw [show i - m + m = i by omega] at e
      have p1 := (W.P.wlk W.r0 t).per (i - m)
      rw [show i - m + m = i by omega] at p1
      rw [e, (I.W.P.wlk I.W.r0 t).per, p1, this]
theorem Ins.run_on (W : Rw n r m X) (I : Ins n r m X V φ c a) {s : Nat} (e : Eqt r X V φ s) (h : Runs r (wlk r V s)) (k : Nat) : Eqt r X V φ (s + k) := by
  have hx : Runs r (wlk r X s) := fun i => by
    rw [e, e]
    have h1 := (I.W.P.wlk I.W.r0 s).mono (show φ i + 1 ≤ φ (i + 1) from I.up i)
    have h2 := h (φ i)
    omega
  intro i
  rw [wlk_add, wlk_add, hx.on, h.on]
  show wlk r X s i + r * k = wlk r V s (φ i) + r * k
  rw [e]
theorem Ins.both_back (W : Rw n r m X) (I : Ins n r m X V φ c a) {s : Nat} (e : Eqt r X V φ s) (hv : Backs r (wlk r V s)) (hx : Backs r (wlk r X s)) : ¬ Eqt r X V φ (s + 1) := by
  intro e1
  obtain ⟨i, hi⟩ := I.gap W
  have h := e1 i
  rw [wlk_add, wlk_add, hx.on, hv.on] at h
  have h : wlk r X s (i + 1) - ((1 : Nat) : Int) = wlk r V s (φ i + 1) - ((1 : Nat) : Int) := h
  have h2 := e (i + 1)
  have h3 := (I.W.P.wlk I.W.r0 s).lt hi
  omega
theorem Ins.far_loss (W : Rw n r m X) (I : Ins n r m X V φ c a) {s : Nat} (hv : Backs r (wlk r V s)) (nv : ¬ Runs r (wlk r V s)) (hx : Runs r (wlk r X s)) (k i : Nat) : wlk r V (s + (m + 1) + k) (φ i) < wlk r X (s + (m + 1) + k) i := by
  have hn : n < r * (m + 1) + (m + 1) := by
    have := mt (room_runs I.W (.inr hv)).mpr nv
    rw [Int.natCast_add, show ((1 : Nat) : Int) = 1 from rfl] at this
    have e : ((m : Int) + 1) * (r + 1) = r * (m + 1) + (m + 1) := by rw [Int.mul_add, Int.mul_comm, Int.mul_one]
    rw [e] at this
    omega
  have h1 := I.less (s + k) i
  have hx2 := (settled_on (.inl hx) k).1 hx
  have hv2 := (settled_on (.inr hv) k).2 hv
  rw [show s + (m + 1) + k = s + k + (m + 1) by omega, wlk_add r V, wlk_add r X, hx2.on, hv2.on]
  have p := (I.W.P.wlk I.W.r0 (s + k)).per (φ i)
  show wlk r V (s + k) (φ i + (m + 1)) - ((m + 1 : Nat) : Int) < wlk r X (s + k) i + r * ((m + 1 : Nat) : Int)
  rw [p, Int.natCast_add, show ((1 : Nat) : Int) = 1 from rfl]
  omega
/-- no cart is ever later -/
def Harm (r : Int) (X V : Nat → Int) (φ : Nat → Nat) : Prop := ∀ t, Eqt r X V φ t
theorem Ins.harm (W : Rw n r m X) (I : Ins n r m X V φ c a) {S T : Nat} (hS : Sett r m X S) (hT : Sett r (m + 1) V T) (h : ∀ t, t ≤ max S T + 1 → Eqt r X V φ t) {u : Nat} (hu : max S T + (m + 1) ≤ u) (h2 : Eqt r X V φ u) : Harm r X V φ := by
  obtain ⟨s, hs⟩ : ∃ s, s = max S T := ⟨_, rfl⟩
  rw [← hs] at h hu
  have hX : Runs r (wlk r X s) ∨ Backs r (wlk r X s) := by
    have := settled_on hS.is (s - S)
    rw [show S + (s - S) = s by omega] at this
    exact hS.is.imp this.1 this.2
  have hV : Runs r (wlk r V s) ∨ Backs r (wlk r V s) := by
    have := settled_on hT.is (s - T)
    rw [show T + (s - T) = s by omega] at this
    exact hT.is.imp this.1 this.2
  have e := h s (by omega)
  by_cases nv : Runs r (wlk r V s)
  · intro t
    by_cases ht : t ≤ s
    · exact h t (by omega)
    · have := I.run_on W e nv (t - s)
      rwa [show s + (t - s) = t by omega] at this
  · have hb := hV.resolve_left nv
    by_cases hx : Backs r (wlk r X s)
    · exact absurd (h (s + 1) (by omega)) (I.both_back W e hb hx)
    · have := I.far_loss W hb nv (hX.resolve_right hx) (u - (s + (m + 1))) 0
      rw [show s + (m + 1) + (u - (s + (m + 1))) = u by omega] at this
      have := h2 0
      omega
/-- without room for one more there is none -/
theorem Ins.harm_room (W : Rw n r m X) (I : Ins n r m X V φ c a) (h : Harm r X V φ) : ((m : Int) + 1) * (r + 1) ≤ n := by
  obtain ⟨S, hS⟩ := W.sett
  obtain ⟨T, hT⟩ := I.W.sett
  obtain ⟨s, hs⟩ : ∃ s, s = max S T := ⟨_, rfl⟩
  have hX : Runs r (wlk r X s) ∨ Backs r (wlk r X s) := by
    have := settled_on hS.is (s - S)
    rw [show S + (s - S) = s by omega] at this
    exact hS.is.imp this.1 this.2
  have hV : Runs r (wlk r V s) ∨ Backs r (wlk r V s) := by
    have := settled_on hT.is (s - T)
    rw [show T + (s - T) = s by omega] at this
    exact hT.is.imp this.1 this.2
  by_cases nv : Runs r (wlk r V s)
  · have := (room_runs I.W hV).mp nv
    rwa [Int.natCast_add, show ((1 : Nat) : Int) = 1 from rfl] at this
  · have hb := hV.resolve_left nv
    by_cases hx : Backs r (wlk r X s)
    · exact absurd (h (s + 1)) (I.both_back W (h s) hb hx)
    · have := I.far_loss W hb nv (hX.resolve_right hx) 0 0
      have := h (s + (m + 1) + 0) 0
      omega
end
end G8

set_option Elab.async false
set_option linter.all false
set_option maxRecDepth 100000
set_option maxHeartbeats 2000000
namespace G8
open PySem PySem.Spec PyProof.Rows L2
theorem sIx_nat {N k : Nat} {d : Nat} : HT.sIx N d (some (k : Int)) = min k N := by
  unfold HT.sIx
  simp
  omega
theorem cut_lo (xs : List D) (k : Nat) : gCut xs none (some (k : Int)) = xs.take k := by
  unfold gCut
  rw [sIx_nat]
  show (xs.drop 0).take (min k xs.length - 0) = _
  rw [List.drop_zero, Nat.sub_zero, ← List.take_take, List.take_length]
theorem cut_hi (xs : List D) (k : Nat) : gCut xs (some (k : Int)) none = xs.drop k := by
  unfold gCut
  rw [sIx_nat]
  show (xs.drop (min k xs.length)).take (xs.length - min k xs.length) = _
  by_cases h : k ≤ xs.length
  · rw [Nat.min_eq_left h, List.take_of_length_le (by simp)]
  · rw [Nat.min_eq_right (by omega), Nat.sub_self, List.take_zero, List.drop_eq_nil_of_le (by omega)]
section
variable {n r c : Int} {m a : Nat} {X V F G : Nat → Int} {φ : Nat → Nat}
theorem any_ls (F : Nat → Int) : ((ls m F).any fun i => i != 0) = !decide (∀ i, i < m → F i = 0) := by
  rw [Bool.eq_iff_iff]
  simp only [List.any_eq_true, Bool.not_eq_true', decide_eq_false_iff_not, bne_iff_ne]
  constructor
  · rintro ⟨x, hx, hn⟩ h
    obtain ⟨i, hi, rfl⟩ := ls_mem.mp hx
    exact hn (h i hi)
  · intro h
    refine Classical.byContradiction fun z => h fun i hi => Classical.byContradiction fun e => z ⟨F i, ls_mem.mpr ⟨i, hi, rfl⟩, e⟩
/-- the moments that are looked at tell all -/
theorem Ins.harm_iff (W : Rw n r m X) (I : Ins n r m X V φ c a) {S T : Nat} (hS : Sett r m X S) (hT : Sett r (m + 1) V T) {ts : List Nat} (h1 : ∀ t, t ≤ max S T + 1 → t ∈ ts) {u : Nat} (hu : u ∈ ts) (hu2 : max S T + (m + 1) ≤ u) :
    (∀ t ∈ ts, ∀ i, i < m → wlk r X t i - wlk r V t (φ i) = 0) ↔ Harm r X V φ := by
  constructor
  · intro h
    have h' : ∀ t ∈ ts, Eqt r X V φ t := fun t ht => I.eqt_of W fun i hi => by have := h t ht i hi; omega
    exact I.harm W hS hT (fun t ht => h' t (h1 t ht)) hu2 (h' u hu)
  · intro h t _ i _
    have := h t i
    omega
theorem m_is_harmless (W : Rw n r m X) (I : Ins n r m X V φ c a) {b : Bool} (hb : b = true ↔ Harm r X V φ) : g_is_harmless [rg n r, tI (ls m X), .int c] = some (.ok (.bool b)) := by
  have hM := W.m24
  have hM5 : m ≤ 100000 := by omega
  have hM6 : m + 1 ≤ 100000 := by omega
  obtain ⟨S, hS⟩ := W.sett
  obtain ⟨T, hT⟩ := I.W.sett
  have gs := I.gs
  have eX := m_settled W hS
  have eV := m_settled I.W hT
  have l1 := hS.le
  have l2 := hT.le
  obtain ⟨s, hs⟩ : ∃ s : Nat, s = max S T := ⟨_, rfl⟩
  have hmx : max (S : Int) (T : Int) = (s : Int) := by rw [hs]; omega
  have ok2 : okRg 0 ((s : Int) + 1 + 1) = true := okRg_s (by omega) (by omega) (by omega) (by omega) (by omega)
  have rgs : rng 0 ((s : Int) + 1 + 1) = (List.range (s + 2)).map fun (i : Nat) => .int (i : Int) := by
    rw [show (s : Int) + 1 + 1 = ((s + 2 : Nat) : Int) by omega]
    exact rng0 _
  let ts : List Nat := List.range (s + 2) ++ [1000000000000000000]
  have hts : (List.range (s + 2)).map (fun (i : Nat) => PyData.int (i : Int)) ++ [PyData.int 1000000000000000000] = ts.map fun (i : Nat) => .int (i : Int) := by simp [ts]
  have key := I.harm_iff W hS hT (ts := ts) (fun t ht => by simp [ts]; omega) (u := 1000000000000000000) (by simp [ts]) (by omega)
  have lc : ∀ ρ : Rho, ρ = [.val (rg n r), .val (tI (ls m X)), .val (.int c), .val (tI (ls (m + 1) V)), .val (.int ((s : Int) + 1)), .un] → lcD (tgN 5) dYes (dCB gAny2 (aCons (dCall g_all_later (aCons (dV 0) (aCons (dV 1) (aCons (dV 2) (aCons (dV 5) aNil))))) aNil)) ρ (ts.map fun (i : Nat) => .int (i : Int)) (0, 0) = some (.ok ((ts.map fun t => !decide (∀ i, i < m → wlk r X t i - wlk r V t (φ i) = 0)).map .bool), (0, 0)) := by
    rintro ρ rfl
    rw [lcD_map (e := fun t => .bool (!decide (∀ i, i < m → wlk r X t i - wlk r V t (φ i) = 0))), List.map_map]
    · rfl
    intro t ht
    have ht : t ≤ 1000000000000000000 := by
      simp [ts] at ht
      omega
    have e := m_all_later W I ht
    have e2 : gAny2 [tI (ls m fun i => wlk r X t i - wlk r V t (φ i))] = some (.bool (!decide (∀ i, i < m → wlk r X t i - wlk r V t (φ i) = 0))) := by
      show (asInts _).map _ = _
      rw [asInts_map, Option.map_some, any_ls]
    exact ⟨_, rfl, rfl, by simp [e, e2]⟩
  have ea : gAny2 [.list ((ts.map fun t => !decide (∀ i, i < m → wlk r X t i - wlk r V t (φ i) = 0)).map .bool)] = some (.bool (!b)) := by
    show (asBls _).map _ = _
    rw [asBls_map, Option.map_some]
    congr 2
    have : b = true ↔ ∀ t ∈ ts, ∀ i, i < m → wlk r X t i - wlk r V t (φ i) = 0 := hb.trans key.symm
    rw [Bool.eq_iff_iff, List.any_map, List.any_eq_true]
    cases b with
    | true =>
      have := this.mp rfl
      constructor
      · rintro ⟨t, ht, h⟩
        simp at h
        obtain ⟨i, hi, h⟩ := h
        exact absurd (this t ht i hi) h
      · intro h; cases h
    | false =>
      refine ⟨fun _ => rfl, fun _ => Classical.byContradiction fun z => ?_⟩
      have := this.mpr fun t ht => Classical.byContradiction fun e => z ⟨t, ht, by simpa using e⟩
      cases this
  have hlen : (ts.map fun (i : Nat) => PyData.int (i : Int)).length ≤ 100000 := by simp [ts]; omega
  have hlen2 : ((List.range (s + 2)).map fun (i : Nat) => PyData.int (i : Int)).length + [PyData.int 1000000000000000000].length ≤ 100000 := by simp; omega
  simp only [g_is_harmless, b_is_harmless]
  simp only [run, startR, List.length_cons, List.length_nil, Nat.reduceAdd, if_true, List.map_cons, List.map_nil, List.cons_append, List.nil_append, Nat.reduceSub, List.replicate_succ, List.replicate_zero]
  rw [sq_nx (ρ' := [.val (rg n r), .val (tI (ls m X)), .val (.int c), .val (tI (ls (m + 1) V)), .un, .un]) (δ' := (0, 0)) (by simp [hM5, hM6, gs])]
  rw [sq_nx (ρ' := [.val (rg n r), .val (tI (ls m X)), .val (.int c), .val (tI (ls (m + 1) V)), .val (.int ((s : Int) + 1)), .un]) (δ' := (0, 0)) (by simp [eX, eV, hmx])]
  have lc := lc _ rfl
  have hl3 : s + 2 + 1 ≤ 100000 := by omega
  have hlen' : ts.length ≤ 100000 := by simpa using hlen
  simp [ok2, rgs, hl3]
  rw [hts]
  simp [lc, hlen']
  rw [List.map_map] at ea
  simp [ea]
/-- which cells are harmless -/
theorem harms (W : Rw n r m X) : ∃ B : Int → Bool, ∀ c ∈ freeC n m X, ∃ V φ a, Ins n r m X V φ c a ∧ (B c = true ↔ Harm r X V φ) := by
  have ex : ∀ c : Int, ∃ b : Bool, c ∈ freeC n m X → ∃ V φ a, Ins n r m X V φ c a ∧ (b = true ↔ Harm r X V φ) := fun c => by
    by_cases hc : c ∈ freeC n m X
    · obtain ⟨h0, h1, h2⟩ := freeC_mem.mp hc
      obtain ⟨V, φ, a, I⟩ := ins_ex W h0 h1 h2
      exact ⟨cdec (Harm r X V φ), fun _ => ⟨V, φ, a, I, cdec_iff⟩⟩
    · exact ⟨false, fun z => absurd z hc⟩
  exact Classical.axiomOfChoice ex
theorem m_harmless (W : Rw n r m X) {B : Int → Bool} (hB : ∀ c ∈ freeC n m X, ∃ V φ a, Ins n r m X V φ c a ∧ (B c = true ↔ Harm r X V φ)) : g_harmless [rg n r, tI (ls m X)] = some (.ok (lI ((freeC n m X).filter B))) := by
  have hn := W.n0
  have hn1 := W.R.n1
  have okn : okR n = true := okR_s (by omega) (by omega)
  have hn5 : n.toNat ≤ 100000 := by omega
  have lc : lcD (tgN 2) (dAnd (d2 gNotIn (dV 2) (dV 1)) (dCall g_is_harmless (aCons (dV 0) (aCons (dV 1) (aCons (dV 2) aNil))))) (dV 2) [.val (rg n r), .val (tI (ls m X)), .un] ((List.range n.toNat).map fun (i : Nat) => .int (i : Int)) (0, 0) = some (.ok (((freeC n m X).filter B).map .int), (0, 0)) := by
    rw [lcD_filterMap (e := fun (i : Nat) => if (i : Int) ∈ ls m X then none else if B (i : Int) = true then some (.int (i : Int)) else none)]
    · congr 3
      unfold freeC
      rw [List.filter_map, List.filter_filter, List.map_map]
      generalize List.range n.toNat = l
      induction l with
      | nil => rfl
      | cons x l ih =>
        rw [List.filterMap_cons, List.filter_cons]
        by_cases h : (x : Int) ∈ ls m X
        · rw [if_pos h, if_neg (by simp [h]), ih]
        · by_cases h2 : B (x : Int) = true
          · rw [if_neg h, if_pos h2, if_pos (by simp [h, h2]), List.map_cons, ih]; rfl
          · rw [if_neg h, if_neg h2, if_neg (by simp [h, h2]), ih]
    · intro i hi
      have e3 := gNotIn_row W (i : Int)
      by_cases h : (i : Int) ∈ ls m X
      · rw [if_pos h]
        rw [decide_eq_true h] at e3
        exact ⟨_, rfl, by simp [e3]⟩
      · rw [if_neg h]
        rw [decide_eq_false h] at e3
        obtain ⟨V, φ, a, I, hb⟩ := hB (i : Int) (freeC_mem.mpr ⟨by omega, by have := List.mem_range.mp hi; omega, h⟩)
        have e4 := m_is_harmless W I hb
        by_cases h2 : B (i : Int) = true
        · rw [if_pos h2]
          rw [h2] at e4
          exact ⟨_, rfl, by simp [e3, e4], rfl⟩
        · rw [if_neg h2]
          rw [Bool.not_eq_true] at h2
          rw [h2] at e4
          exact ⟨_, rfl, by simp [e3, e4]⟩
  simp only [g_harmless, b_harmless]
  simp [m_need_row W, okn, rngN (show 0 ≤ n by omega), hn5, lc]
/-- the law's own walks -/
theorem Ins.idx (I : Ins n r m X V φ c a) : gIdxT ((ls (m + 1) V).map .int) (.int c) = some (.int (a : Nat)) := by
  have hmem : c ∈ ls (m + 1) V := ls_mem.mpr ⟨a, by have := I.am; omega, I.new⟩
  have hi : (ls (m + 1) V).idxOf c = a := by
    have : (ls (m + 1) V) = ls a X ++ c :: ls (m - a) fun i => X (i + a) := I.row
    rw [this, List.idxOf_append, if_neg, List.idxOf_cons_self, ls_len, Nat.zero_add]
    intro h
    obtain ⟨i, hi, e⟩ := ls_mem.mp h
    have am := I.am
    have h1 := I.near i (by omega)
    have h2 := I.old i
    rw [h1, e, ← I.new] at h2
    unfold sk at h2
    rw [if_pos hi] at h2
    have := I.W.P.lt hi
    omega
  unfold gIdxT
  simp only [asInts_map, if_pos hmem, hi]
theorem Ins.cut (I : Ins n r m X V φ c a) (F : Nat → Int) : (ls (m + 1) F).take a ++ (ls (m + 1) F).drop (a + 1) = ls m fun i => F (φ i) := by
  obtain ⟨k, hk⟩ : ∃ k, m = a + k := ⟨m - a, by have := I.am; omega⟩
  have e1 : (ls (m + 1) F).take a = ls a F := by
    rw [hk, show a + k + 1 = a + (k + 1) by omega, ls_add, List.take_left' (by simp)]
  have e2 : (ls (m + 1) F).drop (a + 1) = ls k fun i => F (i + (a + 1)) := by
    rw [hk, show a + k + 1 = (a + 1) + k by omega, ls_add, List.drop_left' (by simp)]
  rw [e1, e2]
  have e3 : (ls m fun i => F (φ i)) = ls a (fun i => F (φ i)) ++ ls k fun i => F (φ (i + a)) := by rw [hk, ls_add]
  rw [e3]
  congr 1
  · exact ls_congr fun i hi => by rw [I.near i (by omega)]; unfold sk; rw [if_pos hi]
  · exact ls_congr fun i hi => by rw [I.near (i + a) (by omega)]; unfold sk; rw [if_neg (by omega), show i + a + 1 = i + (a + 1) by omega]
end
end G8

set_option Elab.async false
set_option linter.all false
set_option maxRecDepth 100000
set_option maxHeartbeats 2000000
namespace G8
open PySem PySem.Spec PyProof.Rows L2
section
variable {n r c : Int} {m a : Nat} {X V F G : Nat → Int}
/-! ### what is no row -/
def NoRow (n r : Int) (d : D) : Prop := g_is_good_row [rg n r, d] = some (.ok (.bool false))
theorem noRow_none : NoRow n r .none := by simp [NoRow, g_is_good_row, b_is_good_row]
theorem noRow_int (i : Int) : NoRow n r (.int i) := by simp [NoRow, g_is_good_row, b_is_good_row]
theorem noRow_str (i : Str) : NoRow n r (.str i) := by simp [NoRow, g_is_good_row, b_is_good_row]
theorem noRow_list {l : List D} (h : PyData.plainAll l = true) : NoRow n r (.list l) := by simp [NoRow, g_is_good_row, b_is_good_row, h]
theorem noRow_nil : NoRow n r (.tuple []) := by simp [NoRow, g_is_good_row, b_is_good_row, gEq]
theorem noRow_one {i : Int} (h : ¬ (0 ≤ i ∧ i < n)) : NoRow n r (.tuple [.int i]) := by
  have e := m_is_whole i 0 (n - 1)
  rw [decide_eq_false (by omega)] at e
  have l : lcD (tgN 2) dYes (dCall g_is_whole (aCons (dV 2) (aCons (dC (.int 0)) (aCons (d2 gSub (d2 gIx (dB 0) (dC (.int 0))) (dC (.int 1))) aNil)))) [.val (rg n r), .val (.tuple [.int i]), .un, .un] [.int i] (0, 0) = some (.ok [.bool false], (0, 0)) := by simp [lcD, e]
  have hs : SeqAt.shaped (.tuple [.int i]) = true := rfl
  simp [NoRow, g_is_good_row, b_is_good_row, gEq, hs, l, gAll, asBls]
theorem x_need_row (R : Rg n r) {d : D} (h : NoRow n r d) : g_need_row [rg n r, d] = some (.error "BadRow") := by
  unfold NoRow at h
  simp [g_need_row, b_need_row, m_need_ring R, h]
theorem x_harmless (R : Rg n r) {d : D} (h : NoRow n r d) : g_harmless [rg n r, d] = some (.error "BadRow") := by
  simp [g_harmless, b_harmless, x_need_row R h]
end
end G8

set_option Elab.async false
set_option linter.all false
set_option maxRecDepth 100000
set_option maxHeartbeats 2000000
namespace G8
open PySem PySem.Spec PyProof.Rows L2
section
variable {n r c : Int} {m a : Nat} {X Y Z F G : Nat → Int} {cs ds : List Int}
/-! ### gates shut -/
/-- how far at most, some gates shut -/
def hold (n : Int) (cs : List Int) (y g : Int) : Int := (cs.map fun c => (c - y) % n).foldl min g
theorem le_hold (y g x : Int) : x ≤ hold n cs y g ↔ x ≤ g ∧ ∀ c ∈ cs, x ≤ (c - y) % n := by
  unfold hold
  rw [foldl_min_le]
  simp
def sst (n r : Int) (cs : List Int) (Y : Nat → Int) (i : Nat) : Int := Y i + hold n cs (Y i) (min r (Y (i + 1) - Y i - 1))
theorem le_sst (x : Int) (i : Nat) : x ≤ sst n r cs Y i ↔ (x ≤ Y i + r ∧ x ≤ Y (i + 1) - 1) ∧ ∀ c ∈ cs, x ≤ Y i + (c - Y i) % n := by
  have h := le_hold (n := n) (cs := cs) (Y i) (min r (Y (i + 1) - Y i - 1)) (x - Y i)
  unfold sst
  constructor
  · intro hx
    obtain ⟨h1, h2⟩ := h.mp (by omega)
    exact ⟨by omega, fun c hc => by have := h2 c hc; omega⟩
  · rintro ⟨h1, h2⟩
    have := h.mpr ⟨by omega, fun c hc => by have := h2 c hc; omega⟩
    omega
theorem sst_nil : sst n r [] Y = stp r Y := funext fun i => by
  show Y i + min r (Y (i + 1) - Y i - 1) = min (Y i + r) (Y (i + 1) - 1)
  omega
theorem nx_mono (hn : 0 < n) {y z : Int} (h : y ≤ z) (c : Int) : y + (c - y) % n ≤ z + (c - z) % n := by
  have h1 := Int.emod_nonneg (c - z) (show n ≠ 0 by omega)
  have h2 : (c - y) % n = (z + (c - z) % n - y) % n := by
    have e : z + (c - z) % n - y = (c - z) % n + (z - y) := by omega
    rw [e, Int.emod_add_emod]
    congr 1
    omega
  rw [h2]
  have h3 : (z + (c - z) % n - y) % n ≤ z + (c - z) % n - y := by
    have := Int.mul_ediv_add_emod (z + (c - z) % n - y) n
    have h4 : 0 ≤ (z + (c - z) % n - y) / n := Int.ediv_nonneg (by omega) (by omega)
    have h5 := Int.mul_nonneg (show 0 ≤ n by omega) h4
    omega
  omega
/-- who is no farther, with no fewer shut, comes no farther -/
theorem sst_mono (hn : 0 < n) (h : ∀ i, Y i ≤ Z i) (hc : ∀ c ∈ ds, c ∈ cs) (i : Nat) : sst n r cs Y i ≤ sst n r ds Z i := by
  obtain ⟨⟨h1, h2⟩, h3⟩ := (le_sst (n := n) (r := r) (cs := cs) (Y := Y) (sst n r cs Y i) i).mp (Int.le_refl _)
  refine (le_sst _ i).mpr ⟨⟨by have := h i; omega, by have := h (i + 1); omega⟩, fun c hcd => ?_⟩
  have := h3 c (hc c hcd)
  have := nx_mono hn (h i) c
  omega
theorem sst_ge (hn : 0 < n) (hr : 0 ≤ r) (hi : ∀ i, Y i < Y (i + 1)) (i : Nat) : Y i ≤ sst n r cs Y i :=
  (le_sst _ i).mpr ⟨⟨by omega, by have := hi i; omega⟩, fun c _ => by have := Int.emod_nonneg (c - Y i) (show n ≠ 0 by omega); omega⟩
theorem sst_le : sst n r cs Y i ≤ Y i + r ∧ sst n r cs Y i ≤ Y (i + 1) - 1 := ((le_sst _ i).mp (Int.le_refl _)).1
theorem Per.sst (P : Per n m Y) (hn : 0 < n) (hr : 0 ≤ r) : Per n m (sst n r cs Y) := by
  refine ⟨fun i => ?_, fun i => ?_⟩
  · unfold G8.sst
    have h1 := P.per i
    have h2 := P.per (i + 1)
    rw [show i + 1 + m = i + m + 1 by omega] at h2
    have e : (cs.map fun c => (c - Y (i + m)) % n) = cs.map fun c => (c - Y i) % n := List.map_congr_left fun c _ => by
      rw [h1, show c - (Y i + n) = c - Y i - n by omega, Int.sub_emod_right]
    unfold hold
    rw [e, h1, h2, show Y (i + 1) + n - (Y i + n) - 1 = Y (i + 1) - Y i - 1 by omega]
    omega
  · have h1 := (sst_le (n := n) (r := r) (cs := cs) (Y := Y) (i := i)).2
    have h2 := sst_ge (n := n) (r := r) (cs := cs) (Y := Y) hn hr P.inc (i + 1)
    omega
/-- beat by beat -/
def swk (n r : Int) (C : Nat → List Int) (X : Nat → Int) : Nat → Nat → Int
  | 0 => X
  | t + 1 => sst n r (C t) (swk n r C X t)
theorem Per.swk {C : Nat → List Int} (P : Per n m X) (hn : 0 < n) (hr : 0 ≤ r) : ∀ t, Per n m (swk n r C X t)
  | 0 => P
  | t + 1 => (Per.swk P hn hr t).sst hn hr
theorem swk_mono {C D : Nat → List Int} (hn : 0 < n) (h : ∀ t c, c ∈ D t → c ∈ C t) : ∀ t i, swk n r C X t i ≤ swk n r D X t i
  | 0, i => Int.le_refl _
  | t + 1, i => sst_mono hn (swk_mono hn h t) (h t) i
theorem swk_nil : ∀ t, swk n r (fun _ => []) X t = wlk r X t
  | 0 => rfl
  | t + 1 => by show sst n r [] (swk n r _ X t) = stp r (wlk r X t); rw [swk_nil t, sst_nil]
theorem swk_bd {C : Nat → List Int} (W : Rw n r m X) : ∀ t i, X i ≤ swk n r C X t i ∧ swk n r C X t i ≤ X i + r * t
  | 0, i => by show X i ≤ X i ∧ X i ≤ X i + r * ((0 : Nat) : Int); simp
  | t + 1, i => by
    have h := swk_bd W (C := C) t i
    have h1 := sst_ge (n := n) (r := r) (cs := C t) W.n0 W.r0 (W.P.swk (r := r) (C := C) W.n0 W.r0 t).inc i
    have h2 := (sst_le (n := n) (r := r) (cs := C t) (Y := swk n r C X t) (i := i)).1
    show X i ≤ sst n r (C t) (swk n r C X t) i ∧ sst n r (C t) (swk n r C X t) i ≤ X i + r * ((t + 1 : Nat) : Int)
    rw [Int.natCast_add, Int.mul_add]
    omega
/-! ### the program's step, the law's step -/
theorem m_step (hn : 0 < n) (hm : 0 < m) (hM : m ≤ 1000) (hp : Y m = Y 0 + n) (hcl : cs.length ≤ 1000) : g_step [rg n r, lI (ls m Y), lI cs] = some (.ok (lI (ls m (sst n r cs Y)))) := by
  have e0 : atI ((ls m Y).map PyData.int) 0 = some (.int (Y 0)) := by exact_mod_cast atI_ls hm Y
  have en : ((ls m Y).map PyData.int).tail ++ [PyData.int (Y 0 + n)] = (ls m fun i => Y (i + 1)).map .int := by
    obtain ⟨k, rfl⟩ : ∃ k, m = k + 1 := ⟨m - 1, by omega⟩
    rw [ls_succ, List.map_cons, List.tail_cons, ls_snoc k fun i => Y (i + 1), List.map_append, ← hp]
    rfl
  have hM4 : m - 1 + 1 ≤ 100000 := by omega
  have hM5 : m ≤ 100000 := by omega
  have hc5 : cs.length ≤ 100000 := by omega
  have hc6 : 2 + cs.length ≤ 100000 := by omega
  have ct : gCut ((ls m Y).map PyData.int) (some 1) none = ((ls m Y).map PyData.int).drop 1 := cut_tail _
  have loop := forD_count (td := tgT [5, 6]) (body := b_step_l0) (h := fun i => .tuple [.int (Y i), .int (Y (i + 1))]) (δ := (0, 0)) (N := m)
    (fun q ρ => ∃ s5 s6 s7, ρ = [.val (rg n r), .val (lI (ls m Y)), .val (lI cs), .val (lI (ls m fun i => Y (i + 1))), .own ((ls q (sst n r cs Y)).map .int), s5, s6, s7, .un]) (fun q ρ hq ⟨s5, s6, s7, e⟩ => by
      subst e
      have hd : q < 100000 := by omega
      refine ⟨_, [.val (rg n r), .val (lI (ls m Y)), .val (lI cs), .val (lI (ls m fun i => Y (i + 1))), .own ((ls (q + 1) (sst n r cs Y)).map .int), .val (.int (Y q)), .val (.int (Y (q + 1))), .val (.int (hold n cs (Y q) (min r (Y (q + 1) - Y q - 1)))), .un], rfl, ?_, _, _, _, rfl⟩
      have lc : lcD (tgN 8) dYes (d2 gMod (d2 gSub (dV 8) (dV 5)) (d2 gIx (dB 0) (dC (.int 0)))) [.val (rg n r), .val (lI (ls m Y)), .val (lI cs), .val (lI (ls m fun i => Y (i + 1))), .own ((ls q (sst n r cs Y)).map .int), .val (.int (Y q)), .val (.int (Y (q + 1))), s7, .un] (cs.map .int) (0, 0) = some (.ok ((cs.map fun c => (c - Y q) % n).map .int), (0, 0)) := by
        rw [lcD_map (e := fun c => .int ((c - Y q) % n)), List.map_map]
        · rfl
        · intro c _
          have := gMod_int (i := c - Y q) hn
          exact ⟨_, rfl, rfl, by simp [this]⟩
      have mn : gMin [.list (.int r :: .int (Y (q + 1) - Y q - 1) :: cs.map (PyData.int ∘ fun c => (c - Y q) % n))] = some (.int (hold n cs (Y q) (min r (Y (q + 1) - Y q - 1)))) := by
        rw [← List.map_map]
        exact gMin_l (ns := r :: (Y (q + 1) - Y q - 1) :: cs.map fun c => (c - Y q) % n) (by simp)
      simp only [b_step_l0]
      refine (sq_nx (ρ' := [.val (rg n r), .val (lI (ls m Y)), .val (lI cs), .val (lI (ls m fun i => Y (i + 1))), .own ((ls q (sst n r cs Y)).map .int), .val (.int (Y q)), .val (.int (Y (q + 1))), .val (.int (hold n cs (Y q) (min r (Y (q + 1) - Y q - 1)))), .un]) (δ' := (0, 0)) (by
        simp [lc, hc5]
        rw [if_pos (by omega)]
        simp [mn])).trans ?_
      simp [hd]
      rw [ls_snoc, List.map_append]
      rfl) (ρ := [.val (rg n r), .val (lI (ls m Y)), .val (lI cs), .val (lI (ls m fun i => Y (i + 1))), .own [], .un, .un, .un, .un]) ⟨.un, .un, .un, rfl⟩
  obtain ⟨ρ2, el, s5, s6, s7, rfl⟩ := loop
  have z : zipD ((ls m Y).map .int) ((ls m fun i => Y (i + 1)).map .int) = _ := zipD_ls m _ _
  simp only [g_step, b_step]
  simp only [run, startR, List.length_cons, List.length_nil, Nat.reduceAdd, if_true, List.map_cons, List.map_nil, List.cons_append, List.nil_append, Nat.reduceSub, List.replicate_succ, List.replicate_zero]
  rw [sq_nx (ρ' := [.val (rg n r), .val (lI (ls m Y)), .val (lI cs), .val (lI (ls m fun i => Y (i + 1))), .own [], .un, .un, .un, .un]) (δ' := (0, 0)) (by simp [ct, e0, en, hM4])]
  rw [sq_nx (ρ' := [.val (rg n r), .val (lI (ls m Y)), .val (lI cs), .val (lI (ls m fun i => Y (i + 1))), .own ((ls m (sst n r cs Y)).map .int), s5, s6, s7, .un]) (δ' := (0, 0)) (by simp [z]; exact el)]
  simp
end
end G8

set_option Elab.async false
set_option linter.all false
set_option maxRecDepth 100000
set_option maxHeartbeats 2000000
namespace G8
open PySem PySem.Spec PyProof.Rows L2
section
variable {n r c : Int} {m a : Nat} {X Y Z F G : Nat → Int} {cs ds : List Int}
theorem gNotIn_lI (k : Int) (ns : List Int) : gNotIn (.int k) (lI ns) = some (.bool (!decide (k ∈ ns))) := by
  show (if _ then _ else _) = _
  rw [if_pos ⟨rfl, sh_intsL ns⟩]
  congr 3
  rw [Bool.eq_iff_iff]
  simp
theorem sst_stop (hn : 0 < n) (hc : ∀ c ∈ cs, 0 ≤ c ∧ c < n) (i : Nat) : ¬ (sst n r cs Y i - Y i < r ∧ sst n r cs Y i + 1 < Y (i + 1) ∧ sst n r cs Y i % n ∉ cs) := by
  rintro ⟨h1, h2, h3⟩
  have h := mt (le_sst (n := n) (r := r) (cs := cs) (Y := Y) (sst n r cs Y i + 1) i).mpr (by omega)
  refine h ⟨⟨by omega, by omega⟩, fun c hcc => ?_⟩
  have h4 := ((le_sst (n := n) (r := r) (cs := cs) (Y := Y) (sst n r cs Y i) i).mp (Int.le_refl _)).2 c hcc
  rcases Int.lt_or_eq_of_le h4 with h5 | h5
  · omega
  · refine absurd hcc ?_
    have hcn := hc c hcc
    rw [h5, Int.add_emod_emod, show Y i + (c - Y i) = c by omega, Int.emod_eq_of_lt hcn.1 hcn.2] at h3
    exact h3
theorem sst_go (hn : 0 < n) {i : Nat} {h : Int} (h0 : Y i ≤ h) (h1 : h < sst n r cs Y i) : h - Y i < r ∧ h + 1 < Y (i + 1) ∧ h % n ∉ cs := by
  obtain ⟨⟨h2, h3⟩, h4⟩ := (le_sst (n := n) (r := r) (cs := cs) (Y := Y) (h + 1) i).mp (by omega)
  refine ⟨by omega, by omega, fun hcc => ?_⟩
  have h5 := h4 _ hcc
  rw [Int.emod_sub_emod] at h5
  have h6 : (h - Y i) % n ≤ h - Y i := by
    have := Int.mul_ediv_add_emod (h - Y i) n
    have h7 : 0 ≤ (h - Y i) / n := Int.ediv_nonneg (by omega) (by omega)
    have h8 := Int.mul_nonneg (show 0 ≤ n by omega) h7
    omega
  omega
theorem m_law_shut_step (hn : 0 < n) (hm : 0 < m) (hM : m ≤ 1000) (hr0 : 0 ≤ r) (hr : r ≤ 100) (hp : Y m = Y 0 + n) (hi : ∀ i, Y i < Y (i + 1)) (hc : ∀ c ∈ cs, 0 ≤ c ∧ c < n) : g__law_shut_step [rg n r, lI (ls m Y), lI cs] = some (.ok (lI (ls m (sst n r cs Y)))) := by
  have wl : ∀ (k fuel : Nat) (here : Int) (i : Nat) (es : List D) (v : Sl), Y i ≤ here → here + k = sst n r cs Y i → k < fuel →
      sWhile fuel (dAnd (d2 gLt (d2 gSub (dV 7) (dV 5)) (d2 gIx (dB 0) (dC (.int 1)))) (dAnd (d2 gLt (d2 gAdd (dV 7) (dC (.int 1))) (dV 6)) (d2 gNotIn (d2 gMod (dV 7) (d2 gIx (dB 0) (dC (.int 0)))) (dV 2)))) b__law_shut_step_l0
        [.val (rg n r), .val (lI (ls m Y)), .val (lI cs), .own es, v, .val (.int (Y i)), .val (.int (Y (i + 1))), .val (.int here)] (0, 0)
        = some (.nx [.val (rg n r), .val (lI (ls m Y)), .val (lI cs), .own es, v, .val (.int (Y i)), .val (.int (Y (i + 1))), .val (.int (sst n r cs Y i))], (0, 0)) := by
    intro k
    induction k with
    | zero =>
      intro fuel here i es v hh e hf
      obtain ⟨f, rfl⟩ : ∃ f, fuel = f + 1 := ⟨fuel - 1, by omega⟩
      have e' : here = sst n r cs Y i := by omega
      subst e'
      have st := sst_stop (r := r) (Y := Y) hn hc i
      have gm := gMod_int (i := sst n r cs Y i) hn
      by_cases c1 : sst n r cs Y i - Y i < r
      · by_cases c2 : sst n r cs Y i + 1 < Y (i + 1)
        · have c3 : sst n r cs Y i % n ∈ cs := Classical.byContradiction fun z => st ⟨c1, c2, z⟩
          simp [sWhile, c1, c2, gm, gNotIn_lI, c3]
        · simp [sWhile, c1, c2]
      · simp [sWhile, c1]
    | succ k ih =>
      intro fuel here i es v hh e hf
      obtain ⟨f, rfl⟩ : ∃ f, fuel = f + 1 := ⟨fuel - 1, by omega⟩
      obtain ⟨c1, c2, c3⟩ := sst_go (n := n) (r := r) (cs := cs) (Y := Y) hn hh (by omega)
      have gm := gMod_int (i := here) hn
      have := ih f (here + 1) i es v (by omega) (by omega) (by omega)
      simp [sWhile, c1, c2, gm, gNotIn_lI, c3, b__law_shut_step_l0] at this ⊢
      exact this
  have loop := forD_count (td := tgT [4, 5]) (body := b__law_shut_step_l1) (h := fun i => .tuple [.int (i : Nat), .int (Y i)]) (δ := (0, 0)) (N := m)
    (fun q ρ => ∃ s4 s5 s6 s7, ρ = [.val (rg n r), .val (lI (ls m Y)), .val (lI cs), .own ((ls q (sst n r cs Y)).map .int), s4, s5, s6, s7]) (fun x ρ hx ⟨s4, s5, s6, s7, e⟩ => by
      subst e
      have hd : x < 100000 := by omega
      refine ⟨_, [.val (rg n r), .val (lI (ls m Y)), .val (lI cs), .own ((ls (x + 1) (sst n r cs Y)).map .int), .val (.int (x : Nat)), .val (.int (Y x)), .val (.int (Y (x + 1))), .val (.int (sst n r cs Y x))], rfl, ?_, _, _, _, _, rfl⟩
      have ge := sst_ge (n := n) (r := r) (cs := cs) (Y := Y) hn hr0 hi x
      have le := (sst_le (n := n) (r := r) (cs := cs) (Y := Y) (i := x)).1
      have hw := wl (sst n r cs Y x - Y x).toNat 1000 (Y x) x ((ls x (sst n r cs Y)).map .int) (.val (.int (x : Nat))) (Int.le_refl _) (by omega) (by omega)
      have e0 : atI ((ls m Y).map PyData.int) 0 = some (.int (Y 0)) := by exact_mod_cast atI_ls hm Y
      simp only [b__law_shut_step_l1]
      refine (sq_nx (ρ' := [.val (rg n r), .val (lI (ls m Y)), .val (lI cs), .own ((ls x (sst n r cs Y)).map .int), .val (.int (x : Nat)), .val (.int (Y x)), .val (.int (Y (x + 1))), s7]) (δ' := (0, 0)) (by
        by_cases c : x + 1 < m
        · have c' : (x : Int) + 1 < m := by omega
          have ea : atI ((ls m Y).map PyData.int) ((x : Int) + 1) = some (.int (Y (x + 1))) := by exact_mod_cast atI_ls c Y
          simp [c', ea]
        · have c' : ¬ (x : Int) + 1 < m := by omega
          have ea : Y 0 + n = Y (x + 1) := by rw [← hp, show m = x + 1 by omega]
          simp [c', e0, ea])).trans ?_
      refine (sq_nx (ρ' := [.val (rg n r), .val (lI (ls m Y)), .val (lI cs), .own ((ls x (sst n r cs Y)).map .int), .val (.int (x : Nat)), .val (.int (Y x)), .val (.int (Y (x + 1))), .val (.int (Y x))]) (δ' := (0, 0)) (by simp)).trans ?_
      refine (sq_nx hw).trans ?_
      simp [hd]
      rw [ls_snoc, List.map_append]
      rfl) (ρ := [.val (rg n r), .val (lI (ls m Y)), .val (lI cs), .own [], .un, .un, .un, .un]) ⟨.un, .un, .un, .un, rfl⟩
  obtain ⟨ρ2, el, s4, s5, s6, s7, rfl⟩ := loop
  simp only [g__law_shut_step, b__law_shut_step]
  simp [enumD_ls, el]
/-! ### the walks -/
/-- which gates are shut at a beat -/
def shC (ps : List (Int × Int)) (t : Nat) : List Int := ps.filterMap fun p => if p.2 = (t : Int) then some p.1 else none
theorem shC_mem {ps : List (Int × Int)} {t : Nat} {c : Int} : c ∈ shC ps t ↔ (c, (t : Int)) ∈ ps := by
  unfold shC
  rw [List.mem_filterMap]
  constructor
  · rintro ⟨p, hp, h⟩
    by_cases e : p.2 = (t : Int)
    · rw [if_pos e] at h
      obtain ⟨p1, p2⟩ := p
      simp only [Option.some.injEq] at h
      simp only at e
      subst h e
      exact hp
    · rw [if_neg e] at h
      cases h
  · intro h
    exact ⟨_, h, if_pos rfl⟩
theorem shC_len {ps : List (Int × Int)} {t : Nat} : (shC ps t).length ≤ ps.length := List.length_filterMap_le _ _
theorem shC_fm {ps : List (Int × Int)} {t : Nat} : (ps.filterMap fun p => if p.2 = (t : Int) then some (PyData.int p.1) else none) = (shC ps t).map .int := by
  unfold shC
  rw [List.map_filterMap]
  congr 1
  funext p
  split <;> rfl
theorem swk_nil' : ∀ t, swk n r (shC []) X t = wlk r X t := swk_nil

theorem m_way_gone (W : Rw n r m X) {ps : List (Int × Int)} (hps : ps.length ≤ 1000) (hok : ∀ p ∈ ps, 0 ≤ p.1 ∧ p.1 < n) {t : Nat} (ht : t ≤ 1000) : g_way_gone [rg n r, tI (ls m X), .list (ps.map pD), .int t] = some (.ok (tI (ls m fun i => swk n r (shC ps) X t i - X i))) := by
  have hM := W.m24
  have hn := W.n0
  have hr0 := W.r0
  have hr := W.R.r1
  have hM5 : m ≤ 100000 := by omega
  have hp5 : ps.length ≤ 100000 := by omega
  have okt : okR (t : Int) = true := okR_s (by omega) (by omega)
  have step : ∀ s, g_step [rg n r, lI (ls m (swk n r (shC ps) X s)), lI (shC ps s)] = some (.ok (lI (ls m (swk n r (shC ps) X (s + 1))))) := fun s => by
    have P := W.P.swk (r := r) (C := shC ps) hn hr0 s
    have hpm : swk n r (shC ps) X s m = swk n r (shC ps) X s 0 + n := by have := P.per 0; rwa [show 0 + m = m by omega] at this
    have hlen := shC_len (ps := ps) (t := s)
    exact m_step hn W.m0 (by omega) hpm (by omega)
  have loop := forD_count (td := tgN 5) (body := b_way_gone_l0) (h := fun i => .int (i : Int)) (δ := (0, 0)) (N := t)
    (fun q ρ => ∃ s5, ρ = [.val (rg n r), .val (tI (ls m X)), .val (.list (ps.map pD)), .val (.int t), .val (lI (ls m (swk n r (shC ps) X q))), s5, .un, .un, .un]) (fun q ρ hq ⟨s5, e⟩ => by
      subst e
      refine ⟨_, [.val (rg n r), .val (tI (ls m X)), .val (.list (ps.map pD)), .val (.int t), .val (lI (ls m (swk n r (shC ps) X (q + 1)))), .val (.int q), .un, .un, .un], rfl, ?_, _, rfl⟩
      have lc : lcD (tgT [6, 7]) (d2 gEq (dV 7) (dV 5)) (dV 6) [.val (rg n r), .val (tI (ls m X)), .val (.list (ps.map pD)), .val (.int t), .val (lI (ls m (swk n r (shC ps) X q))), .val (.int q), .un, .un, .un] (ps.map pD) (0, 0) = some (.ok ((shC ps q).map .int), (0, 0)) := by
        rw [lcD_filterMap (e := fun p => if p.2 = (q : Int) then some (PyData.int p.1) else none), shC_fm]
        intro p _
        by_cases h : p.2 = (q : Int)
        · rw [if_pos h]
          exact ⟨_, rfl, by simp [h], rfl⟩
        · rw [if_neg h]
          exact ⟨_, rfl, by simp [h]⟩
      simp only [b_way_gone_l0]
      simp [lc, hp5, step]) (ρ := [.val (rg n r), .val (tI (ls m X)), .val (.list (ps.map pD)), .val (.int t), .val (lI (ls m X)), .un, .un, .un, .un]) ⟨.un, rfl⟩
  obtain ⟨ρ2, el, s5, rfl⟩ := loop
  have z : zipD ((ls m (swk n r (shC ps) X t)).map .int) ((ls m X).map .int) = _ := zipD_ls m _ _
  simp only [g_way_gone, b_way_gone]
  simp only [run, startR, List.length_cons, List.length_nil, Nat.reduceAdd, if_true, List.map_cons, List.map_nil, List.cons_append, List.nil_append, Nat.reduceSub, List.replicate_succ, List.replicate_zero]
  rw [sq_nx (ρ' := [.val (rg n r), .val (tI (ls m X)), .val (.list (ps.map pD)), .val (.int t), .val (lI (ls m X)), .un, .un, .un, .un]) (δ' := (0, 0)) (by simp [hM5])]
  rw [sq_nx (ρ' := [.val (rg n r), .val (tI (ls m X)), .val (.list (ps.map pD)), .val (.int t), .val (lI (ls m (swk n r (shC ps) X t))), s5, .un, .un, .un]) (δ' := (0, 0)) (by simp [okt, rng0]; exact el)]
  simp [z, hM5]
  rw [lcD_map (e := fun i => .int (swk n r (shC ps) X t i - X i)), ls_int]
  exact fun i _ => ⟨_, rfl, rfl, by simp⟩

theorem m_law_shut_walk (W : Rw n r m X) {ps : List (Int × Int)} (hps : ps.length ≤ 1000) (hok : ∀ p ∈ ps, 0 ≤ p.1 ∧ p.1 < n) {t : Nat} (ht : t ≤ 1000) : g__law_shut_walk [rg n r, tI (ls m X), .list (ps.map pD), .int t] = some (.ok (tI (ls m fun i => swk n r (shC ps) X t i - X i))) := by
  have hM := W.m24
  have hn := W.n0
  have hr0 := W.r0
  have hr := W.R.r1
  have hM5 : m ≤ 100000 := by omega
  have hp5 : ps.length ≤ 100000 := by omega
  have okt : okR (t : Int) = true := okR_s (by omega) (by omega)
  have step : ∀ s, g__law_shut_step [rg n r, lI (ls m (swk n r (shC ps) X s)), lI (shC ps s)] = some (.ok (lI (ls m (swk n r (shC ps) X (s + 1))))) := fun s => by
    have P := W.P.swk (r := r) (C := shC ps) hn hr0 s
    have hpm : swk n r (shC ps) X s m = swk n r (shC ps) X s 0 + n := by have := P.per 0; rwa [show 0 + m = m by omega] at this
    have hlen := shC_len (ps := ps) (t := s)
    exact m_law_shut_step hn W.m0 (by omega) hr0 (by omega) hpm P.inc fun c hc => hok _ (shC_mem.mp hc)
  have loop := forD_count (td := tgN 5) (body := b__law_shut_walk_l0) (h := fun i => .int (i : Int)) (δ := (0, 0)) (N := t)
    (fun q ρ => ∃ s5, ρ = [.val (rg n r), .val (tI (ls m X)), .val (.list (ps.map pD)), .val (.int t), .val (lI (ls m (swk n r (shC ps) X q))), s5, .un, .un, .un]) (fun q ρ hq ⟨s5, e⟩ => by
      subst e
      refine ⟨_, [.val (rg n r), .val (tI (ls m X)), .val (.list (ps.map pD)), .val (.int t), .val (lI (ls m (swk n r (shC ps) X (q + 1)))), .val (.int q), .un, .un, .un], rfl, ?_, _, rfl⟩
      have lc : lcD (tgT [6, 7]) (d2 gEq (dV 7) (dV 5)) (dV 6) [.val (rg n r), .val (tI (ls m X)), .val (.list (ps.map pD)), .val (.int t), .val (lI (ls m (swk n r (shC ps) X q))), .val (.int q), .un, .un, .un] (ps.map pD) (0, 0) = some (.ok ((shC ps q).map .int), (0, 0)) := by
        rw [lcD_filterMap (e := fun p => if p.2 = (q : Int) then some (PyData.int p.1) else none), shC_fm]
        intro p _
        by_cases h : p.2 = (q : Int)
        · rw [if_pos h]
          exact ⟨_, rfl, by simp [h], rfl⟩
        · rw [if_neg h]
          exact ⟨_, rfl, by simp [h]⟩
      simp only [b__law_shut_walk_l0]
      simp [lc, hp5, step]) (ρ := [.val (rg n r), .val (tI (ls m X)), .val (.list (ps.map pD)), .val (.int t), .val (lI (ls m X)), .un, .un, .un, .un]) ⟨.un, rfl⟩
  obtain ⟨ρ2, el, s5, rfl⟩ := loop
  have z : zipD ((ls m (swk n r (shC ps) X t)).map .int) ((ls m X).map .int) = _ := zipD_ls m _ _
  simp only [g__law_shut_walk, b__law_shut_walk]
  simp only [run, startR, List.length_cons, List.length_nil, Nat.reduceAdd, if_true, List.map_cons, List.map_nil, List.cons_append, List.nil_append, Nat.reduceSub, List.replicate_succ, List.replicate_zero]
  rw [sq_nx (ρ' := [.val (rg n r), .val (tI (ls m X)), .val (.list (ps.map pD)), .val (.int t), .val (lI (ls m X)), .un, .un, .un, .un]) (δ' := (0, 0)) (by simp [hM5])]
  rw [sq_nx (ρ' := [.val (rg n r), .val (tI (ls m X)), .val (.list (ps.map pD)), .val (.int t), .val (lI (ls m (swk n r (shC ps) X t))), s5, .un, .un, .un]) (δ' := (0, 0)) (by simp [okt, rng0]; exact el)]
  simp [z, hM5]
  rw [lcD_map (e := fun i => .int (swk n r (shC ps) X t i - X i)), ls_int]
  exact fun i _ => ⟨_, rfl, rfl, by simp⟩
end
end G8

set_option Elab.async false
set_option linter.all false
set_option maxRecDepth 100000
set_option maxHeartbeats 2000000
namespace G8
open PySem PySem.Spec PyProof.Rows L2
section
variable {n r c : Int} {m a : Nat} {X Y Z F G : Nat → Int} {ps : List (Int × Int)}
instance (p q : Int × Int) : Decidable (plt p q) := inferInstanceAs (Decidable (_ ∨ _))
theorem gLt_pD (p q : Int × Int) : gLt (pD p) (pD q) = some (.bool (decide (plt p q))) := by
  show some (PyData.bool (HT.lexLt [p.1, p.2] [q.1, q.2])) = _
  congr 2
  simp only [HT.lexLt]
  by_cases h : p.1 = q.1
  · rw [if_pos h]
    by_cases h2 : p.2 = q.2
    · rw [if_pos h2, decide_eq_false (by unfold plt; omega)]
    · rw [if_neg h2]
      exact decide_eq_decide.mpr (by unfold plt; omega)
  · rw [if_neg h]
    exact decide_eq_decide.mpr (by unfold plt; omega)
/-- good shuts -/
structure Sh (n : Int) (ps : List (Int × Int)) : Prop where
  few : ps.length ≤ 6
  ok : ∀ p ∈ ps, (0 ≤ p.1 ∧ p.1 < n) ∧ 0 ≤ p.2 ∧ p.2 ≤ 59
  up : ps.Pairwise plt
theorem Sh.nil : Sh n [] := ⟨by simp, (fun _ z => nomatch z), List.Pairwise.nil⟩
theorem Sh.one {p : Int × Int} (h : (0 ≤ p.1 ∧ p.1 < n) ∧ 0 ≤ p.2 ∧ p.2 ≤ 59) : Sh n [p] := ⟨by simp, fun q hq => by rw [List.mem_singleton.mp hq]; exact h, List.pairwise_singleton _ _⟩
theorem Sh.take (S : Sh n ps) (k : Nat) : Sh n (ps.take k) := ⟨by rw [List.length_take]; have := S.few; omega, fun p hp => S.ok p (List.mem_of_mem_take hp), S.up.sublist (List.take_sublist _ _)⟩
theorem plain_pairs (ps : List (Int × Int)) : PyData.plainAll (ps.map pD) = true := by
  induction ps with
  | nil => rfl
  | cons p ps ih => simp [ih]
theorem m_is_shut {p : Int × Int} (h : (0 ≤ p.1 ∧ p.1 < n) ∧ 0 ≤ p.2 ∧ p.2 ≤ 59) : g_is_shut [rg n r, pD p] = some (.ok (.bool true)) := by
  have w1 := m_is_whole p.1 0 (n - 1)
  have w2 := m_is_whole p.2 0 59
  rw [decide_eq_true (by omega)] at w1 w2
  simp [g_is_shut, b_is_shut, w1, w2]
theorem gAll_true {α : Type} (l : List α) : gAll [.list (l.map fun _ => .bool true)] = some (.bool true) := by
  show (asBls _).map _ = _
  have : (l.map fun _ => PyData.bool true) = (l.map fun _ => true).map .bool := by rw [List.map_map]; rfl
  rw [this, asBls_map, Option.map_some]
  congr 2
  simp
theorem zip_up : ∀ {ps : List (Int × Int)}, ps.Pairwise plt → ∀ q ∈ ps.zip ps.tail, plt q.1 q.2
  | [], _, q, h => by simp at h
  | [p], _, q, h => by simp at h
  | p :: p2 :: ps, hp, q, h => by
    rw [List.pairwise_cons] at hp
    simp only [List.tail_cons, List.zip_cons_cons, List.mem_cons] at h
    rcases h with rfl | h
    · exact hp.1 p2 (List.mem_cons_self ..)
    · exact zip_up hp.2 q (by simpa using h)
theorem m_need_shuts (W : Rw n r m X) (S : Sh n ps) : g_need_shuts [rg n r, tI (ls m X), .list (ps.map pD)] = some (.ok .none) := by
  have h6 := S.few
  have hl : ¬ (6 : Int) < ps.length := by omega
  have h5 : ps.length ≤ 100000 := by omega
  have pl := plain_pairs ps
  have lc1 : ∀ s4 : Sl, lcD (tgN 3) dYes (dCall g_is_shut (aCons (dV 0) (aCons (dV 3) aNil))) [.val (rg n r), .val (tI (ls m X)), .val (.list (ps.map pD)), .un, s4] (ps.map pD) (0, 0) = some (.ok (ps.map fun _ => .bool true), (0, 0)) := fun s4 => by
    rw [lcD_map (e := fun _ => .bool true)]
    intro p hp
    have := m_is_shut (r := r) (S.ok p hp)
    exact ⟨_, rfl, rfl, by simp [this]⟩
  have zz : zipD (ps.map pD) (gCut (ps.map pD) (some 1) none) = (ps.zip ps.tail).map fun q => .tuple [pD q.1, pD q.2] := by
    rw [cut_tail, List.drop_one, ← List.map_tail]
    unfold zipD
    rw [List.zip_map, List.map_map]
    rfl
  have lc2 : lcD (tgT [3, 4]) dYes (d2 gLt (dV 3) (dV 4)) [.val (rg n r), .val (tI (ls m X)), .val (.list (ps.map pD)), .un, .un] ((ps.zip ps.tail).map fun q => .tuple [pD q.1, pD q.2]) (0, 0) = some (.ok ((ps.zip ps.tail).map fun _ => .bool true), (0, 0)) := by
    rw [lcD_map (e := fun _ => .bool true)]
    intro q hq
    have := gLt_pD q.1 q.2
    rw [decide_eq_true (zip_up S.up q hq)] at this
    exact ⟨_, rfl, rfl, by simp [this]⟩
  have hzl : (ps.zip ps.tail).length ≤ 100000 := by rw [List.length_zip]; omega
  have hzl2 : min ps.length (ps.length - 1) ≤ 100000 := by omega
  have hzl3 : ps.length ≤ 100001 := by omega
  have a1 := gAll_true ps
  have a2 := gAll_true (ps.zip ps.tail)
  simp only [g_need_shuts, b_need_shuts]
  simp only [run, startR, List.length_cons, List.length_nil, Nat.reduceAdd, if_true, List.map_cons, List.map_nil, List.cons_append, List.nil_append, Nat.reduceSub, List.replicate_succ, List.replicate_zero]
  rw [sq_nx (ρ' := [.val (rg n r), .val (tI (ls m X)), .val (.list (ps.map pD)), .un, .un]) (δ' := (0, 0)) (by simp [m_need_row W])]
  rw [sq_no (by simp [pl, hl, h5, lc1, a1])]
  rw [sq_no (by simp [zz, hzl2, hzl3, lc2, a2])]
  rfl
theorem m_need_late {t : Nat} (ht : t ≤ 60) : g_need_late [.int t] = some (.ok .none) := by
  have w := m_is_whole (t : Int) 0 60
  rw [decide_eq_true (by omega)] at w
  simp [g_need_late, b_need_late, w]
theorem x_need_late {d : D} (h : NoNum d 0 60) : g_need_late [d] = some (.error "BadNumber") := by
  unfold NoNum at h
  simp [g_need_late, b_need_late, h]
theorem m_gone_shut (W : Rw n r m X) (S : Sh n ps) {t : Nat} (ht : t ≤ 60) : g_gone_shut [rg n r, tI (ls m X), .list (ps.map pD), .int t] = some (.ok (tI (ls m fun i => swk n r (shC ps) X t i - X i))) := by
  have := m_way_gone W (ps := ps) (by have := S.few; omega) (fun p hp => (S.ok p hp).1) (t := t) (by omega)
  simp [g_gone_shut, b_gone_shut, m_need_shuts W S, m_need_late ht, this]
theorem m_after_shut (W : Rw n r m X) (S : Sh n ps) {t : Nat} (ht : t ≤ 60) : g_after_shut [rg n r, tI (ls m X), .list (ps.map pD), .int t] = some (.ok (tI (isort (ls m fun i => swk n r (shC ps) X t i % n)))) := by
  have := m_way_gone W (ps := ps) (by have := S.few; omega) (fun p hp => (S.ok p hp).1) (t := t) (by omega)
  have mv := m_moved (r := r) (Y := X) (Z := fun i => swk n r (shC ps) X t i - X i) W.n0 (show m ≤ 1000 by have := W.m24; omega)
  have e : (ls m fun i => (X i + (swk n r (shC ps) X t i - X i)) % n) = ls m fun i => swk n r (shC ps) X t i % n := ls_congr fun i _ => by congr 1; omega
  rw [e] at mv
  simp [g_after_shut, b_after_shut, m_need_shuts W S, m_need_late ht, this, mv]
theorem m_all_lost (W : Rw n r m X) (S : Sh n ps) {t : Nat} (ht : t ≤ 60) : g_all_lost [rg n r, tI (ls m X), .list (ps.map pD), .int t] = some (.ok (tI (ls m fun i => wlk r X t i - swk n r (shC ps) X t i))) := by
  have h1 := m_way_gone W (ps := ps) (by have := S.few; omega) (fun p hp => (S.ok p hp).1) (t := t) (by omega)
  have h0 := m_way_gone W (ps := []) (by simp) (fun p hp => nomatch hp) (t := t) (by omega)
  rw [swk_nil'] at h0
  have hM5 : m ≤ 100000 := by have := W.m24; omega
  have z : zipD ((ls m fun i => wlk r X t i - X i).map .int) ((ls m fun i => swk n r (shC ps) X t i - X i).map .int) = _ := zipD_ls m _ _
  simp only [g_all_lost, b_all_lost]
  simp at h0
  simp [h0, h1, z, hM5]
  rw [lcD_map (e := fun i => .int (wlk r X t i - swk n r (shC ps) X t i)), ls_int]
  exact fun i _ => ⟨_, rfl, rfl, by simp; omega⟩
theorem m_lost (W : Rw n r m X) (S : Sh n ps) {t : Nat} (ht : t ≤ 60) : g_lost [rg n r, tI (ls m X), .list (ps.map pD), .int t] = some (.ok (tI (ls m fun i => wlk r X t i - swk n r (shC ps) X t i))) := by
  simp [g_lost, b_lost, m_need_shuts W S, m_need_late ht, m_all_lost W S ht]
/-- one shut at c -/
def los (n r : Int) (m : Nat) (X : Nat → Int) (t : Nat) (c : Int) (j : Nat) : Int := (ls m fun i => wlk r X t i - swk n r (shC [(c, (j : Int))]) X t i).sum
theorem gMin_first {N : Nat} (hN : 0 < N) (F : Nat → Int) : ∃ i0, i0 < N ∧ gMin [.list ((List.range N).map fun i => .tuple [.int (F i), .int (i : Nat)])] = some (.tuple [.int (F i0), .int (i0 : Nat)]) ∧ (∀ j, j < N → F i0 ≤ F j) ∧ ∀ j, j < i0 → F j ≠ F i0 := by
  obtain ⟨p, hp, e, h⟩ := gMin_pairs (ps := (List.range N).map fun i => (F i, (i : Int))) (by simp; omega)
  rw [List.map_map] at e
  obtain ⟨i0, hi, rfl⟩ := List.mem_map.mp hp
  have hi := List.mem_range.mp hi
  have h' : ∀ j, j < N → ¬ plt (F j, (j : Int)) (F i0, (i0 : Int)) := fun j hj => h _ (List.mem_map.mpr ⟨j, List.mem_range.mpr hj, rfl⟩)
  refine ⟨i0, hi, e, fun j hj => ?_, fun j hj e => ?_⟩
  · have := h' j hj
    unfold plt at this
    simp only at this
    omega
  · have := h' j (by omega)
    unfold plt at this
    simp only at this
    omega
theorem m_best_shut (W : Rw n r m X) (h0 : 0 ≤ c) (h1 : c < n) {t : Nat} (ht0 : 0 < t) (ht : t ≤ 60) : ∃ i0, i0 < t ∧ g_best_shut [rg n r, tI (ls m X), .int c, .int t] = some (.ok (.tuple [.int (los n r m X t c i0), .int (i0 : Nat)])) ∧ (∀ j, j < t → los n r m X t c i0 ≤ los n r m X t c j) ∧ ∀ j, j < i0 → los n r m X t c j ≠ los n r m X t c i0 := by
  obtain ⟨i0, hi, e, h2, h3⟩ := gMin_first ht0 (los n r m X t c)
  refine ⟨i0, hi, ?_, h2, h3⟩
  have w := m_is_whole c 0 (n - 1)
  rw [decide_eq_true (by omega)] at w
  have okt : okR (t : Int) = true := okR_s (by omega) (by omega)
  have ht5 : t ≤ 100000 := by omega
  have htn : ¬ t = 0 := by omega
  have lc : lcD (tgN 4) dYes (dTup (aCons (dCB gSum (aCons (dCall g_all_lost (aCons (dV 0) (aCons (dV 1) (aCons (dL (fLst (aCons (dTup (aCons (dV 2) (aCons (dV 4) aNil))) aNil))) (aCons (dV 3) aNil))))) aNil)) (aCons (dV 4) aNil))) [.val (rg n r), .val (tI (ls m X)), .val (.int c), .val (.int t), .un] ((List.range t).map fun (i : Nat) => .int (i : Int)) (0, 0) = some (.ok ((List.range t).map fun i => .tuple [.int (los n r m X t c i), .int (i : Nat)]), (0, 0)) := by
    rw [lcD_map (e := fun (i : Nat) => .tuple [.int (los n r m X t c i), .int (i : Nat)])]
    intro j hj
    have hj := List.mem_range.mp hj
    have al := m_all_lost W (Sh.one (n := n) (p := (c, (j : Int))) ⟨⟨h0, h1⟩, by simp only; omega, by simp only; omega⟩) (t := t) ht
    have gs := gSum_t (ls m fun i => wlk r X t i - swk n r (shC [(c, (j : Int))]) X t i)
    simp only [List.map_cons, List.map_nil] at al
    exact ⟨_, rfl, rfl, by simp [al, gs, los]⟩
  simp only [g_best_shut, b_best_shut]
  simp [m_need_row W, w, m_need_late ht, htn, okt, rng0, ht5, lc, e]
/-! ### refusals -/
theorem x_best_shutC (W : Rw n r m X) {d e : D} (h : NoNum d 0 (n - 1)) : g_best_shut [rg n r, tI (ls m X), d, e] = some (.error "BadCell") := by
  unfold NoNum at h
  simp [g_best_shut, b_best_shut, m_need_row W, h]
theorem x_best_shutM (W : Rw n r m X) (h0 : 0 ≤ c) (h1 : c < n) {e : D} (h : NoNum e 0 60) : g_best_shut [rg n r, tI (ls m X), .int c, e] = some (.error "BadNumber") := by
  have w := m_is_whole c 0 (n - 1)
  rw [decide_eq_true (by omega)] at w
  simp [g_best_shut, b_best_shut, m_need_row W, w, x_need_late h]
theorem x_best_shutN (W : Rw n r m X) (h0 : 0 ≤ c) (h1 : c < n) : g_best_shut [rg n r, tI (ls m X), .int c, .int 0] = some (.error "Nothing") := by
  have w := m_is_whole c 0 (n - 1)
  rw [decide_eq_true (by omega)] at w
  have l := m_need_late (t := 0) (by omega)
  simp at l
  simp [g_best_shut, b_best_shut, m_need_row W, w, l]
theorem x_shutsM (W : Rw n r m X) (S : Sh n ps) {e : D} (h : NoNum e 0 60) : g_gone_shut [rg n r, tI (ls m X), .list (ps.map pD), e] = some (.error "BadNumber") ∧ g_after_shut [rg n r, tI (ls m X), .list (ps.map pD), e] = some (.error "BadNumber") ∧ g_lost [rg n r, tI (ls m X), .list (ps.map pD), e] = some (.error "BadNumber") := by
  simp [g_gone_shut, b_gone_shut, g_after_shut, b_after_shut, g_lost, b_lost, m_need_shuts W S, x_need_late h]
/-- what are no shuts -/
def NoSh (n r : Int) (m : Nat) (X : Nat → Int) (d : D) : Prop := g_need_shuts [rg n r, tI (ls m X), d] = some (.error "BadShuts")
theorem x_shuts {d e : D} (h : NoSh n r m X d) : g_gone_shut [rg n r, tI (ls m X), d, e] = some (.error "BadShuts") ∧ g_after_shut [rg n r, tI (ls m X), d, e] = some (.error "BadShuts") ∧ g_lost [rg n r, tI (ls m X), d, e] = some (.error "BadShuts") := by
  unfold NoSh at h
  simp [g_gone_shut, b_gone_shut, g_after_shut, b_after_shut, g_lost, b_lost, h]
/-- a list with something that is no shut -/
theorem noSh_one (W : Rw n r m X) {d : D} (hp : PyData.plain d = true) (h : g_is_shut [rg n r, d] = some (.ok (.bool false))) : NoSh n r m X (.list [d]) := by
  have lc : lcD (tgN 3) dYes (dCall g_is_shut (aCons (dV 0) (aCons (dV 3) aNil))) [.val (rg n r), .val (tI (ls m X)), .val (.list [d]), .un, .un] [d] (0, 0) = some (.ok [.bool false], (0, 0)) := by simp [lcD, h]
  simp [NoSh, g_need_shuts, b_need_shuts, m_need_row W, hp, lc, gAll, asBls]
theorem noSh_two (W : Rw n r m X) {p q : Int × Int} (hp : (0 ≤ p.1 ∧ p.1 < n) ∧ 0 ≤ p.2 ∧ p.2 ≤ 59) (hq : (0 ≤ q.1 ∧ q.1 < n) ∧ 0 ≤ q.2 ∧ q.2 ≤ 59) (h : ¬ plt p q) : NoSh n r m X (.list [pD p, pD q]) := by
  have h1 := m_is_shut (r := r) hp
  have h2 := m_is_shut (r := r) hq
  have lc : lcD (tgN 3) dYes (dCall g_is_shut (aCons (dV 0) (aCons (dV 3) aNil))) [.val (rg n r), .val (tI (ls m X)), .val (.list [pD p, pD q]), .un, .un] [pD p, pD q] (0, 0) = some (.ok [.bool true, .bool true], (0, 0)) := by simp [lcD, h1, h2]
  have lt := gLt_pD p q
  rw [decide_eq_false h] at lt
  have ct := cut_tail [pD p, pD q]
  have lc2 : lcD (tgT [3, 4]) dYes (d2 gLt (dV 3) (dV 4)) [.val (rg n r), .val (tI (ls m X)), .val (.list [pD p, pD q]), .un, .un] [.tuple [pD p, pD q]] (0, 0) = some (.ok [.bool false], (0, 0)) := by simp [lcD, lt]
  have z : zipD [pD p, pD q] [pD q] = [.tuple [pD p, pD q]] := rfl
  simp at ct
  simp [NoSh, g_need_shuts, b_need_shuts, m_need_row W, lc, gAll, asBls, ct, z, lc2]
theorem noSh_none (W : Rw n r m X) : NoSh n r m X .none := by simp [NoSh, g_need_shuts, b_need_shuts, m_need_row W]
theorem noSh_int (W : Rw n r m X) (i : Int) : NoSh n r m X (.int i) := by simp [NoSh, g_need_shuts, b_need_shuts, m_need_row W]
theorem noSh_tup (W : Rw n r m X) : NoSh n r m X (.tuple []) := by simp [NoSh, g_need_shuts, b_need_shuts, m_need_row W]
theorem noSh_many (W : Rw n r m X) {l : List D} (hp : PyData.plainAll l = true) (h : 6 < l.length) : NoSh n r m X (.list l) := by
  have h' : (6 : Int) < l.length := by omega
  simp [NoSh, g_need_shuts, b_need_shuts, m_need_row W, hp, h']
end
end G8

set_option Elab.async false
set_option linter.all false
set_option maxRecDepth 100000
set_option maxHeartbeats 2000000
namespace G8
open PySem PySem.Spec PyProof.Rows L2
section
variable {n r c : Int} {m a : Nat} {X Y Z F G : Nat → Int} {ps : List (Int × Int)}
theorem insU_len (x : Int) : ∀ l : List Int, (insU x l).length ≤ l.length + 1
  | [] => by simp [insU]
  | y :: l => by
    unfold insU
    split
    · simp
    · split
      · simp
      · have := insU_len x l
        simp
        omega
theorem ssort_len : ∀ l : List Int, (ssort l).length ≤ l.length
  | [] => by simp [ssort]
  | x :: l => by
    have h1 := ssort_len l
    have h2 := insU_len x (ssort l)
    show (insU x (ssort l)).length ≤ _
    simp
    omega
theorem psort_mem (ok : ∀ p ∈ ps, okP p) (p : Int × Int) : p ∈ psort ps ↔ p ∈ ps := by
  unfold psort
  rw [List.mem_map]
  constructor
  · rintro ⟨k, hk, rfl⟩
    obtain ⟨q, hq, rfl⟩ := List.mem_map.mp ((ssort_mem _ k).mp hk)
    rw [uncod_cod (ok q hq)]
    exact hq
  · intro h
    exact ⟨cod p, (ssort_mem _ _).mpr (List.mem_map_of_mem h), uncod_cod (ok p h)⟩
theorem psort_up (ok : ∀ p ∈ ps, okP p) : (psort ps).Pairwise plt := by
  unfold psort
  rw [List.pairwise_map]
  refine List.Pairwise.imp_of_mem (fun {x y} hx hy h => ?_) (ssort_lt (ps.map cod))
  obtain ⟨p, hp, rfl⟩ := List.mem_map.mp ((ssort_mem _ x).mp hx)
  obtain ⟨q, hq, rfl⟩ := List.mem_map.mp ((ssort_mem _ y).mp hy)
  rw [uncod_cod (ok p hp), uncod_cod (ok q hq)]
  have h1 := ok p hp
  have h2 := ok q hq
  unfold okP at h1 h2
  unfold cod at h
  unfold plt
  omega
theorem psort_len : (psort ps).length ≤ ps.length := by
  unfold psort
  rw [List.length_map]
  exact Nat.le_trans (ssort_len _) (by simp)
theorem gSSP_pD (h : ps.length < 64) (ok : ∀ p ∈ ps, okP p) : gSSP (.list (ps.map pD)) = some ((psort ps).map pD) := by
  have e := asPairs_map ps
  unfold gSSP
  simp only [e, if_pos (show ps.length < 64 ∧ ∀ p ∈ ps, okP p from ⟨h, ok⟩)]
/-- drawn shuts -/
theorem Sh.of (hn : n ≤ 24) (h6 : ps.length ≤ 6) (ok : ∀ p ∈ ps, (0 ≤ p.1 ∧ p.1 < n) ∧ 0 ≤ p.2 ∧ p.2 ≤ 59) : (∀ p ∈ ps, okP p) ∧ Sh n (psort ps) := by
  have o : ∀ p ∈ ps, okP p := fun p hp => by
    have := ok p hp
    unfold okP
    omega
  exact ⟨o, Nat.le_trans psort_len h6, fun p hp => ok p ((psort_mem o p).mp hp), psort_up o⟩
theorem m_law_shuts_refused (W : Rw n r m X) : g__law_shuts_refused [rg n r, tI (ls m X)] = some (.ok (.bool true)) := by
  have hn := W.n0
  have hn4 := W.R.n0
  have bc : "BadCell" ∈ excN := by decide
  have bn : "BadNumber" ∈ excN := by decide
  have bs : "BadShuts" ∈ excN := by decide
  have bo : "Nothing" ∈ excN := by decide
  have ml3 : gMul (.list [refused "BadShuts"]) (.int 3) = some (.list (List.replicate 3 (refused "BadShuts"))) := mul_list [refused "BadShuts"] 3 (by omega) (by simp)
  have ne3 : gNe (.list [refused "BadShuts", refused "BadShuts", refused "BadShuts"]) (.list [refused "BadShuts", refused "BadShuts", refused "BadShuts"]) = some (.bool false) := gNe_ref bs 3
  have ml4 : gMul (.list [refused "BadNumber"]) (.int 4) = some (.list (List.replicate 4 (refused "BadNumber"))) := mul_list [refused "BadNumber"] 4 (by omega) (by simp)
  have ne4 : gNe (.list [refused "BadNumber", refused "BadNumber", refused "BadNumber", refused "BadNumber"]) (.list [refused "BadNumber", refused "BadNumber", refused "BadNumber", refused "BadNumber"]) = some (.bool false) := gNe_ref bn 4
  let c1 : List D := [.none, .int 5, .tuple [], .list [.none], .list [pD (0, 60)], .list [pD (n, 0)], .list [pD (0, 1), pD (0, 1)], .list [pD (1, 0), pD (0, 0)]]
  let c2 : List D := [.list ((List.range 7).map fun (i : Nat) => pD (0, (i : Int))), .list [.list [.int 0, .int 0]], .list [.tuple [.bool true, .int 0]]]
  have hcase : ∀ d ∈ c1 ++ c2, NoSh n r m X d := fun d hd => by
    simp only [c1, c2, List.cons_append, List.nil_append, List.mem_cons, List.not_mem_nil, or_false] at hd
    rcases hd with rfl | rfl | rfl | rfl | rfl | rfl | rfl | rfl | rfl | rfl | rfl
    · exact noSh_none W
    · exact noSh_int W 5
    · exact noSh_tup W
    · exact noSh_one W (by simp) (by simp [g_is_shut, b_is_shut])
    · refine noSh_one W (by simp) ?_
      have w1 := m_is_whole 0 0 (n - 1)
      have w2 := m_is_whole 60 0 59
      rw [decide_eq_true (by omega)] at w1
      rw [decide_eq_false (by omega)] at w2
      simp [g_is_shut, b_is_shut, w1, w2]
    · refine noSh_one W (by simp) ?_
      have w1 := m_is_whole n 0 (n - 1)
      rw [decide_eq_false (by omega)] at w1
      simp [g_is_shut, b_is_shut, w1]
    · exact noSh_two W (by simp only; omega) (by simp only; omega) (by unfold plt; omega)
    · exact noSh_two W (by simp only; omega) (by simp only; omega) (by unfold plt; omega)
    · exact noSh_many W (by have := plain_pairs ((List.range 7).map fun (i : Nat) => (0, (i : Int))); rw [List.map_map] at this; exact this) (by simp)
    · refine noSh_one W (by simp) ?_
      simp [g_is_shut, b_is_shut]
    · refine noSh_one W (by simp) ?_
      have w1 := noNum_bool true 0 (n - 1)
      unfold NoNum at w1
      simp [g_is_shut, b_is_shut, w1]
  have loop2 := forD_all (td := tgN 4) (body := b__law_shuts_refused_l2) (h := fun d : D => d) (δ := (0, 0)) (I := fun ρ => ∃ s4 s5, ρ = [.val (rg n r), .val (tI (ls m X)), .val (.list (c1 ++ c2)), .un, s4, s5]) (xs := c1 ++ c2)
    (ρ := [.val (rg n r), .val (tI (ls m X)), .val (.list (c1 ++ c2)), .un, .un, .un]) (fun d hd ρ ⟨s4, s5, e⟩ => by
      subst e
      obtain ⟨x1, x2, x3⟩ := x_shuts (e := .none) (hcase d hd)
      refine ⟨_, [.val (rg n r), .val (tI (ls m X)), .val (.list (c1 ++ c2)), .un, .val d, .val (.list [refused "BadShuts", refused "BadShuts"])], rfl, ?_, _, _, rfl⟩
      simp [b__law_shuts_refused_l2, x1, x2, x3, bs, ml3, ne3]) ⟨.un, .un, rfl⟩
  obtain ⟨ρ2, e2, s4, s5, rfl⟩ := loop2
  have loop1 := forD_all (td := tgN 4) (body := b__law_shuts_refused_l1) (h := fun d : D => d) (δ := (0, 0)) (I := fun ρ => ∃ s4 s5, ρ = [.val (rg n r), .val (tI (ls m X)), .val (.list (c1 ++ c2)), .un, s4, s5]) (xs := [.int (-1), .int 61, .bool true, .none])
    (ρ := [.val (rg n r), .val (tI (ls m X)), .val (.list (c1 ++ c2)), .un, s4, s5]) (fun d hd ρ ⟨s4, s5, e⟩ => by
      subst e
      have hno : NoNum d 0 60 := by
        simp only [List.mem_cons, List.not_mem_nil, or_false] at hd
        rcases hd with rfl | rfl | rfl | rfl
        · exact noNum_int (by omega)
        · exact noNum_int (by omega)
        · exact noNum_bool _ _ _
        · exact noNum_none _ _
      obtain ⟨x1, x2, x3⟩ := x_shutsM W Sh.nil hno
      have x4 := x_best_shutM W (c := 0) (by omega) (by omega) hno
      simp only [List.map_nil] at x1 x2 x3
      refine ⟨_, [.val (rg n r), .val (tI (ls m X)), .val (.list (c1 ++ c2)), .un, .val d, .val (.list [refused "BadNumber", refused "BadNumber", refused "BadNumber", refused "BadNumber"])], rfl, ?_, _, _, rfl⟩
      simp [b__law_shuts_refused_l1, x1, x2, x3, x4, bn, ml4, ne4]) ⟨_, _, rfl⟩
  obtain ⟨ρ1, e1, s4', s5', rfl⟩ := loop1
  have loop0 := forD_all (td := tgN 4) (body := b__law_shuts_refused_l0) (h := fun d : D => d) (δ := (0, 0)) (I := fun ρ => ∃ s4 s5, ρ = [.val (rg n r), .val (tI (ls m X)), .val (.list (c1 ++ c2)), .un, s4, s5]) (xs := [.int (-1), .int n, .bool true, .none])
    (ρ := [.val (rg n r), .val (tI (ls m X)), .val (.list (c1 ++ c2)), .un, s4', s5']) (fun d hd ρ ⟨s4, s5, e⟩ => by
      subst e
      have hno : NoNum d 0 (n - 1) := by
        simp only [List.mem_cons, List.not_mem_nil, or_false] at hd
        rcases hd with rfl | rfl | rfl | rfl
        · exact noNum_int (by omega)
        · exact noNum_int (by omega)
        · exact noNum_bool _ _ _
        · exact noNum_none _ _
      have x4 := x_best_shutC W (e := .none) hno
      refine ⟨_, [.val (rg n r), .val (tI (ls m X)), .val (.list (c1 ++ c2)), .un, .val d, s5], rfl, ?_, _, _, rfl⟩
      simp [b__law_shuts_refused_l0, x4, bc, gNe_ref1 bc]) ⟨_, _, rfl⟩
  obtain ⟨ρ0, e0, s4'', s5'', rfl⟩ := loop0
  rw [List.map_id'] at e0 e1 e2
  have xN := x_best_shutN W (c := 0) (by omega) (by omega)
  have geq : gEq (refused "Nothing") (refused "Nothing") = some (.bool true) := by
    have h := gNe_ref1 bo
    unfold gNe at h
    obtain ⟨h1, h2⟩ := ite_some h
    unfold gEq
    rw [if_pos h1]
    simp only [PyData.bool.injEq, Bool.not_eq_eq_eq_not, Bool.not_false] at h2
    rw [h2]
  have ok7 : okR 7 = true := okR_s (by omega) (by omega)
  have r7 : rng 0 7 = (List.range 7).map fun (i : Nat) => .int (i : Int) := rng0 7
  have lc : lcD (tgN 3) dYes (dTup (aCons (dC (.int 0)) (aCons (dV 3) aNil))) [.val (rg n r), .val (tI (ls m X)), .val (.list c1), .un, .un, .un] ((List.range 7).map fun (i : Nat) => .int (i : Int)) (0, 0) = some (.ok ((List.range 7).map fun (i : Nat) => pD (0, (i : Int))), (0, 0)) := by
    rw [lcD_map (e := fun (i : Nat) => pD (0, (i : Int)))]
    exact fun i _ => ⟨_, rfl, rfl, by simp⟩
  simp only [g__law_shuts_refused, b__law_shuts_refused]
  simp only [run, startR, List.length_cons, List.length_nil, Nat.reduceAdd, if_true, List.map_cons, List.map_nil, List.cons_append, List.nil_append, Nat.reduceSub, List.replicate_succ, List.replicate_zero]
  rw [sq_nx (ρ' := [.val (rg n r), .val (tI (ls m X)), .val (.list c1), .un, .un, .un]) (δ' := (0, 0)) (by simp [c1])]
  rw [sq_nx (ρ' := [.val (rg n r), .val (tI (ls m X)), .val (.list (c1 ++ c2)), .un, .un, .un]) (δ' := (0, 0)) (by
    simp [ok7, r7]
    rw [lc]
    simp [c1, c2])]
  rw [sq_nx (ρ' := [.val (rg n r), .val (tI (ls m X)), .val (.list (c1 ++ c2)), .un, s4, s5]) (δ' := (0, 0)) (by simp; exact e2)]
  rw [sq_nx (ρ' := [.val (rg n r), .val (tI (ls m X)), .val (.list (c1 ++ c2)), .un, s4', s5']) (δ' := (0, 0)) (by simp; exact e1)]
  rw [sq_nx (ρ' := [.val (rg n r), .val (tI (ls m X)), .val (.list (c1 ++ c2)), .un, s4'', s5'']) (δ' := (0, 0)) (by simp; exact e0)]
  simp [xN, bo, geq]
end
end G8

set_option Elab.async false
set_option linter.all false
set_option maxRecDepth 100000
set_option maxHeartbeats 2000000
namespace G8
open PySem PySem.Spec PyProof.Rows L2
section
variable {n r c : Int} {m a : Nat} {X Y Z F G : Nat → Int}
/-! ### rings and rows -/
theorem gAll_l {α : Type} (l : List α) (p : α → Bool) : gAll [.list (l.map fun x => .bool (p x))] = some (.bool (l.all p)) := by
  show (asBls _).map _ = _
  have : (l.map fun x => PyData.bool (p x)) = (l.map p).map .bool := by rw [List.map_map]; rfl
  rw [this, asBls_map, Option.map_some]
  congr 2
  rw [List.all_map]
  rfl
def inR (n x : Int) : Bool := decide (0 ≤ x ∧ x ≤ n - 1)
theorem m_good_ints {l : List Int} (hl : l.length ≤ 1000) : g_is_good_row [rg n r, tI l] = some (.ok (.bool (!decide (l = []) && (l.all (inR n) && (l.zip l.tail).all fun p => decide (p.1 < p.2))))) := by
  have h5 : l.length ≤ 100000 := by omega
  have e1 := gEq_nil l
  have lc1 : lcD (tgN 2) dYes (dCall g_is_whole (aCons (dV 2) (aCons (dC (.int 0)) (aCons (d2 gSub (d2 gIx (dB 0) (dC (.int 0))) (dC (.int 1))) aNil)))) [.val (rg n r), .val (tI l), .un, .un] (l.map .int) (0, 0) = some (.ok (l.map fun x => .bool (inR n x)), (0, 0)) := by
    rw [lcD_map (e := fun x => .bool (inR n x))]
    intro x _
    have : g_is_whole [.int x, .int 0, .int (n - 1)] = some (.ok (.bool (inR n x))) := m_is_whole x 0 (n - 1)
    exact ⟨_, rfl, rfl, by simp [this]⟩
  have zz : zipD (l.map PyData.int) (gCut (l.map PyData.int) (some 1) none) = (l.zip l.tail).map fun q => .tuple [.int q.1, .int q.2] := by
    rw [cut_tail, List.drop_one, ← List.map_tail]
    unfold zipD
    rw [List.zip_map, List.map_map]
    rfl
  have lc2 : lcD (tgT [2, 3]) dYes (d2 gLt (dV 2) (dV 3)) [.val (rg n r), .val (tI l), .un, .un] ((l.zip l.tail).map fun q => .tuple [.int q.1, .int q.2]) (0, 0) = some (.ok ((l.zip l.tail).map fun q => .bool (decide (q.1 < q.2))), (0, 0)) := by
    rw [lcD_map (e := fun q => .bool (decide (q.1 < q.2)))]
    exact fun q _ => ⟨_, rfl, rfl, by simp⟩
  have hz : min l.length (l.length - 1) ≤ 100000 := by omega
  have hz3 : l.length ≤ 100001 := by omega
  have a1 := gAll_l l (inR n)
  have a2 := gAll_l (l.zip l.tail) fun q => decide (q.1 < q.2)
  simp only [g_is_good_row, b_is_good_row]
  simp only [run, startR, List.length_cons, List.length_nil, Nat.reduceAdd, if_true, List.map_cons, List.map_nil, List.cons_append, List.nil_append, Nat.reduceSub, List.replicate_succ, List.replicate_zero]
  by_cases h0 : l = []
  · subst h0
    rw [sq_yes (by simp [gEq])]
    simp
  · rw [decide_eq_false h0] at e1 ⊢
    cases hall : l.all (inR n) with
    | false =>
      rw [hall] at a1
      rw [sq_yes (by simp [e1, h5, lc1, a1])]
      simp
    | true =>
      rw [hall] at a1
      rw [sq_no (by simp [e1, h5, lc1, a1])]
      simp [zz, hz, hz3, lc2, a2]
theorem noRow_pair {i j : Int} (h : ¬ i < j) : NoRow n r (.tuple [.int i, .int j]) := by
  have := m_good_ints (n := n) (r := r) (l := [i, j]) (by simp)
  exact this.trans (by simp [h])
theorem noRow_twice (W : Rw n r m X) : NoRow n r (.tuple ((ls m X).map PyData.int ++ [.int (X 0)])) := by
  have hm := W.m0
  have hM := W.m24
  have := m_good_ints (n := n) (r := r) (l := ls m X ++ [X 0]) (by simp; omega)
  unfold NoRow
  have e : tI (ls m X ++ [X 0]) = .tuple ((ls m X).map PyData.int ++ [.int (X 0)]) := by simp
  rw [← e]
  refine this.trans ?_
  obtain ⟨k, rfl⟩ : ∃ k, m = k + 1 := ⟨m - 1, by omega⟩
  have hmem : (X k, X 0) ∈ (ls (k + 1) X ++ [X 0]).zip (ls (k + 1) X ++ [X 0]).tail := by
    rw [ls_snoc, List.append_assoc]
    show _ ∈ (ls k X ++ [X k, X 0]).zip (ls k X ++ [X k, X 0]).tail
    cases k with
    | zero => simp [ls]
    | succ k =>
      rw [ls_succ k X, List.cons_append, List.tail_cons]
      have e : (X 0 :: (ls k (fun i => X (i + 1)) ++ [X (k + 1), X 0])) = (X 0 :: ls k (fun i => X (i + 1))) ++ [X (k + 1), X 0] := rfl
      have e2 : ls k (fun i => X (i + 1)) ++ [X (k + 1), X 0] = (ls k (fun i => X (i + 1)) ++ [X (k + 1)]) ++ [X 0] := by simp
      rw [e, e2, List.zip_append (by simp)]
      simp
  have hf : (((ls (k + 1) X ++ [X 0]).zip (ls (k + 1) X ++ [X 0]).tail).all fun p => decide (p.1 < p.2)) = false := by
    rw [List.all_eq_false]
    refine ⟨_, hmem, ?_⟩
    have := W.P.mono (show 0 ≤ k by omega)
    simp
    omega
  rw [hf]
  simp
theorem noRow_bool {b : Bool} : NoRow n r (.tuple [.bool b]) := by
  have e := noNum_bool b 0 (n - 1)
  unfold NoNum at e
  have l : lcD (tgN 2) dYes (dCall g_is_whole (aCons (dV 2) (aCons (dC (.int 0)) (aCons (d2 gSub (d2 gIx (dB 0) (dC (.int 0))) (dC (.int 1))) aNil)))) [.val (rg n r), .val (.tuple [.bool b]), .un, .un] [.bool b] (0, 0) = some (.ok [.bool false], (0, 0)) := by simp [lcD, e]
  have hs : SeqAt.shaped (.tuple [.bool b]) = true := rfl
  simp [NoRow, g_is_good_row, b_is_good_row, gEq, hs, l, gAll, asBls]
theorem noRow_non1 : NoRow n r (.tuple [.none]) := by
  have e := noNum_none 0 (n - 1)
  unfold NoNum at e
  have l : lcD (tgN 2) dYes (dCall g_is_whole (aCons (dV 2) (aCons (dC (.int 0)) (aCons (d2 gSub (d2 gIx (dB 0) (dC (.int 0))) (dC (.int 1))) aNil)))) [.val (rg n r), .val (.tuple [.none]), .un, .un] [.none] (0, 0) = some (.ok [.bool false], (0, 0)) := by simp [lcD, e]
  have hs : SeqAt.shaped (.tuple [.none]) = true := rfl
  simp [NoRow, g_is_good_row, b_is_good_row, gEq, hs, l, gAll, asBls]
/-- what is no ring -/
def NoRing (d : D) : Prop := g_is_ring [d] = some (.ok (.bool false))
theorem x_need_ring {d : D} (h : NoRing d) : g_need_ring [d] = some (.error "BadRing") := by
  unfold NoRing at h
  simp [g_need_ring, b_need_ring, h]
theorem noRing_two {a b : D} (hp : PyData.plain a = true) (hq : PyData.plain b = true) (h : NoNum a 4 24 ∨ (g_is_whole [a, .int 4, .int 24] = some (.ok (.bool true)) ∧ NoNum b 1 3)) : NoRing (.tuple [a, b]) := by
  unfold NoNum at h
  rcases h with h | ⟨h1, h2⟩
  · simp [NoRing, g_is_ring, b_is_ring, h, hp, hq]
  · simp [NoRing, g_is_ring, b_is_ring, h1, h2, hp, hq]
theorem m_is_row (W : Rw n r m X) : g_is_row [rg n r, tI (ls m X)] = some (.ok (.bool true)) := by
  simp [g_is_row, b_is_row, m_need_ring W.R, m_is_good_row W]
theorem m_beat (W : Rw n r m X) : g_beat [rg n r, tI (ls m X)] = some (.ok (tI (rowAt n r m X 1))) := by
  have h := W.next 0
  rw [W.row0] at h
  simp [g_beat, b_beat, m_need_row W, h]
/-- the gaps, cell by cell -/
theorem gap_cells (W : Rw n r m X) {i : Nat} (hi : i < m) {k : Int} (h0 : 0 < k) (h1 : k < X (i + 1) - X i) : (X i + k) % n ∉ ls m X := by
  intro h
  obtain ⟨j, hj, e⟩ := ls_mem.mp h
  have hn := W.n0
  have hX := (W.at hi).1
  have hd := Int.mul_ediv_add_emod (X i + k) n
  have hq : 0 ≤ (X i + k) / n := Int.ediv_nonneg (by omega) (by omega)
  obtain ⟨q, hq2⟩ : ∃ q : Nat, (X i + k) / n = q := ⟨((X i + k) / n).toNat, by omega⟩
  rw [← e, hq2, Int.mul_comm] at hd
  have hs := W.P.mul j q
  rcases Nat.lt_or_ge i (j + q * m) with z | z
  · have := W.P.mono (show i + 1 ≤ j + q * m from z)
    omega
  · have := W.P.mono z
    omega
theorem gap_end (W : Rw n r m X) {i : Nat} (hi : i < m) : X (i + 1) % n ∈ ls m X := by
  by_cases h : i + 1 < m
  · have := W.at h
    rw [Int.emod_eq_of_lt this.1 this.2]
    exact ls_mem.mpr ⟨i + 1, h, rfl⟩
  · have e : i + 1 = 0 + m := by omega
    have h0 := W.at W.m0
    rw [e, W.P.per, Int.add_emod_right, Int.emod_eq_of_lt h0.1 h0.2]
    exact ls_mem.mpr ⟨0, W.m0, rfl⟩
theorem gaps_sum (W : Rw n r m X) : (ls m fun i => X (i + 1) - X i - 1).sum = n - m := by
  have h1 := sum_const (fun i => X (i + 1) - X i) (-1) m
  have h2 := sum_sub (fun i => X (i + 1)) X m
  have h3 := sum_shift X m
  have h4 := W.pm
  have e : (ls m fun i => X (i + 1) - X i - 1) = ls m fun i => X (i + 1) - X i + -1 := ls_congr fun i _ => by omega
  rw [e, h1, h2, h3, h4]
  omega
end
end G8

set_option Elab.async false
set_option linter.all false
set_option maxRecDepth 100000
set_option maxHeartbeats 1000000
namespace G8
open PySem PySem.Spec PyProof.Rows L2
/-! ### texts: numbers and rings -/
structure Tx (x : Str) : Prop where
  len : x.length ≤ 1000
  cod : ∀ c ∈ x.cps.toList, c < 1114112
theorem sh_tx {x : Str} (h : Tx x) : SeqAt.shaped (.str x) = true := by
  have : PyData.strOk x = true := by
    unfold PyData.strOk
    rw [← Array.all_toList, List.all_eq_true]
    intro c hc
    exact decide_eq_true (h.cod c hc)
  simp [SeqAt.shaped, PyData.canLay0, PyData.depth, this]
theorem gNe_ss {x y : Str} (hx : Tx x) (hy : Tx y) : gNe (.str x) (.str y) = some (.bool (!decide (x = y))) := by
  unfold gNe
  rw [if_pos ⟨sh_tx hx, sh_tx hy⟩]
  rw [u_eqv_ss]
  congr 2
theorem gEq_ss {x y : Str} (hx : Tx x) (hy : Tx y) : gEq (.str x) (.str y) = some (.bool (decide (x = y))) := by
  unfold gEq
  rw [if_pos ⟨sh_tx hx, sh_tx hy⟩]
  rw [u_eqv_ss]
  congr 2
theorem figs : ("0123456789" : Str).cps.toList = [48, 49, 50, 51, 52, 53, 54, 55, 56, 57] := by decide +kernel
def isFig (c : Nat) : Bool := decide (c ∈ ("0123456789" : Str).cps.toList)
theorem isFig_iff {c : Nat} : isFig c = true ↔ 48 ≤ c ∧ c ≤ 57 := by
  unfold isFig
  rw [figs, decide_eq_true_iff]
  simp
  omega
open NumText in
theorem dv_lt : ∀ (n : Nat) (cs : List Nat), cs.length = n → AllDigits cs → digitsVal cs < 10 ^ n
  | 0, cs, h, _ => by
    cases List.length_eq_zero_iff.mp h
    decide
  | n + 1, cs, h, hd => by
    have hne : cs ≠ [] := fun z => by rw [z] at h; cases h
    have e := List.dropLast_concat_getLast hne
    have ih := dv_lt n cs.dropLast (by rw [List.length_dropLast, h]; rfl) fun c hc => hd c ((List.dropLast_sublist cs).subset hc)
    have hl := hd (cs.getLast hne) (List.getLast_mem hne)
    rw [← e, digitsVal_snoc, Nat.pow_succ]
    omega
theorem fits40 {v : Nat} (h : v < 10 ^ 40) : ((v : Int)).natAbs.log2 < 1920 := by
  rw [Int.natAbs_natCast]
  by_cases hz : v = 0
  · subst hz
    decide
  · rw [Nat.log2_lt hz]
    exact Nat.lt_of_lt_of_le h (Nat.le_trans (show 10 ^ 40 ≤ 2 ^ 140 by decide) (Nat.pow_le_pow_right (by omega) (by omega)))
/-- str(i) -/
def tS (i : Int) : Str := Str.ofString (toString i)
theorem gStr_tS {i : Int} (h : i.natAbs.log2 < 1920) : gStr [.int i] = some (.str (tS i)) := by
  show (if _ then _ else _) = _
  rw [if_pos (cdec_iff.mpr h)]
  rfl
theorem gFmt_tS {i : Int} (h : i.natAbs.log2 < 1920) : gFmt (.int i) = some (.str (tS i)) := by
  show (if _ then _ else _) = _
  rw [if_pos (cdec_iff.mpr h)]
  rfl
theorem signs_of (n : Nat) : (tS ((n : Nat) : Int)).cps.toList = TL.numL n := TL.tl_num n
theorem tx_num {n : Nat} (h : n < 10 ^ 40) : Tx (tS ((n : Nat) : Int)) := by
  have e := signs_of n
  refine ⟨?_, fun c hc => ?_⟩
  · show (tS ((n : Nat) : Int)).cps.size ≤ 1000
    rw [← Array.length_toList, e]
    have := TL.numL_len (by omega) h
    omega
  · rw [e] at hc
    have := TL.numL_digits n c hc
    omega
section
variable {x : Str}
theorem lc_figs (x : Str) : lcD (tgN 1) dYes (d2 gInS (dV 1) (dC (.str "0123456789"))) [.val (.str x), .un] (signsD x) (0, 0) = some (.ok (x.cps.toList.map fun c => .bool (isFig c)), (0, 0)) := by
  unfold signsD
  rw [lcD_map (e := fun c => .bool (isFig c))]
  intro c _
  exact ⟨_, rfl, rfl, by simp [isFig]⟩
theorem signs_len (h : x.length ≤ 100000) : (signsD x).length ≤ 100000 := by
  unfold signsD
  rw [List.length_map, Array.length_toList]
  exact h
/-- figures alone -/
theorem a_number_dig (hx : Tx x) (h1 : 1 ≤ x.length ∧ x.length ≤ 40) (hd : NumText.AllDigits x.cps.toList) : g_number_in [.str x] = some (if tS ((NumText.digitsVal x.cps.toList : Nat) : Int) = x then .ok (.int ((NumText.digitsVal x.cps.toList : Nat) : Int)) else .error "BadText") := by
  have h5 : x.length ≤ 100000 := by omega
  have hz := signs_len h5
  have lc := lc_figs x
  have ga := gAll_l x.cps.toList isFig
  rw [show x.cps.toList.all isFig = true from List.all_eq_true.mpr fun c hc => isFig_iff.mpr (hd c hc)] at ga
  have c1 : (1 : Int) ≤ (x.length : Int) := by omega
  have c2 : (x.length : Int) ≤ 40 := by omega
  have hne : x.cps.toList ≠ [] := fun z => by
    have : x.cps.toList.length = 0 := by rw [z]; rfl
    rw [Array.length_toList] at this
    have : x.length = 0 := this
    omega
  have ei := intText_digits hd hne (by omega)
  have hv := dv_lt x.length x.cps.toList (by rw [Array.length_toList]; rfl) hd
  have hv : NumText.digitsVal x.cps.toList < 10 ^ 40 := Nat.lt_of_lt_of_le hv (Nat.pow_le_pow_right (by omega) h1.2)
  have ok := gStr_tS (fits40 hv)
  have h6 : x.length ≤ 640 := by omega
  have gn := gNe_ss (tx_num hv) hx
  by_cases he : tS ((NumText.digitsVal x.cps.toList : Nat) : Int) = x
  · rw [decide_eq_true he] at gn
    rw [if_pos he]
    simp [-gStr, g_number_in, b_number_in, h5, c1, c2, hz, lc, ga, ei, h6, ok, gn]
  · rw [decide_eq_false he] at gn
    rw [if_neg he]
    simp [-gStr, g_number_in, b_number_in, h5, c1, c2, hz, lc, ga, ei, h6, ok, gn]
/-- a text that is no text of a number, or one of which the number has just this text -/
theorem a_number (hx : Tx x) : g_number_in [.str x] = some (.error "BadText") ∨ ∃ v : Int, g_number_in [.str x] = some (.ok (.int v)) ∧ tS v = x := by
  have hl := hx.len
  have h5 : x.length ≤ 100000 := by omega
  have hz := signs_len h5
  have lc := lc_figs x
  have ga := gAll_l x.cps.toList isFig
  by_cases h1 : 1 ≤ x.length ∧ x.length ≤ 40
  · have c1 : (1 : Int) ≤ (x.length : Int) := by omega
    have c2 : (x.length : Int) ≤ 40 := by omega
    by_cases h2 : x.cps.toList.all isFig = true
    · have e := a_number_dig hx h1 fun c hc => isFig_iff.mp (List.all_eq_true.mp h2 c hc)
      by_cases he : tS ((NumText.digitsVal x.cps.toList : Nat) : Int) = x
      · rw [if_pos he] at e
        exact .inr ⟨_, e, he⟩
      · rw [if_neg he] at e
        exact .inl e
    · left
      rw [Bool.not_eq_true] at h2
      rw [h2] at ga
      simp [g_number_in, b_number_in, h5, c1, c2, hz, lc, ga]
  · left
    by_cases c1 : (1 : Int) ≤ (x.length : Int)
    · have c2 : ¬ (x.length : Int) ≤ 40 := by omega
      simp [g_number_in, b_number_in, h5, c1, c2]
    · simp [g_number_in, b_number_in, h5, c1]
theorem a_number_tS {n : Nat} (h : n < 10 ^ 40) : g_number_in [.str (tS (n : Int))] = some (.ok (.int n)) := by
  have e := signs_of n
  have hl : (tS (n : Int)).length = (TL.numL n).length := by
    show (tS (n : Int)).cps.size = _
    rw [← Array.length_toList, e]
  have l1 := TL.numL_len (by omega) h
  have l0 : 0 < (TL.numL n).length := List.length_pos_iff.mpr (TL.numL_ne n)
  have := a_number_dig (tx_num h) (by omega) (by rw [e]; exact TL.numL_digits n)
  rw [e, TL.numL_val, if_pos rfl] at this
  exact this
end
end G8

set_option Elab.async false
set_option linter.all false
set_option maxRecDepth 100000
set_option maxHeartbeats 1000000
namespace G8
open PySem PySem.Spec PyProof.Rows L2
/-! ### rings as texts -/
def rT (n r : Int) : Str := tS n ++ " cells, reach " ++ tS r
theorem w_cells : ("cells," : Str).cps.toList = [99, 101, 108, 108, 115, 44] := by decide +kernel
theorem w_reach : ("reach" : Str).cps.toList = [114, 101, 97, 99, 104] := by decide +kernel
theorem w_mid : (" cells, reach " : Str).cps.toList = [32, 99, 101, 108, 108, 115, 44, 32, 114, 101, 97, 99, 104, 32] := by decide +kernel
theorem w_sp : (" " : Str).cps.toList = [32] := by decide +kernel
theorem tx_w {x : Str} {l : List Nat} (e : x.cps.toList = l) (h : l.length ≤ 1000 ∧ ∀ c ∈ l, c < 1114112) : Tx x := by
  subst e
  refine ⟨?_, h.2⟩
  have := h.1
  rw [Array.length_toList] at this
  exact this
theorem tx_cells : Tx "cells," := tx_w w_cells ⟨by decide, by decide⟩
theorem tx_reach : Tx "reach" := tx_w w_reach ⟨by decide, by decide⟩
theorem app_signs (x y : Str) : (x ++ y).cps.toList = x.cps.toList ++ y.cps.toList := TL.tl_append x y
theorem str_ext {x y : Str} (h : x.cps.toList = y.cps.toList) : x = y := TL.ext_tl h
theorem tx_sub {x y : Str} (hx : Tx x) (h : y.cps.toList.Sublist x.cps.toList) : Tx y := by
  refine ⟨?_, fun c hc => hx.cod c (h.subset hc)⟩
  have := h.length_le
  rw [Array.length_toList, Array.length_toList] at this
  exact Nat.le_trans this hx.len
/-- four words -/
def w4 (a b : Str) : List Str := [a, "cells,", "reach", b]
theorem join4 (a b : Str) : Str.join " " (w4 a b) = a ++ " cells, reach " ++ b := by
  refine str_ext ?_
  show (a ++ " " ++ ("cells," ++ " " ++ ("reach" ++ " " ++ b))).cps.toList = _
  simp only [app_signs, w_cells, w_reach, w_mid, w_sp]
  simp
theorem no32 (n : Nat) : 32 ∉ (tS (n : Int)).cps.toList := by
  rw [signs_of]
  exact TL.numL_free (.inl (by omega))
theorem split_parts {ps : List Str} (hne : ps ≠ []) (h : ∀ p ∈ ps, 32 ∉ p.cps.toList) : Txt.split (Str.join " " ps) " " = ps := by
  rw [← TL.join_eq]
  exact TL.split_join (s := 32) (S := []) w_sp (by decide +kernel) hne h
theorem split_rT (n r : Nat) : Txt.split (rT n r) " " = w4 (tS n) (tS r) := by
  have := split_parts (ps := w4 (tS n) (tS r)) (by simp [w4]) (fun p hp => by
    simp only [w4, List.mem_cons, List.not_mem_nil, or_false] at hp
    rcases hp with rfl | rfl | rfl | rfl
    · exact no32 n
    · rw [w_cells]; decide
    · rw [w_reach]; decide
    · exact no32 r)
  rw [join4] at this
  exact this
theorem len_num {n : Nat} (h : n < 1000) : (tS (n : Int)).length ≤ 3 := by
  show (tS (n : Int)).cps.size ≤ 3
  rw [← Array.length_toList, signs_of]
  exact TL.numL_len (by omega) (by omega)
theorem len_app (x y : Str) : (x ++ y).length = x.length + y.length := by
  show (x ++ y).cps.size = x.cps.size + y.cps.size
  rw [← Array.length_toList, app_signs, List.length_append, Array.length_toList, Array.length_toList]
theorem len_rT {n r : Nat} (h : n < 1000) (h2 : r < 1000) : (rT n r).length ≤ 20 := by
  have := len_num h
  have := len_num h2
  have e : (" cells, reach " : Str).length = 14 := by decide +kernel
  unfold rT
  rw [len_app, len_app, e]
  omega
theorem cod_rT {n r : Nat} : ∀ c ∈ (rT n r).cps.toList, c < 128 := fun c hc => by
  unfold rT at hc
  rw [app_signs, app_signs, w_mid, signs_of, signs_of, List.mem_append, List.mem_append] at hc
  rcases hc with (hc | hc) | hc
  · have := TL.numL_digits n c hc
    omega
  · revert c
    decide
  · have := TL.numL_digits r c hc
    omega
theorem tx_rT {n r : Nat} (h : n < 1000) (h2 : r < 1000) : Tx (rT n r) := ⟨by have := len_rT h h2; omega, fun c hc => by have := cod_rT c hc; omega⟩
section
variable {n r : Int} {x : Str}
theorem m_ring_text (R : Rg n r) : g_ring_text [rg n r] = some (.ok (.str (rT n r))) := by
  have h0 := R.n0
  have h1 := R.n1
  have h2 := R.r0
  have h3 := R.r1
  obtain ⟨a, rfl⟩ : ∃ a : Nat, n = (a : Int) := ⟨n.toNat, by omega⟩
  obtain ⟨b, rfl⟩ : ∃ b : Nat, r = (b : Int) := ⟨r.toNat, by omega⟩
  have p40 : (1000 : Nat) < 10 ^ 40 := by decide
  have f1 := gFmt_tS (fits40 (show a < 10 ^ 40 by omega))
  have f2 := gFmt_tS (fits40 (show b < 10 ^ 40 by omega))
  have la := len_num (show a < 1000 by omega)
  have lb := len_num (show b < 1000 by omega)
  have le : (" cells, reach " : Str).length = 14 := by decide +kernel
  have z0 : Str.empty ++ tS (a : Int) = tS (a : Int) := str_ext (by rw [app_signs]; rfl)
  have k1 : (Str.empty ++ tS (a : Int)).length ≤ 100000 := by rw [z0]; omega
  have k2 : (tS (a : Int) ++ " cells, reach ").length ≤ 100000 := by rw [len_app, le]; omega
  have k3 : (tS (a : Int) ++ " cells, reach " ++ tS (b : Int)).length ≤ 100000 := by rw [len_app, len_app, le]; omega
  simp [-gFmt, g_ring_text, b_ring_text, m_need_ring R, f1, f2, z0, k1, k2, k3, rT, show (tS (a : Int)).length ≤ 100000 by omega]
theorem at2 (a b c d : D) : atI [a, b, c, d] 2 = some c := rfl
theorem at3 (a b c d : D) : atI [a, b, c, d] 3 = some d := rfl
theorem a_is_ring (a b : Int) : g_is_ring [.tuple [.int a, .int b]] = some (.ok (.bool (decide (4 ≤ a ∧ a ≤ 24) && decide (1 ≤ b ∧ b ≤ 3)))) := by
  by_cases h : 4 ≤ a ∧ a ≤ 24 <;> simp [g_is_ring, b_is_ring, m_is_whole, h]
/-- what is read has just this text -/
theorem a_read_ring (hx : Tx x) : g_read_ring [.str x] = some (.error "BadText") ∨ ∃ n r : Int, Rg n r ∧ g_read_ring [.str x] = some (.ok (rg n r)) ∧ rT n r = x := by
  have h5 : x.length ≤ 100000 := by have := hx.len; omega
  have hj := StrLaws.join_split x " "
  have sl : (((" " : Str).length == 0) = false) := by decide +kernel
  have nt : g_need_text [.str x] = some (.ok .none) := by simp [g_need_text, b_need_text]
  have es : gSplit (.str x) (.str " ") = some ((Txt.split x " ").map .str) := by
    show (if _ then _ else _) = _
    rw [if_pos ⟨sl, h5⟩]
  by_cases h4 : (Txt.split x " ").length = 4
  · generalize Txt.split x " " = ws at hj es h4
    match ws, h4 with
    | [w0, w1, w2, w3], _ =>
      have hj : (w0 ++ " " ++ (w1 ++ " " ++ (w2 ++ " " ++ w3))) = x := hj
      have ej : x.cps.toList = w0.cps.toList ++ [32] ++ (w1.cps.toList ++ [32] ++ (w2.cps.toList ++ [32] ++ w3.cps.toList)) := by
        rw [← hj]
        simp only [app_signs, w_sp]
      have s0 : Tx w0 := tx_sub hx (by rw [ej]; simp)
      have s1 : Tx w1 := tx_sub hx (by rw [ej]; exact ((List.sublist_append_left ..).trans (List.sublist_append_left ..)).trans (List.sublist_append_right ..))
      have s2 : Tx w2 := tx_sub hx (by rw [ej]; exact (((List.sublist_append_left ..).trans (List.sublist_append_left ..)).trans (List.sublist_append_right ..)).trans (List.sublist_append_right ..))
      have s3 : Tx w3 := tx_sub hx (by rw [ej]; exact ((List.sublist_append_right ..).trans (List.sublist_append_right ..)).trans (List.sublist_append_right ..))
      have g1 := gNe_ss s1 tx_cells
      have g2 := gNe_ss s2 tx_reach
      by_cases e1 : w1 = "cells,"
      · by_cases e2 : w2 = "reach"
        · subst e1 e2
          rw [decide_eq_true rfl] at g1 g2
          rcases a_number s0 with n0 | ⟨a, n0, t0⟩
          · left
            simp [-gSplit, g_read_ring, b_read_ring, nt, es, at2, at3, g1, g2, n0]
          · rcases a_number s3 with n3 | ⟨b, n3, t3⟩
            · left
              simp [-gSplit, g_read_ring, b_read_ring, nt, es, at2, at3, g1, g2, n0, n3]
            · have ir := a_is_ring a b
              by_cases hr : (4 ≤ a ∧ a ≤ 24) ∧ (1 ≤ b ∧ b ≤ 3)
              · right
                refine ⟨a, b, ⟨hr.1.1, hr.1.2, hr.2.1, hr.2.2⟩, ?_, ?_⟩
                · rw [decide_eq_true hr.1, decide_eq_true hr.2] at ir
                  simp [-gSplit, g_read_ring, b_read_ring, nt, es, at2, at3, g1, g2, n0, n3, ir]
                · have := join4 w0 w3
                  rw [← hj]
                  unfold rT
                  rw [t0, t3, ← this]
                  rfl
              · left
                have ir : g_is_ring [.tuple [.int a, .int b]] = some (.ok (.bool false)) := by
                  rw [ir]
                  congr 3
                  rw [← Bool.decide_and, decide_eq_false hr]
                simp [-gSplit, g_read_ring, b_read_ring, nt, es, at2, at3, g1, g2, n0, n3, ir]
        · left
          subst e1
          rw [decide_eq_true rfl] at g1
          rw [decide_eq_false e2] at g2
          simp [-gSplit, g_read_ring, b_read_ring, nt, es, at2, at3, g1, g2]
      · left
        rw [decide_eq_false e1] at g1
        simp [-gSplit, g_read_ring, b_read_ring, nt, es, at2, at3, g1]
  · left
    have h4' : ¬ (((Txt.split x " ").length : Nat) : Int) = 4 := by omega
    simp [-gSplit, g_read_ring, b_read_ring, nt, es, at2, at3, h4']
end
end G8

set_option Elab.async false
set_option linter.all false
set_option maxRecDepth 100000
set_option maxHeartbeats 1000000
namespace G8
open PySem PySem.Spec PyProof.Rows L2
/-! ### texts that are no rings; rows as texts -/
theorem x_read_ring {x : Str} (hx : Tx x) (h : ∀ a, a < 25 → ∀ b, b < 4 → 4 ≤ a ∧ 1 ≤ b → rT (a : Nat) (b : Nat) ≠ x) : g_read_ring [.str x] = some (.error "BadText") := by
  rcases a_read_ring hx with e | ⟨n, r, R, _, e⟩
  · exact e
  · have h0 := R.n0
    have h1 := R.n1
    have h2 := R.r0
    have h3 := R.r1
    refine absurd e ?_
    obtain ⟨a, rfl⟩ : ∃ a : Nat, n = (a : Int) := ⟨n.toNat, by omega⟩
    obtain ⟨b, rfl⟩ : ∃ b : Nat, r = (b : Int) := ⟨r.toNat, by omega⟩
    exact h a (by omega) b (by omega) ⟨by omega, by omega⟩
theorem far_ring : ∀ x ∈ (["", "3 cells, reach 1", "25 cells, reach 1", "4 cells, reach 0", "4 cells, reach 4", "04 cells, reach 1", "4 cells reach 1"] : List Str), ∀ a, a < 25 → ∀ b, b < 4 → (4 ≤ a ∧ 1 ≤ b) → rT (a : Nat) (b : Nat) ≠ x := by
  decide +kernel
theorem ends_rT (a b : Nat) : ∃ l k, (rT a b).cps.toList = l ++ [k] ∧ 48 ≤ k := by
  have hne := TL.numL_ne b
  refine ⟨(tS (a : Int)).cps.toList ++ (" cells, reach " : Str).cps.toList ++ (TL.numL b).dropLast, (TL.numL b).getLast hne, ?_, (TL.numL_digits b _ (List.getLast_mem hne)).1⟩
  unfold rT
  rw [app_signs, app_signs, signs_of b, List.append_assoc _ (TL.numL b).dropLast, List.dropLast_concat_getLast]
theorem begins_rT (a b : Nat) : ∃ l k, (rT a b).cps.toList = k :: l ∧ 48 ≤ k := by
  have hne := TL.numL_ne a
  have hd := TL.numL_digits a
  have e := signs_of a
  cases hc : TL.numL a with
  | nil => exact absurd hc hne
  | cons k l =>
    rw [hc] at hd e
    refine ⟨l ++ (" cells, reach " : Str).cps.toList ++ (tS (b : Int)).cps.toList, k, ?_, (hd k (List.mem_cons_self ..)).1⟩
    unfold rT
    rw [app_signs, app_signs, e]
    simp
theorem no_end (a b : Nat) (x : Str) : rT a b ≠ x ++ " " := fun z => by
  obtain ⟨l, k, e, hk⟩ := ends_rT a b
  rw [z, app_signs, w_sp] at e
  have := List.append_inj' e rfl
  have := this.2
  simp at this
  omega
theorem no_begin (a b : Nat) (x : Str) : rT a b ≠ " " ++ x := fun z => by
  obtain ⟨l, k, e, hk⟩ := begins_rT a b
  rw [z, app_signs, w_sp] at e
  simp at e
  omega
section
variable {n r : Int} {x : Str} {l : List Int} {m : Nat} {X : Nat → Int}
theorem a_read_rT (R : Rg n r) : g_read_ring [.str (rT n r)] = some (.ok (rg n r)) := by
  have h0 := R.n0
  have h1 := R.n1
  have h2 := R.r0
  have h3 := R.r1
  obtain ⟨a, rfl⟩ : ∃ a : Nat, n = (a : Int) := ⟨n.toNat, by omega⟩
  obtain ⟨b, rfl⟩ : ∃ b : Nat, r = (b : Int) := ⟨r.toNat, by omega⟩
  have tx := tx_rT (n := a) (r := b) (by omega) (by omega)
  have h5 : (rT a b).length ≤ 100000 := by have := tx.len; omega
  have sl : (((" " : Str).length == 0) = false) := by decide +kernel
  have nt : g_need_text [.str (rT a b)] = some (.ok .none) := by simp [g_need_text, b_need_text]
  have es : gSplit (.str (rT a b)) (.str " ") = some ((w4 (tS a) (tS b)).map .str) := by
    show (if _ then _ else _) = _
    rw [if_pos ⟨sl, h5⟩, split_rT]
  have p40 : (1000 : Nat) < 10 ^ 40 := by decide
  have n0 := a_number_tS (show a < 10 ^ 40 by omega)
  have n3 := a_number_tS (show b < 10 ^ 40 by omega)
  have g1 := gNe_ss tx_cells tx_cells
  have g2 := gNe_ss tx_reach tx_reach
  rw [decide_eq_true rfl] at g1 g2
  have ir := m_is_ring R
  simp [-gSplit, g_read_ring, b_read_ring, nt, es, w4, at2, at3, g1, g2, n0, n3, ir]
/-! rows -/
def pg (n : Int) (l : List Int) : List Nat := (List.range n.toNat).map fun (i : Nat) => if (i : Int) ∈ l then 111 else 46
def page (n : Int) (l : List Int) : Str := ⟨(pg n l).toArray⟩
theorem join_ones : ∀ l : List Nat, (Str.join "" (l.map fun c => (⟨#[c]⟩ : Str))).cps.toList = l
  | [] => rfl
  | [c] => rfl
  | c :: d :: l => by
    show (⟨#[c]⟩ ++ ("" : Str) ++ Str.join "" ((d :: l).map fun c => (⟨#[c]⟩ : Str))).cps.toList = _
    have e : ("" : Str).cps.toList = [] := by decide +kernel
    rw [app_signs, app_signs, join_ones (d :: l), e]
    rfl
theorem w_o : ("o" : Str) = ⟨#[111]⟩ := by decide +kernel
theorem w_dot : ("." : Str) = ⟨#[46]⟩ := by decide +kernel
theorem wIn (c : Int) (l : List Int) : gIn (.int c) (tI l) = some (.bool (decide (c ∈ l))) := by
  show (asInts _).map _ = _
  rw [asInts_map, Option.map_some]
  congr 2
  unfold memI
  rw [Bool.eq_iff_iff]
  simp
theorem sum_ones {α : Type} : ∀ l : List α, (l.map fun _ => 1).sum = l.length
  | [] => rfl
  | _ :: l => by
    rw [List.map_cons, List.sum_cons, sum_ones l, List.length_cons]
    omega
theorem joinD (n : Int) (l : List Int) (hn : n ≤ 24) : gJoin (.str "") (.list ((List.range n.toNat).map fun (i : Nat) => if (i : Int) ∈ l then .str "o" else .str ".")) = some (.str (page n l)) := by
  have e : ((List.range n.toNat).map fun (i : Nat) => if (i : Int) ∈ l then PyData.str "o" else .str ".") = ((pg n l).map fun c => (⟨#[c]⟩ : Str)).map .str := by
    unfold pg
    rw [List.map_map, List.map_map]
    refine List.map_congr_left fun i _ => ?_
    show _ = PyData.str ⟨#[if (i : Int) ∈ l then 111 else 46]⟩
    by_cases h : (i : Int) ∈ l
    · rw [if_pos h, if_pos h, w_o]
    · rw [if_neg h, if_neg h, w_dot]
  have hs : (((pg n l).map fun c => (⟨#[c]⟩ : Str)).map (·.length)).sum + ((pg n l).map fun c => (⟨#[c]⟩ : Str)).length * ("" : Str).length ≤ 100000 := by
    have e0 : ("" : Str).length = 0 := by decide +kernel
    rw [e0, List.map_map]
    have : ((pg n l).map ((·.length) ∘ fun c => (⟨#[c]⟩ : Str))) = (pg n l).map fun _ => 1 := rfl
    rw [this, sum_ones]
    unfold pg
    rw [List.length_map, List.length_range]
    omega
  rw [e]
  simp only [gJoin, asStrs_map]
  rw [if_pos hs]
  congr 2
  rw [TL.join_eq]
  exact str_ext (join_ones _)
theorem lc_page {ρ : Rho} {δ : Dl} {i j : Nat} (hi : i < ρ.length) (hij : i ≠ j) (hj : ρ[j]? = some (.val (tI l))) : lcD (tgN i) dYes (dIf (d2 gIn (dV i) (dV j)) (dC (.str "o")) (dC (.str "."))) ρ ((List.range n.toNat).map fun (i : Nat) => .int (i : Int)) δ = some (.ok ((List.range n.toNat).map fun (i : Nat) => if (i : Int) ∈ l then .str "o" else .str "."), δ) := by
  rw [lcD_map (e := fun (i : Nat) => if (i : Int) ∈ l then .str "o" else .str ".")]
  intro k _
  refine ⟨_, rfl, rfl, ?_⟩
  have q1 : (ρ.set i (.val (.int (k : Int))))[i]? = some (.val (.int (k : Int))) := List.getElem?_set_self hi
  have q2 : (ρ.set i (.val (.int (k : Int))))[j]? = some (.val (tI l)) := by rw [List.getElem?_set_ne hij]; exact hj
  by_cases h : (k : Int) ∈ l
  · simp only [dIf, d2, dV, q1, q2, bnd, wIn, lft, dC, decide_eq_true h, if_pos h]
  · simp only [dIf, d2, dV, q1, q2, bnd, wIn, lft, dC, decide_eq_false h, if_neg h]
theorem rngJ (hn : 0 ≤ n) : rng 0 n = (List.range n.toNat).map fun (i : Nat) => .int (i : Int) := by
  have := rng0 n.toNat
  rwa [show ((n.toNat : Nat) : Int) = n by omega] at this
theorem m_written (R : Rg n r) : g_written [rg n r, tI l] = some (.ok (.str (page n l))) := by
  have h0 := R.n0
  have h1 := R.n1
  have okn : okR n = true := okR_s (by omega) (by omega)
  have hl : n.toNat ≤ 100000 := by omega
  have lc := lc_page (n := n) (l := l) (ρ := [.val (rg n r), .val (tI l), .un]) (δ := (0, 0)) (i := 2) (j := 1) (by simp) (by omega) rfl
  have jn := joinD n l h1
  simp [-gJoin, g_written, b_written, okn, rngJ (show 0 ≤ n by omega), hl, lc, jn]
theorem m_row_text (W : Rw n r m X) : g_row_text [rg n r, tI (ls m X)] = some (.ok (.str (page n (ls m X)))) := by
  simp [g_row_text, b_row_text, m_need_row W, m_written W.R]
/-- where a text has its o's -/
def oc (x : Str) : List Int := x.cps.toList.zipIdx.filterMap fun p => if p.1 = 111 then some ((p.2 : Nat) : Int) else none
def isOD (c : Nat) : Bool := decide (c ∈ ("o." : Str).cps.toList)
def allO (x : Str) : Bool := x.cps.toList.all isOD
theorem w_od : ("o." : Str).cps.toList = [111, 46] := by decide +kernel
def gdB (n : Int) (l : List Int) : Bool := !decide (l = []) && (l.all (inR n) && (l.zip l.tail).all fun p => decide (p.1 < p.2))
theorem m_row_in (hx : Tx x) : g_row_in [rg n r, .str x] = some (if (x.length : Int) = n ∧ allO x = true ∧ gdB n (oc x) = true then .ok (tI (oc x)) else .error "BadText") := by
  have hlen := hx.len
  have h5 : x.length ≤ 100000 := by omega
  have hz := signs_len h5
  have hz2 : (enumS x).length ≤ 100000 := by
    unfold enumS enumD
    rw [List.length_map, List.length_zipIdx]
    exact hz
  have l1 : lcD (tgT [3, 4]) (d2 gEq (dV 4) (dC (.str "o"))) (dV 3) [.val (rg n r), .val (.str x), .un, .un, .un] (enumS x) (0, 0) = some (.ok ((oc x).map .int), (0, 0)) := by
    have e : enumS x = x.cps.toList.zipIdx.map fun p => .tuple [.int ((p.2 : Nat) : Int), chD p.1] := by
      unfold enumS enumD signsD
      rw [List.zipIdx_map, List.map_map]
      rfl
    rw [e, lcD_filterMap (e := fun p => if p.1 = 111 then some (.int ((p.2 : Nat) : Int)) else none)]
    · congr 3
      unfold oc
      rw [List.map_filterMap]
      refine congrFun (congrArg _ (funext fun p => ?_)) _
      by_cases h : p.1 = 111 <;> simp [h]
    · intro p hp
      have hc : p.1 < 1114112 := hx.cod _ (by
        obtain ⟨a, b⟩ := p
        exact (List.mem_zipIdx hp).2.2 ▸ List.getElem_mem _)
      have t1 : Tx ⟨#[p.1]⟩ := ⟨by show 1 ≤ 1000; omega, fun c hc' => by
        have : c = p.1 := by simpa using hc'
        omega⟩
      have t2 : Tx "o" := tx_w (by rw [w_o]) ⟨by decide, by decide⟩
      have g := gEq_ss t1 t2
      by_cases h : p.1 = 111
      · rw [if_pos h]
        rw [decide_eq_true (by rw [h, w_o])] at g
        refine ⟨_, rfl, ?_, ?_⟩ <;> simp [g]
      · rw [if_neg h]
        rw [decide_eq_false (fun z => h (by rw [w_o] at z; simpa using z))] at g
        refine ⟨_, rfl, ?_⟩
        simp [g]
  have l2 : lcD (tgN 4) dYes (d2 gInS (dV 4) (dC (.str "o."))) [.val (rg n r), .val (.str x), .val (tI (oc x)), .un, .un] (signsD x) (0, 0) = some (.ok (x.cps.toList.map fun c => .bool (isOD c)), (0, 0)) := by
    unfold signsD
    rw [lcD_map (e := fun c => .bool (isOD c))]
    intro c _
    exact ⟨_, rfl, rfl, by simp [isOD]⟩
  have ga : gAll [.list (x.cps.toList.map fun c => .bool (isOD c))] = some (.bool (allO x)) := gAll_l x.cps.toList isOD
  have hol : (oc x).length ≤ 1000 := by
    unfold oc
    refine Nat.le_trans (List.length_filterMap_le ..) ?_
    rw [List.length_zipIdx, Array.length_toList]
    exact hlen
  have hol5 : (oc x).length ≤ 100000 := by omega
  have gd := m_good_ints (n := n) (r := r) hol
  have gd : g_is_good_row [rg n r, tI (oc x)] = some (.ok (.bool (gdB n (oc x)))) := gd
  by_cases c1 : (x.length : Int) = n
  · by_cases c2 : allO x = true
    · rw [c2] at ga
      by_cases c3 : gdB n (oc x) = true
      · rw [if_pos ⟨c1, c2, c3⟩]
        rw [c3] at gd
        simp [g_row_in, b_row_in, h5, hz, hz2, l1, l2, ga, gd, c1, hol5]
      · rw [if_neg fun z => c3 z.2.2]
        rw [Bool.not_eq_true] at c3
        rw [c3] at gd
        simp [g_row_in, b_row_in, h5, hz, hz2, l1, l2, ga, gd, c1, hol5]
    · rw [if_neg fun z => c2 z.2.1]
      rw [Bool.not_eq_true] at c2
      rw [c2] at ga
      simp [g_row_in, b_row_in, h5, hz, hz2, l1, l2, ga, c1, hol5]
  · rw [if_neg fun z => c1 z.1]
    simp [g_row_in, b_row_in, h5, hz, hz2, l1, c1, hol5]
end
end G8

set_option Elab.async false
set_option linter.all false
set_option maxRecDepth 100000
set_option maxHeartbeats 2000000
namespace G8
open PySem PySem.Spec PyProof.Rows L2
/-! ### sums -/
def sg (R : Nat) (f : Nat → Int) : Int := (ls R f).sum
theorem sg_succ (R : Nat) (f : Nat → Int) : sg (R + 1) f = sg R f + f R := sum_snoc R f
theorem sg_congr {R : Nat} {f g : Nat → Int} (h : ∀ i, i < R → f i = g i) : sg R f = sg R g := congrArg List.sum (ls_congr h)
theorem sg_zero (R : Nat) : sg R (fun _ => 0) = 0 := by
  induction R with
  | zero => rfl
  | succ R ih => rw [sg_succ, ih]; rfl
theorem sg_add (R : Nat) (f g : Nat → Int) : sg R (fun i => f i + g i) = sg R f + sg R g := by
  induction R with
  | zero => rfl
  | succ R ih => rw [sg_succ, sg_succ, sg_succ, ih]; omega
theorem sg_left (R : Nat) (c : Int) (f : Nat → Int) : sg R (fun i => c * f i) = c * sg R f := by
  induction R with
  | zero => simp [sg, ls]
  | succ R ih => rw [sg_succ, sg_succ, ih, Int.mul_add]
theorem sg_right (R : Nat) (c : Int) (f : Nat → Int) : sg R (fun i => f i * c) = sg R f * c := by
  rw [Int.mul_comm, ← sg_left]
  exact sg_congr fun i _ => Int.mul_comm _ _
theorem sg_comm (R S : Nat) (f : Nat → Nat → Int) : sg R (fun i => sg S fun j => f i j) = sg S fun j => sg R fun i => f i j := by
  induction R with
  | zero =>
    show 0 = sg S fun j => 0
    rw [sg_zero]
  | succ R ih =>
    rw [sg_succ, ih, ← sg_add]
    exact sg_congr fun j _ => (sg_succ R _).symm
theorem sg_delta {R k : Nat} (hk : k < R) (f : Nat → Int) : sg R (fun i => if i = k then f i else 0) = f k := by
  induction R with
  | zero => omega
  | succ R ih =>
    rw [sg_succ]
    by_cases h : k = R
    · subst h
      rw [if_pos rfl]
      have : sg k (fun i => if i = k then f i else 0) = sg k fun _ => 0 := sg_congr fun i hi => if_neg (by omega)
      rw [this, sg_zero]
      omega
    · rw [ih (by omega), if_neg (by omega)]
      omega
/-! ### ways round -/
def gbN (R : Nat) (g : Int) (a : Nat) : List Nat := if g < a then [] else if (a : Int) = g then List.range R else [R - 1]
def Mt (R : Nat) (g : Int) (a b : Nat) : Int := ((gbN R g a).count b : Nat)
def pM (R : Nat) : Nat → (Nat → Int) → Nat → Nat → Int
  | 0, _, a, b => if a = b then 1 else 0
  | k + 1, g, a, b => sg R fun c => pM R k (fun i => g (i + 1)) a c * Mt R (g 0) c b
def cnt (R m : Nat) (g : Nat → Int) : Int := sg R fun a => pM R m g a a
theorem pM_left {R : Nat} : ∀ (k : Nat) (h : Nat → Int) {a b : Nat}, a < R → b < R → pM R (k + 1) h a b = sg R fun c => Mt R (h k) a c * pM R k h c b
  | 0, h, a, b, ha, hb => by
    show (sg R fun c => (if a = c then 1 else 0) * Mt R (h 0) c b) = sg R fun c => Mt R (h 0) a c * (if c = b then 1 else 0)
    have e1 : (sg R fun c => (if a = c then 1 else 0) * Mt R (h 0) c b) = sg R fun c => if c = a then Mt R (h 0) c b else 0 := sg_congr fun c _ => by
      by_cases z : c = a
      · rw [if_pos z, if_pos z.symm, Int.one_mul]
      · rw [if_neg z, if_neg (Ne.symm z), Int.zero_mul]
    have e2 : (sg R fun c => Mt R (h 0) a c * (if c = b then 1 else 0)) = sg R fun c => if c = b then Mt R (h 0) a c else 0 := sg_congr fun c _ => by
      by_cases z : c = b
      · rw [if_pos z, if_pos z, Int.mul_one]
      · rw [if_neg z, if_neg z, Int.mul_zero]
    rw [e1, e2, sg_delta ha, sg_delta hb]
  | k + 1, h, a, b, ha, hb => by
    show (sg R fun c => pM R (k + 1) (fun i => h (i + 1)) a c * Mt R (h 0) c b) = sg R fun d => Mt R (h (k + 1)) a d * sg R fun c => pM R k (fun i => h (i + 1)) d c * Mt R (h 0) c b
    have e1 : (sg R fun c => pM R (k + 1) (fun i => h (i + 1)) a c * Mt R (h 0) c b) = sg R fun c => sg R fun d => Mt R (h (k + 1)) a d * (pM R k (fun i => h (i + 1)) d c * Mt R (h 0) c b) := sg_congr fun c hc => by
      rw [pM_left k (fun i => h (i + 1)) ha hc, ← sg_right]
      exact sg_congr fun d _ => Int.mul_assoc _ _ _
    rw [e1, sg_comm]
    exact sg_congr fun d _ => sg_left R _ _
theorem pM_congr {R : Nat} : ∀ (k : Nat) {g h : Nat → Int} {a b : Nat}, (∀ i, i < k → g i = h i) → pM R k g a b = pM R k h a b
  | 0, _, _, _, _, _ => rfl
  | k + 1, g, h, a, b, e => by
    show (sg R fun c => pM R k (fun i => g (i + 1)) a c * Mt R (g 0) c b) = sg R fun c => pM R k (fun i => h (i + 1)) a c * Mt R (h 0) c b
    refine sg_congr fun c _ => ?_
    rw [e 0 (by omega), pM_congr k (g := fun i => g (i + 1)) (h := fun i => h (i + 1)) fun i hi => e (i + 1) (by omega)]
theorem cnt_turn1 {R m : Nat} {g : Nat → Int} (hm : 0 < m) (hg : g m = g 0) : cnt R m (fun i => g (i + 1)) = cnt R m g := by
  obtain ⟨k, rfl⟩ : ∃ k, m = k + 1 := ⟨m - 1, by omega⟩
  unfold cnt
  have e1 : (sg R fun a => pM R (k + 1) (fun i => g (i + 1)) a a) = sg R fun a => sg R fun c => Mt R (g 0) a c * pM R k (fun i => g (i + 1)) c a := sg_congr fun a ha => by
    rw [pM_left k (fun i => g (i + 1)) ha ha]
    show (sg R fun c => Mt R (g (k + 1)) a c * _) = _
    rw [hg]
  rw [e1, sg_comm]
  exact sg_congr fun c _ => sg_congr fun a _ => Int.mul_comm _ _
theorem cnt_turn {R m : Nat} {g : Nat → Int} (hm : 0 < m) (hg : ∀ i, g (i + m) = g i) : ∀ s, cnt R m (fun i => g (i + s)) = cnt R m g
  | 0 => rfl
  | s + 1 => by
    have h := cnt_turn1 (R := R) (m := m) (g := fun i => g (i + s)) hm (by
      show g (m + s) = g (0 + s)
      rw [Nat.add_comm m s, hg, Nat.zero_add])
    have e : (fun i => g (i + (s + 1))) = fun i => g (i + 1 + s) := funext fun i => by rw [show i + (s + 1) = i + 1 + s by omega]
    rw [e]
    exact h.trans (cnt_turn hm hg s)
theorem sg_nn {R : Nat} {f : Nat → Int} (h : ∀ i, i < R → 0 ≤ f i) : 0 ≤ sg R f := by
  induction R with
  | zero => exact Int.le_refl _
  | succ R ih =>
    rw [sg_succ]
    have := ih fun i hi => h i (by omega)
    have := h R (by omega)
    omega
/-! ### tables -/
def pget (k : Nat) : List (Nat × Int) → Option Int
  | [] => none
  | p :: r => if p.1 = k then some p.2 else pget k r
def pval (ps : List (Nat × Int)) (k : Nat) : Int := (pget k ps).getD 0
def pput (ps : List (Nat × Int)) (k : Nat) (v : Int) : List (Nat × Int) := if ps.any (fun p => decide (p.1 = k)) = true then ps.map (fun p => if p.1 = k then (p.1, v) else p) else ps ++ [(k, v)]
abbrev esP (ps : List (Nat × Int)) : List (D × D) := ps.map fun p => (.int (p.1 : Int), .int p.2)
theorem key_es (k : Nat) (p : Nat × Int) : keyI (k : Int) (.int (p.1 : Int), .int p.2) = decide (p.1 = k) := by
  show decide ((p.1 : Int) = k) = _
  exact decide_eq_decide.mpr (by omega)
theorem dgt_es (k : Nat) : ∀ ps : List (Nat × Int), dgt (k : Int) (esP ps) = (pget k ps).map .int
  | [] => rfl
  | p :: r => by
    show (if keyI (k : Int) (.int (p.1 : Int), .int p.2) = true then _ else dgt (k : Int) (esP r)) = _
    rw [key_es, dgt_es k r]
    show _ = (if p.1 = k then some p.2 else pget k r).map PyData.int
    by_cases h : p.1 = k
    · rw [if_pos h, if_pos (by simpa using h)]; rfl
    · rw [if_neg h, if_neg (by simpa using h)]
theorem dpt_es (ps : List (Nat × Int)) (k : Nat) (v : Int) : dpt (esP ps) (k : Int) (.int v) = esP (pput ps k v) := by
  have ha : (esP ps).any (keyI (k : Int)) = ps.any fun p => decide (p.1 = k) := by
    rw [List.any_map]
    congr 1
    funext p
    exact key_es k p
  unfold dpt pput
  rw [ha]
  by_cases h : (ps.any fun p => decide (p.1 = k)) = true
  · rw [if_pos h, if_pos h]
    show (ps.map _).map _ = (ps.map _).map _
    rw [List.map_map, List.map_map]
    refine List.map_congr_left fun p _ => ?_
    show (if keyI (k : Int) (.int (p.1 : Int), .int p.2) = true then ((.int (p.1 : Int) : D), PyData.int v) else (.int (p.1 : Int), .int p.2)) = (fun p : Nat × Int => ((.int (p.1 : Int) : D), PyData.int p.2)) (if p.1 = k then (p.1, v) else p)
    rw [key_es]
    by_cases h2 : p.1 = k
    · rw [if_pos h2, if_pos (by simpa using h2)]
    · rw [if_neg h2, if_neg (by simpa using h2)]
  · rw [if_neg h, if_neg h]
    simp
structure DK (R : Nat) (ps : List (Nat × Int)) : Prop where
  nd : (ps.map (·.1)).Nodup
  lt : ∀ p ∈ ps, p.1 < R
theorem pget_none {k : Nat} : ∀ {ps : List (Nat × Int)}, k ∉ ps.map (·.1) → pget k ps = none
  | [], _ => rfl
  | p :: r, h => by
    simp only [List.map_cons, List.mem_cons, not_or] at h
    show (if p.1 = k then _ else pget k r) = none
    rw [if_neg (Ne.symm h.1)]
    exact pget_none h.2
theorem pget_mem {p : Nat × Int} : ∀ {ps : List (Nat × Int)}, (ps.map (·.1)).Nodup → p ∈ ps → pget p.1 ps = some p.2
  | q :: r, nd, h => by
    rw [List.map_cons, List.nodup_cons] at nd
    show (if q.1 = p.1 then some q.2 else pget p.1 r) = some p.2
    rcases List.mem_cons.mp h with rfl | h
    · rw [if_pos rfl]
    · rw [if_neg fun e => nd.1 (by rw [e]; exact List.mem_map_of_mem h)]
      exact pget_mem nd.2 h
theorem pval_put (ps : List (Nat × Int)) (k : Nat) (v : Int) (b : Nat) : pval (pput ps k v) b = if b = k then v else pval ps b := by
  unfold pval pput
  by_cases h : (ps.any fun p => decide (p.1 = k)) = true
  · rw [if_pos h]
    have key : ∀ l : List (Nat × Int), pget b (l.map fun p => if p.1 = k then (p.1, v) else p) = if b = k then (pget b l).map fun _ => v else pget b l := by
      intro l
      induction l with
      | nil => simp [pget]
      | cons p r ih =>
        rw [List.map_cons]
        show (if (if p.1 = k then (p.1, v) else p).1 = b then _ else _) = _
        have e1 : (if p.1 = k then (p.1, v) else p).1 = p.1 := by split <;> rfl
        rw [e1, ih]
        show _ = if b = k then (if p.1 = b then some p.2 else pget b r).map (fun _ => v) else if p.1 = b then some p.2 else pget b r
        by_cases h1 : p.1 = b
        · rw [if_pos h1]
          by_cases h2 : b = k
          · rw [if_pos h2, if_pos h1, if_pos (by omega)]; rfl
          · rw [if_neg h2, if_pos h1, if_neg (by omega)]
        · rw [if_neg h1, if_neg h1]
    rw [key]
    by_cases h2 : b = k
    · rw [if_pos h2, if_pos h2]
      subst h2
      obtain ⟨p, hp, e⟩ := List.any_eq_true.mp h
      have : ∃ z, pget b ps = some z := by
        have key2 : ∀ l : List (Nat × Int), p ∈ l → ∃ z, pget b l = some z := by
          intro l
          induction l with
          | nil => intro h; cases h
          | cons q r ih =>
            intro hq
            show ∃ z, (if q.1 = b then some q.2 else pget b r) = some z
            by_cases hb : q.1 = b
            · exact ⟨_, if_pos hb⟩
            · rw [if_neg hb]
              rcases List.mem_cons.mp hq with rfl | hq
              · exact absurd (by simpa using e) hb
              · exact ih hq
        exact key2 ps hp
      obtain ⟨z, hz⟩ := this
      rw [hz]
      rfl
    · rw [if_neg h2, if_neg h2]
  · rw [if_neg h]
    have hk : k ∉ ps.map (·.1) := fun z => h (by
      obtain ⟨p, hp, e⟩ := List.mem_map.mp z
      exact List.any_eq_true.mpr ⟨p, hp, by simpa using e⟩)
    have key : ∀ l : List (Nat × Int), pget b (l ++ [(k, v)]) = (pget b l).or (if k = b then some v else none) := by
      intro l
      induction l with
      | nil => rfl
      | cons p r ih =>
        show (if p.1 = b then some p.2 else pget b (r ++ [(k, v)])) = (if p.1 = b then some p.2 else pget b r).or _
        rw [ih]
        by_cases hb : p.1 = b
        · rw [if_pos hb, if_pos hb]; rfl
        · rw [if_neg hb, if_neg hb]
    rw [key]
    by_cases h2 : b = k
    · subst h2
      rw [if_pos rfl, if_pos rfl, pget_none hk]
      rfl
    · rw [if_neg h2, if_neg (Ne.symm h2)]
      cases pget b ps <;> rfl
theorem DK.put {R : Nat} {ps : List (Nat × Int)} (d : DK R ps) {k : Nat} (hk : k < R) (v : Int) : DK R (pput ps k v) := by
  unfold pput
  by_cases h : (ps.any fun p => decide (p.1 = k)) = true
  · rw [if_pos h]
    have e : (ps.map fun p => if p.1 = k then (p.1, v) else p).map (·.1) = ps.map (·.1) := by
      rw [List.map_map]
      refine List.map_congr_left fun p _ => ?_
      show (if p.1 = k then (p.1, v) else p).1 = p.1
      split <;> rfl
    refine ⟨by rw [e]; exact d.nd, fun p hp => ?_⟩
    have : p.1 ∈ ps.map (·.1) := by rw [← e]; exact List.mem_map_of_mem hp
    obtain ⟨q, hq, e2⟩ := List.mem_map.mp this
    rw [← e2]
    exact d.lt q hq
  · rw [if_neg h]
    refine ⟨?_, fun p hp => ?_⟩
    · rw [List.map_append]
      refine List.nodup_append.mpr ⟨d.nd, by simp, fun x hx y hy => ?_⟩
      simp at hy
      subst hy
      rintro rfl
      refine h ?_
      obtain ⟨p, hp, e⟩ := List.mem_map.mp hx
      exact List.any_eq_true.mpr ⟨p, hp, by simpa using e⟩
    · rcases List.mem_append.mp hp with hp | hp
      · exact d.lt p hp
      · rw [List.mem_singleton.mp hp]; exact hk
theorem DK.len {R : Nat} {ps : List (Nat × Int)} (d : DK R ps) : ps.length ≤ R := by
  have h := L2.nat_nodup_len (ps.map (·.1)) (List.range R) d.nd fun x hx => by
    obtain ⟨p, hp, rfl⟩ := List.mem_map.mp hx
    exact List.mem_range.mpr (d.lt p hp)
  simpa using h
theorem DK.sum {R : Nat} (c : Nat → Int) : ∀ {ps : List (Nat × Int)}, DK R ps → (ps.map fun p => p.2 * c p.1).sum = sg R fun a => pval ps a * c a
  | [], _ => by
    show 0 = sg R fun a => 0 * c a
    have : (sg R fun a => 0 * c a) = sg R fun _ => 0 := sg_congr fun a _ => Int.zero_mul _
    rw [this, sg_zero]
  | p :: r, d => by
    have nd := d.nd
    rw [List.map_cons, List.nodup_cons] at nd
    have d' : DK R r := ⟨nd.2, fun q hq => d.lt q (List.mem_cons_of_mem _ hq)⟩
    rw [List.map_cons, List.sum_cons, DK.sum c d']
    have hp := d.lt p (List.mem_cons_self ..)
    have e : (sg R fun a => pval (p :: r) a * c a) = sg R fun a => (if a = p.1 then p.2 * c a else 0) + pval r a * c a := sg_congr fun a _ => by
      unfold pval
      show ((if p.1 = a then some p.2 else pget a r).getD 0) * c a = _
      by_cases h : p.1 = a
      · rw [if_pos h, if_pos h.symm, ← h, pget_none nd.1]
        simp
      · rw [if_neg h, if_neg (Ne.symm h)]
        omega
    rw [e, sg_add, sg_delta hp]
end G8

set_option Elab.async false
set_option linter.all false
set_option maxRecDepth 100000
set_option maxHeartbeats 2000000
namespace G8
open PySem PySem.Spec PyProof.Rows L2
section
variable {n r c : Int} {m R : Nat} {X Y Z F G : Nat → Int}
theorem gbN_lt {g : Int} {a : Nat} (hR : 0 < R) : ∀ b ∈ gbN R g a, b < R := by
  unfold gbN
  intro b hb
  split at hb
  · cases hb
  · split at hb
    · exact List.mem_range.mp hb
    · rw [List.mem_singleton.mp hb]; omega
theorem m_goes_before (h0 : 0 ≤ r) (h1 : r ≤ 100) (hR : R = r.toNat + 1) (g : Int) (a : Nat) : g_goes_before [.int r, .int g, .int (a : Int)] = some (.ok (.list ((gbN R g a).map fun (b : Nat) => .int (b : Int)))) := by
  have ok1 : okRg 0 (r + 1) = true := okRg_s (by omega) (by omega) (by omega) (by omega) (by omega)
  have rg1 : rng 0 (r + 1) = (List.range R).map fun (i : Nat) => .int (i : Int) := by
    rw [show r + 1 = ((R : Nat) : Int) by omega]
    exact rng0 _
  unfold gbN
  by_cases c1 : g < (a : Int)
  · rw [if_pos c1]
    simp [g_goes_before, b_goes_before, c1]
  · rw [if_neg c1]
    by_cases c2 : (a : Int) = g
    · rw [if_pos c2]
      simp [g_goes_before, b_goes_before, c1, c2, ok1, rg1]
    · rw [if_neg c2]
      have e : (((R - 1 : Nat)) : Int) = r := by omega
      simp [g_goes_before, b_goes_before, c1, c2, e]
abbrev rhoC (n r : Int) (row : D) (tot : Int) (gs : D) (last : Nat) (ps : List (Nat × Int)) (s6 s7 s8 s9 : Sl) : Rho := [.val (rg n r), .val row, .val (.int tot), .val gs, .val (.int (last : Int)), .val (.dict (esP ps)), s6, s7, s8, s9]
theorem cnt_l0 {row gs : D} {tot : Int} {last : Nat} {ps : List (Nat × Int)} {s6 : Sl} {a : Nat} {x : Int} (hx : pget a ps = some x) (hR : R ≤ 1000) : ∀ (l : List Nat) (fs : List (Nat × Int)) (s9 : Sl), (∀ b ∈ l, b < R) → DK R fs →
    ∃ qs s9', forD (tgN 9) b_count_of_l0 (l.map fun (b : Nat) => .int (b : Int)) (rhoC n r row tot gs last ps s6 (.ownd (esP fs)) (.val (.int (a : Int))) s9) (0, 0) = some (.nx (rhoC n r row tot gs last ps s6 (.ownd (esP qs)) (.val (.int (a : Int))) s9'), (0, 0)) ∧ DK R qs ∧ ∀ b, pval qs b = pval fs b + x * ((l.count b : Nat) : Int)
  | [], fs, s9, _, d => ⟨fs, s9, rfl, d, fun b => by simp⟩
  | k :: l, fs, s9, hl, d => by
    have hk := hl k (List.mem_cons_self ..)
    have d' := d.put hk (pval fs k + x)
    obtain ⟨qs, s9', e, dq, hq⟩ := cnt_l0 hx hR l (pput fs k (pval fs k + x)) (.val (.int (k : Int))) (fun b hb => hl b (List.mem_cons_of_mem _ hb)) d'
    refine ⟨qs, s9', ?_, dq, fun b => ?_⟩
    · have hlen := d.len
      have hl5 : (esP fs).length < 100000 := by rw [List.length_map]; omega
      have g1 := dgt_es k fs
      have g2 := dgt_es a ps
      rw [hx] at g2
      have g3 := dpt_es fs k (pval fs k + x)
      have e0 : ((pget k fs).map PyData.int).getD (.int 0) = .int (pval fs k) := by
        unfold pval
        cases pget k fs <;> rfl
      rw [List.map_cons, forD]
      simp only [tgN, List.set_cons_succ, List.set_cons_zero]
      have step : b_count_of_l0 (rhoC n r row tot gs last ps s6 (.ownd (esP fs)) (.val (.int (a : Int))) (.val (.int (k : Int)))) (0, 0) = some (.nx (rhoC n r row tot gs last ps s6 (.ownd (esP (pput fs k (pval fs k + x)))) (.val (.int (a : Int))) (.val (.int (k : Int)))), (0, 0)) := by
        simp only [b_count_of_l0, sSeq, sDiP, List.getElem?_cons_succ, List.getElem?_cons_zero, d2, dDGet, slD, dV, bnd, dC, dDIx, g1, g2, e0, Option.map_some, lft, gAdd, bndS, hl5, if_true, g3, List.set_cons_succ, List.set_cons_zero, sNil]
      rw [step]
      exact e
    · rw [hq b, pval_put, List.count_cons]
      by_cases h : b = k
      · subst h
        rw [if_pos rfl]
        simp
        rw [Int.mul_add]
        omega
      · rw [if_neg h, if_neg (by simpa using Ne.symm h)]
        simp
theorem cnt_l1 {row gs : D} {tot g : Int} {last : Nat} {ps : List (Nat × Int)} (d : DK R ps) (h0 : 0 ≤ r) (h1 : r ≤ 100) (hR : R = r.toNat + 1) : ∀ (l : List (Nat × Int)) (fs : List (Nat × Int)) (s8 s9 : Sl), (∀ p ∈ l, p ∈ ps) → DK R fs →
    ∃ qs s8' s9', forD (tgN 8) b_count_of_l1 (l.map fun p => .int (p.1 : Int)) (rhoC n r row tot gs last ps (.val (.int g)) (.ownd (esP fs)) s8 s9) (0, 0) = some (.nx (rhoC n r row tot gs last ps (.val (.int g)) (.ownd (esP qs)) s8' s9'), (0, 0)) ∧ DK R qs ∧ ∀ b, pval qs b = pval fs b + (l.map fun p => p.2 * Mt R g p.1 b).sum
  | [], fs, s8, s9, _, df => ⟨fs, s8, s9, rfl, df, fun b => by simp⟩
  | p :: l, fs, s8, s9, hl, df => by
    have hp := hl p (List.mem_cons_self ..)
    obtain ⟨qs, s9', e, dq, hq⟩ := cnt_l0 (n := n) (r := r) (row := row) (gs := gs) (tot := tot) (last := last) (s6 := .val (.int g)) (R := R) (pget_mem d.nd hp) (by omega) (gbN R g p.1) fs s9 (gbN_lt (by omega)) df
    obtain ⟨qs2, s8'', s9'', e2, dq2, hq2⟩ := cnt_l1 d h0 h1 hR l qs (.val (.int (p.1 : Int))) s9' (fun q hq => hl q (List.mem_cons_of_mem _ hq)) dq
    refine ⟨qs2, s8'', s9'', ?_, dq2, fun b => ?_⟩
    · have gb := m_goes_before h0 h1 hR g p.1
      rw [List.map_cons, forD]
      simp only [tgN, List.set_cons_succ, List.set_cons_zero]
      have step : b_count_of_l1 (rhoC n r row tot gs last ps (.val (.int g)) (.ownd (esP fs)) (.val (.int (p.1 : Int))) s9) (0, 0) = some (.nx (rhoC n r row tot gs last ps (.val (.int g)) (.ownd (esP qs)) (.val (.int (p.1 : Int))) s9'), (0, 0)) := by
        simp only [b_count_of_l1, sSeq, sFor, fSeq, dCall, aCons, aNil, d2, dB, dC, dV, bnd, lft, bndS, gIx, atI_1, List.getElem?_cons_succ, List.getElem?_cons_zero, gb, gSeq, e, sNil]
      rw [step]
      exact e2
    · rw [hq2 b, hq b, List.map_cons, List.sum_cons]
      unfold Mt
      omega
theorem m_count_of (W : Rw n r m X) (hR : R = r.toNat + 1) : g_count_of [rg n r, tI (ls m X)] = some (.ok (.int (cnt R m fun i => X (i + 1) - X i - 1))) := by
  have hm := W.m0
  have hM := W.m24
  have h0 := W.r0
  have h1 := W.R.r1
  obtain ⟨g, hg⟩ : ∃ g : Nat → Int, g = fun i => X (i + 1) - X i - 1 := ⟨_, rfl⟩
  have gaps := m_all_gaps (n := n) (r := r) (m := m) (Y := X) hm (by omega) W.pm
  have row0 : tI (ls m fun i => X (i + 1) - X i - 1) = tI (ls m g) := by rw [hg]
  rw [row0] at gaps
  rw [← hg]
  let row := tI (ls m X)
  let gs := tI (ls m g)
  have inner : ∀ (last : Nat) (tot : Int) (s6 s8 s9 : Sl), last < R → ∀ s7 : Sl, s7.isOwn = false → ∃ ps s6' s7' s8' s9', forD (tgN 6) b_count_of_l2 ((ls m g).map PyData.int).reverse (rhoC n r row tot gs last [(last, 1)] s6 s7 s8 s9) (0, 0) = some (.nx (rhoC n r row tot gs last ps s6' s7' s8' s9'), (0, 0)) ∧ DK R ps ∧ s7'.isOwn = false ∧ pval ps last = pM R m g last last := by
    intro last tot s6 s8 s9 hl s7 hs7
    have er : ((ls m g).map PyData.int).reverse = (List.range m).map fun j => .int (g (m - 1 - j)) := by
      unfold ls
      rw [List.map_map, ← List.map_reverse]
      refine List.ext_getElem (by simp) fun i h2 h3 => ?_
      simp
    rw [er]
    have loop := forD_count (td := tgN 6) (body := b_count_of_l2) (h := fun j => .int (g (m - 1 - j))) (δ := (0, 0)) (N := m)
      (fun q ρ => ∃ ps s6 s7 s8 s9, ρ = rhoC n r row tot gs last ps s6 s7 s8 s9 ∧ DK R ps ∧ s7.isOwn = false ∧ ∀ b, b < R → pval ps b = pM R q (fun i => g (i + (m - q))) last b) (fun q ρ hq ⟨ps, s6, s7, s8, s9, e, d, hs7, hv⟩ => by
        subst e
        obtain ⟨qs, s8', s9', e2, dq, hqv⟩ := cnt_l1 (n := n) (row := row) (gs := gs) (tot := tot) (g := g (m - 1 - q)) (last := last) d h0 (by omega) hR ps [] s8 s9 (fun p hp => hp) ⟨by simp, fun p hp => by cases hp⟩
        refine ⟨_, rhoC n r row tot gs last qs (.val (.int (g (m - 1 - q)))) (.val (.dict (esP qs))) s8' s9', rfl, ?_, qs, _, _, s8', s9', rfl, dq, rfl, fun b hb => ?_⟩
        · have ek : (esP ps).map (·.1) = ps.map fun p => .int (p.1 : Int) := by rw [List.map_map]; rfl
          show b_count_of_l2 (rhoC n r row tot gs last ps (.val (.int (g (m - 1 - q)))) s7 s8 s9) (0, 0) = _
          simp only [b_count_of_l2, sSeq, sSetD, sFor, fKeys, List.getElem?_cons_succ, List.getElem?_cons_zero, List.set_cons_succ, List.set_cons_zero, bndS, ek]
          have e2' : forD (tgN 8) b_count_of_l1 (ps.map fun p => .int (p.1 : Int)) (rhoC n r row tot gs last ps (.val (.int (g (m - 1 - q)))) (.ownd []) s8 s9) (0, 0) = _ := e2
          rw [e2']
          simp only [sFrzD, List.getElem?_cons_succ, List.getElem?_cons_zero, List.set_cons_succ, List.set_cons_zero, sSeq, sSet, dV, bndS, sNil]
        · rw [hqv b]
          have z : pval [] b = 0 := rfl
          rw [z, Int.zero_add, d.sum (c := fun a => Mt R (g (m - 1 - q)) a b)]
          show _ = sg R fun c => pM R q (fun i => g (i + 1 + (m - (q + 1)))) last c * Mt R (g (0 + (m - (q + 1)))) c b
          refine sg_congr fun c hc => ?_
          rw [hv c hc]
          have ea : (fun i => g (i + 1 + (m - (q + 1)))) = fun i => g (i + (m - q)) := funext fun i => by rw [show i + 1 + (m - (q + 1)) = i + (m - q) by omega]
          rw [ea, show 0 + (m - (q + 1)) = m - 1 - q by omega]) (ρ := rhoC n r row tot gs last [(last, 1)] s6 s7 s8 s9) ⟨_, _, _, _, _, rfl, ⟨by simp, fun p hp => by rw [List.mem_singleton.mp hp]; exact hl⟩, hs7, fun b hb => by
            show (if last = b then some (1 : Int) else none).getD 0 = if last = b then 1 else 0
            split <;> rfl⟩
    obtain ⟨ρ2, e, ps, s6', s7', s8', s9', rfl, d, hs, hv⟩ := loop
    refine ⟨ps, s6', s7', s8', s9', e, d, hs, ?_⟩
    rw [hv last hl]
    exact pM_congr m fun i hi => by rw [show i + (m - m) = i by omega]
  have outer := forD_count (td := tgN 4) (body := b_count_of_l3) (h := fun j => .int (j : Nat)) (δ := (0, 0)) (N := R)
    (fun q ρ => ∃ s4 s5 s6 s7 s8 s9, ρ = [.val (rg n r), .val row, .val (.int (sg q fun a => pM R m g a a)), .val gs, s4, s5, s6, s7, s8, s9] ∧ s7.isOwn = false) (fun q ρ hq ⟨s4, s5, s6, s7, s8, s9, e, hs7⟩ => by
      subst e
      obtain ⟨ps, s6', s7', s8', s9', e2, d, hs, hv⟩ := inner q (sg q fun a => pM R m g a a) s6 s8 s9 hq s7 hs7
      refine ⟨_, rhoC n r row (sg (q + 1) fun a => pM R m g a a) gs q ps s6' s7' s8' s9', rfl, ?_, _, _, _, _, _, _, rfl, hs⟩
      have gq := dgt_es q ps
      have e0 : ((pget q ps).map PyData.int).getD (.int 0) = .int (pval ps q) := by
        unfold pval
        cases pget q ps <;> rfl
      show b_count_of_l3 [.val (rg n r), .val row, .val (.int (sg q fun a => pM R m g a a)), .val gs, .val (.int (q : Nat)), s5, s6, s7, s8, s9] (0, 0) = _
      simp only [b_count_of_l3]
      refine (sq_nx (ρ' := [.val (rg n r), .val row, .val (.int (sg q fun a => pM R m g a a)), .val gs, .val (.int (q : Nat)), .ownd (esP [(q, 1)]), s6, s7, s8, s9]) (δ' := (0, 0)) rfl).trans ?_
      simp only [sFrzD, List.getElem?_cons_succ, List.getElem?_cons_zero, List.set_cons_succ, List.set_cons_zero]
      refine (sq_nx (ρ' := rhoC n r row (sg q fun a => pM R m g a a) gs q ps s6' s7' s8' s9') (δ' := (0, 0)) e2).trans ?_
      refine (sq_nx (ρ' := rhoC n r row (sg (q + 1) fun a => pM R m g a a) gs q ps s6' s7' s8' s9') (δ' := (0, 0)) ?_).trans rfl
      simp only [sSet, d2, dV, dDGet, slD, dC, bnd, gq, e0, lft, gAdd, bndS, List.getElem?_cons_succ, List.getElem?_cons_zero, List.set_cons_succ, List.set_cons_zero, hv, sg_succ]) (ρ := [.val (rg n r), .val row, .val (.int 0), .val gs, .un, .un, .un, .un, .un, .un]) ⟨_, _, _, _, _, _, rfl, rfl⟩
  obtain ⟨ρ2, eo, s4, s5, s6, s7, s8, s9, rfl, _⟩ := outer
  have okr : okR (r + 1) = true := okR_s (by omega) (by omega)
  have rgr : rng 0 (r + 1) = (List.range R).map fun (i : Nat) => .int (i : Int) := by
    rw [show r + 1 = ((R : Nat) : Int) by omega]
    exact rng0 _
  simp only [g_count_of, b_count_of]
  simp only [run, startR, List.length_cons, List.length_nil, Nat.reduceAdd, if_true, List.map_cons, List.map_nil, List.cons_append, List.nil_append, Nat.reduceSub, List.replicate_succ, List.replicate_zero]
  rw [sq_nx (ρ' := [.val (rg n r), .val row, .val (.int 0), .val gs, .un, .un, .un, .un, .un, .un]) (δ' := (0, 0)) (by simp [gaps, row, gs])]
  rw [sq_nx (ρ' := [.val (rg n r), .val row, .val (.int (sg R fun a => pM R m g a a)), .val gs, s4, s5, s6, s7, s8, s9]) (δ' := (0, 0)) (by simp [okr, rgr]; exact eo)]
  rfl
/-- how many rows come to a row does not hang on where it begins -/
theorem Of.count {Y Z : Nat → Int} (O : Of n r m Y Z) (P : Per n m Y) (R : Nat) : cnt R m (fun i => Z (i + 1) - Z i - 1) = cnt R m fun i => Y (i + 1) - Y i - 1 := by
  obtain ⟨s, q, h⟩ := O.sh
  have e : (fun i => Z (i + 1) - Z i - 1) = fun i => (fun j => Y (j + 1) - Y j - 1) (i + s) := funext fun i => by
    show Z (i + 1) - Z i - 1 = Y (i + s + 1) - Y (i + s) - 1
    rw [h, h, show i + 1 + s = i + s + 1 by omega]
    omega
  rw [e]
  exact cnt_turn (g := fun j => Y (j + 1) - Y j - 1) O.W.m0 (fun i => by
    show Y (i + m + 1) - Y (i + m) - 1 = _
    rw [show i + m + 1 = i + 1 + m by omega, P.per, P.per]
    omega) s
theorem m_how_many (W : Rw n r m X) (hR : R = r.toNat + 1) : g_how_many [rg n r, tI (ls m X)] = some (.ok (.int (cnt R m fun i => X (i + 1) - X i - 1))) := by
  simp [g_how_many, b_how_many, m_need_row W, m_count_of W hR]
end
end G8

set_option Elab.async false
set_option linter.all false
set_option maxRecDepth 100000
set_option maxHeartbeats 2000000
namespace G8
open PySem PySem.Spec PyProof.Rows L2
section
variable {n r c : Int} {m R : Nat} {X Y Z F G : Nat → Int}
/-! ### turned round -/
theorem m_turned {l : List Int} (hn : 0 < n) (hl : l.length ≤ 1000) (k : Int) : g__law_turned [rg n r, tI l, .int k] = some (.ok (tI (isort (l.map fun x => (x + k) % n)))) := by
  have h5 : l.length ≤ 100000 := by omega
  have lc : lcD (tgN 3) dYes (d2 gMod (d2 gAdd (dV 3) (dV 2)) (d2 gIx (dB 0) (dC (.int 0)))) [.val (rg n r), .val (tI l), .val (.int k), .un] (l.map .int) (0, 0) = some (.ok ((l.map fun x => (x + k) % n).map .int), (0, 0)) := by
    rw [lcD_map (e := fun x => .int ((x + k) % n)), List.map_map]
    · rfl
    · intro x _
      have := gMod_int (i := x + k) hn
      exact ⟨_, rfl, rfl, by simp [this]⟩
  have gs : gSorted [.list ((l.map fun x => (x + k) % n).map .int)] = some ((isort (l.map fun x => (x + k) % n)).map .int) := by
    show (asInts _).map _ = _
    rw [asInts_map, Option.map_some]
  have hlen : (isort (l.map fun x => (x + k) % n)).length ≤ 100000 := by
    rw [(isort_perm _).length_eq, List.length_map]
    exact h5
  simp only [g__law_turned, b__law_turned]
  simp [h5] at lc gs hlen ⊢
  simp [lc, gs, hlen]
theorem wlk_plus (k : Int) : ∀ t, wlk r (fun i => X i + k) t = fun i => wlk r X t i + k
  | 0 => rfl
  | t + 1 => by
    show stp r (wlk r (fun i => X i + k) t) = fun i => stp r (wlk r X t) i + k
    rw [wlk_plus k t]
    funext i
    show min (wlk r X t i + k + r) (wlk r X t (i + 1) + k - 1) = min (wlk r X t i + r) (wlk r X t (i + 1) - 1) + k
    omega
theorem Per.plus (P : Per n m X) (k : Int) : Per n m fun i => X i + k := ⟨fun i => by have := P.per i; omega, fun i => by have := P.inc i; omega⟩
/-- the turned row -/
theorem turned (W : Rw n r m X) (k : Int) : ∃ Z, Of n r m (fun i => X i + k) Z ∧ ∀ t, isort ((rowAt n r m X t).map fun x => (x + k) % n) = rowAt n r m Z t := by
  obtain ⟨Z, h1, O⟩ := rowOf W.R (W.P.plus k) W.m0
  refine ⟨Z, O, fun t => ?_⟩
  rw [O.row (W.P.plus k) t]
  have e : (fun i => wlk r (fun i => X i + k) t i % n) = fun i => (wlk r X t i % n + k) % n := funext fun i => by
    rw [wlk_plus, Int.emod_add_emod]
  rw [e]
  have e2 : (ls m fun i => (wlk r X t i % n + k) % n) = (ls m fun i => wlk r X t i % n).map fun x => (x + k) % n := by
    unfold ls
    rw [List.map_map]
    rfl
  rw [e2]
  exact isort_perm_eq ((isort_perm _).map _)
theorem sh_runs (P : Per n m Y) (hm : 0 < m) {s : Nat} {q : Int} (h : ∀ i, Z i = Y (i + s) - q) : (Runs r Z ↔ Runs r Y) ∧ (Backs r Z ↔ Backs r Y) := by
  have key : ∀ i, ∃ j, Y (i + 1) - Y i = Z (j + 1) - Z j := fun i => by
    have h1 := P.mul i s
    have h2 := P.mul (i + 1) s
    have hs : s ≤ s * m := Nat.le_mul_of_pos_right s hm
    refine ⟨i + s * m - s, ?_⟩
    rw [h, h, show i + s * m - s + 1 + s = i + 1 + s * m by omega, show i + s * m - s + s = i + s * m by omega, h1, h2]
    omega
  refine ⟨⟨fun a i => ?_, fun a i => ?_⟩, ⟨fun a i => ?_, fun a i => ?_⟩⟩
  · obtain ⟨j, e⟩ := key i
    have := a j
    omega
  · have := a (i + s)
    rw [h, h, show i + 1 + s = i + s + 1 by omega]
    omega
  · obtain ⟨j, e⟩ := key i
    have := a j
    omega
  · have := a (i + s)
    rw [h, h, show i + 1 + s = i + s + 1 by omega]
    omega
theorem turned_sett (W : Rw n r m X) {k : Int} (O : Of n r m (fun i => X i + k) Z) (t : Nat) : (Runs r (wlk r Z t) ↔ Runs r (wlk r X t)) ∧ (Backs r (wlk r Z t) ↔ Backs r (wlk r X t)) := by
  obtain ⟨s, q, h⟩ := O.wlk
  refine sh_runs (W.P.wlk W.r0 t) W.m0 (s := s) (q := q * n - k) fun i => ?_
  rw [h, wlk_plus]
  show wlk r X t (i + s) + k - q * n = wlk r X t (i + s) - (q * n - k)
  omega
open Classical in
theorem turned_settles (W : Rw n r m X) {k : Int} (O : Of n r m (fun i => X i + k) Z) : ∃ d, g_settles [rg n r, tI (ls m Z)] = some (.ok d) ∧ g_settles [rg n r, tI (ls m X)] = some (.ok d) ∧ gNe d d = some (.bool false) := by
  obtain ⟨T, S⟩ := W.sett
  have S' : Sett r m Z T := ⟨S.le, by
    have := turned_sett W O T
    exact S.is.imp this.1.mpr this.2.mpr, fun t ht z => S.first t ht (by
    have := turned_sett W O t
    exact z.imp this.1.mp this.2.mp)⟩
  have e1 := m_settles W S
  have e2 := m_settles O.W S'
  have hr := (turned_sett W O T).1
  have nes : ∀ x : Str, PyData.strOk x = true → gNe (.tuple [.int T, .str x]) (.tuple [.int T, .str x]) = some (.bool false) := fun x hx => by
    have hs : SeqAt.shaped (.tuple [.int T, .str x]) = true := by simp [SeqAt.shaped, PyData.canLay0, PyData.canLayAll0, PyData.depth, PyData.depthAll, hx]
    unfold gNe
    rw [if_pos ⟨hs, hs⟩]
    simp
  by_cases z : Runs r (wlk r X T)
  · simp only [if_pos z] at e1
    simp only [if_pos (hr.mpr z)] at e2
    exact ⟨_, e2, e1, nes _ (by decide +kernel)⟩
  · simp only [if_neg z] at e1
    simp only [if_neg (mt hr.mp z)] at e2
    exact ⟨_, e2, e1, nes _ (by decide +kernel)⟩
/-! ### carts and gaps exchanged -/
theorem row_lt (W : Rw n r m X) : (ls m X).Pairwise (· < ·) := ls_pairwise fun i j hij _ => W.P.lt hij
theorem single_next (W : Rw n 1 m Z) {x : Int} (h0 : 0 ≤ x) (h1 : x < n) : x ∈ rowAt n 1 m Z 1 ↔ (x ∈ ls m Z ∧ (x + 1) % n ∈ ls m Z) ∨ (x ∉ ls m Z ∧ (x - 1) % n ∈ ls m Z) := by
  have hn := W.n0
  have hmem : x ∈ rowAt n 1 m Z 1 ↔ ∃ i, i < m ∧ stp 1 Z i % n = x := by
    unfold rowAt
    rw [(isort_perm _).mem_iff, ls_mem]
    rfl
  rw [hmem]
  have hx : x % n = x := Int.emod_eq_of_lt h0 h1
  constructor
  · rintro ⟨i, hi, e⟩
    have hZ := W.at hi
    by_cases c : Z (i + 1) = Z i + 1
    · left
      have es : stp 1 Z i = Z i := by unfold stp; omega
      rw [es, Int.emod_eq_of_lt hZ.1 hZ.2] at e
      subst e
      refine ⟨ls_mem.mpr ⟨i, hi, rfl⟩, ?_⟩
      rw [← c]
      exact gap_end W hi
    · right
      have hinc := W.P.inc i
      have es : stp 1 Z i = Z i + 1 := by unfold stp; omega
      rw [es] at e
      refine ⟨?_, ?_⟩
      · rw [← e]
        exact gap_cells W hi (by omega) (by omega)
      · rw [← e, Int.emod_sub_emod, show Z i + 1 - 1 = Z i by omega, Int.emod_eq_of_lt hZ.1 hZ.2]
        exact ls_mem.mpr ⟨i, hi, rfl⟩
  · rintro (⟨a, b⟩ | ⟨a, b⟩)
    · obtain ⟨i, hi, rfl⟩ := ls_mem.mp a
      have hinc := W.P.inc i
      have : ¬ (1 : Int) < Z (i + 1) - Z i := fun z => gap_cells W hi (k := 1) (by omega) z b
      refine ⟨i, hi, ?_⟩
      have es : stp 1 Z i = Z i := by unfold stp; omega
      rw [es, hx]
    · obtain ⟨i, hi, e⟩ := ls_mem.mp b
      have hinc := W.P.inc i
      have hxz : (Z i + 1) % n = x := by
        rw [e, Int.emod_add_emod, show x - 1 + 1 = x by omega, hx]
      have c : Z (i + 1) ≠ Z i + 1 := fun z => a (by
        have := gap_end W hi
        rw [z, hxz] at this
        exact this)
      refine ⟨i, hi, ?_⟩
      have es : stp 1 Z i = Z i + 1 := by unfold stp; omega
      rw [es, hxz]
/-- the mirror of a row's gaps -/
theorem mirror_mem {m' : Nat} {X' : Nat → Int} (W : Rw n 1 m X) (W' : Rw n 1 m' X') (h : ∀ y, 0 ≤ y → y < n → (y ∈ ls m' X' ↔ n - 1 - y ∉ ls m X)) : ∀ (t : Nat) (y : Int), 0 ≤ y → y < n → (y ∈ rowAt n 1 m' X' t ↔ n - 1 - y ∉ rowAt n 1 m X t)
  | 0, y, h0, h1 => by rw [W.row0, W'.row0]; exact h y h0 h1
  | t + 1, y, h0, h1 => by
    have hn := W.n0
    obtain ⟨Z, e, O⟩ := W.row t
    obtain ⟨Z', e', O'⟩ := W'.row t
    have ih := mirror_mem W W' h t
    rw [e, e'] at ih
    have n1 : rowAt n 1 m X (t + 1) = rowAt n 1 m Z 1 := (O.row (W.P.wlk W.r0 t) 1).symm ▸ (by unfold rowAt; rw [wlk_add])
    have n2 : rowAt n 1 m' X' (t + 1) = rowAt n 1 m' Z' 1 := (O'.row (W'.P.wlk W'.r0 t) 1).symm ▸ (by unfold rowAt; rw [wlk_add])
    rw [n1, n2, single_next O'.W h0 h1, single_next O.W (x := n - 1 - y) (by omega) (by omega)]
    have b1 := Int.emod_nonneg (y + 1) (show n ≠ 0 by omega)
    have b2 := Int.emod_lt_of_pos (y + 1) hn
    have b3 := Int.emod_nonneg (y - 1) (show n ≠ 0 by omega)
    have b4 := Int.emod_lt_of_pos (y - 1) hn
    have f1 : n - 1 - (y + 1) % n = (n - 1 - y - 1) % n := (Int.emod_eq_of_lt (show 0 ≤ n - 1 - (y + 1) % n by omega) (show n - 1 - (y + 1) % n < n by omega)).symm.trans (by
      rw [Int.sub_emod_emod]
      congr 1
      omega)
    have f2 : n - 1 - (y - 1) % n = (n - 1 - y + 1) % n := (Int.emod_eq_of_lt (show 0 ≤ n - 1 - (y - 1) % n by omega) (show n - 1 - (y - 1) % n < n by omega)).symm.trans (by
      rw [Int.sub_emod_emod]
      congr 1
      omega)
    rw [ih y h0 h1, ih _ b1 b2, ih _ b3 b4, f1, f2]
    by_cases p : n - 1 - y ∈ ls m Z
    · by_cases p2 : (n - 1 - y + 1) % n ∈ ls m Z
      · simp [p, p2]
      · simp [p, p2]
    · by_cases p3 : (n - 1 - y - 1) % n ∈ ls m Z
      · simp [p, p3]
      · simp [p, p3]
/-! ### who is ahead stays ahead -/
theorem wlk_mono2 {r' : Int} (hr : r ≤ r') (h : ∀ i, X i ≤ Y i) : ∀ t i, wlk r X t i ≤ wlk r' Y t i
  | 0, i => h i
  | t + 1, i => by
    show min (wlk r X t i + r) (wlk r X t (i + 1) - 1) ≤ min (wlk r' Y t i + r') (wlk r' Y t (i + 1) - 1)
    have h1 := wlk_mono2 hr h t i
    have h2 := wlk_mono2 hr h t (i + 1)
    omega
end
end G8

set_option Elab.async false
set_option linter.all false
set_option maxRecDepth 100000
set_option maxHeartbeats 1000000
namespace G8
open PySem PySem.Spec PyProof.Rows L2
/-! ### rows read -/
theorem oc_go : ∀ (l : List Nat) (k : Nat), ((l.zipIdx k).filterMap fun p => if p.1 = 111 then some ((p.2 : Nat) : Int) else none).Pairwise (· < ·) ∧ ∀ z, z ∈ ((l.zipIdx k).filterMap fun p => if p.1 = 111 then some ((p.2 : Nat) : Int) else none) ↔ ∃ i, l[i]? = some 111 ∧ z = ((k + i : Nat) : Int)
  | [], k => ⟨List.Pairwise.nil, fun z => by simp⟩
  | c :: l, k => by
    obtain ⟨h1, h2⟩ := oc_go l (k + 1)
    rw [List.zipIdx_cons, List.filterMap_cons]
    have tail : ∀ z, (∃ i, l[i]? = some 111 ∧ z = ((k + 1 + i : Nat) : Int)) ↔ ∃ i, 0 < i ∧ (c :: l)[i]? = some 111 ∧ z = ((k + i : Nat) : Int) := fun z => by
      constructor
      · rintro ⟨i, e, rfl⟩
        exact ⟨i + 1, by omega, e, by congr 1; omega⟩
      · rintro ⟨i, hi, e, rfl⟩
        obtain ⟨j, rfl⟩ : ∃ j, i = j + 1 := ⟨i - 1, by omega⟩
        exact ⟨j, e, by congr 1; omega⟩
    by_cases hc : c = 111
    · subst hc
      simp only [if_pos]
      refine ⟨List.pairwise_cons.mpr ⟨fun z hz => ?_, h1⟩, fun z => ?_⟩
      · obtain ⟨i, _, rfl⟩ := (h2 z).mp hz
        omega
      · rw [List.mem_cons, h2, tail]
        constructor
        · rintro (rfl | ⟨i, _, e1, e2⟩)
          · exact ⟨0, rfl, rfl⟩
          · exact ⟨i, e1, e2⟩
        · rintro ⟨i, e1, e2⟩
          by_cases hi : i = 0
          · subst hi
            exact .inl e2
          · exact .inr ⟨i, by omega, e1, e2⟩
    · simp only [if_neg hc]
      refine ⟨h1, fun z => ?_⟩
      rw [h2, tail]
      constructor
      · rintro ⟨i, _, e1, e2⟩
        exact ⟨i, e1, e2⟩
      · rintro ⟨i, e1, e2⟩
        refine ⟨i, ?_, e1, e2⟩
        by_cases hi : i = 0
        · subst hi
          simp at e1
          exact absurd e1 hc
        · omega
theorem oc_up (x : Str) : (oc x).Pairwise (· < ·) := (oc_go x.cps.toList 0).1
theorem oc_mem {x : Str} {z : Int} : z ∈ oc x ↔ ∃ i : Nat, x.cps.toList[i]? = some 111 ∧ z = (i : Int) := by
  have := (oc_go x.cps.toList 0).2 z
  simp only [Nat.zero_add] at this
  exact this
theorem isOD_iff {c : Nat} : isOD c = true ↔ c = 111 ∨ c = 46 := by
  unfold isOD
  rw [w_od, decide_eq_true_iff]
  simp
section
variable {n r : Int} {x : Str} {l : List Int} {m : Nat} {X : Nat → Int}
theorem page_len (h : 0 ≤ n) : ((page n l).length : Int) = n := by
  show (((pg n l).toArray.size : Nat) : Int) = n
  unfold pg
  simp
  omega
theorem page_signs : (page n l).cps.toList = pg n l := rfl
theorem pg_get {i : Nat} (h : i < n.toNat) : (pg n l)[i]? = some (if (i : Int) ∈ l then 111 else 46) := by
  unfold pg
  rw [List.getElem?_map, List.getElem?_range h]
  rfl
theorem tx_page (h : n ≤ 24) (h0 : 0 ≤ n) : Tx (page n l) := by
  refine ⟨?_, fun c hc => ?_⟩
  · have := page_len (n := n) (l := l) h0
    omega
  · rw [page_signs] at hc
    unfold pg at hc
    obtain ⟨i, _, rfl⟩ := List.mem_map.mp hc
    by_cases h : (i : Int) ∈ l <;> simp [h]
theorem page_allO : allO (page n l) = true := by
  unfold allO
  rw [page_signs, List.all_eq_true]
  intro c hc
  unfold pg at hc
  obtain ⟨i, _, rfl⟩ := List.mem_map.mp hc
  rw [isOD_iff]
  by_cases h : (i : Int) ∈ l <;> simp [h]
/-- a text of o's and dots is the page of its o's -/
theorem page_oc (hl : (x.length : Int) = n) (ha : allO x = true) : page n (oc x) = x := by
  refine str_ext ?_
  rw [page_signs]
  have hx : x.cps.toList.length = n.toNat := by
    rw [Array.length_toList]
    have : x.cps.size = x.length := rfl
    omega
  refine List.ext_getElem? fun i => ?_
  by_cases hi : i < n.toNat
  · rw [pg_get hi]
    have hi' : i < x.cps.toList.length := by omega
    rw [List.getElem?_eq_getElem hi']
    have ho := isOD_iff.mp (List.all_eq_true.mp ha _ (List.getElem_mem hi'))
    by_cases h : (i : Int) ∈ oc x
    · rw [if_pos h]
      obtain ⟨j, e, hj⟩ := oc_mem.mp h
      have : j = i := by omega
      subst this
      rw [List.getElem?_eq_getElem hi'] at e
      exact e.symm
    · rw [if_neg h]
      rcases ho with ho | ho
      · exact absurd (oc_mem.mpr ⟨i, by rw [List.getElem?_eq_getElem hi', ho], rfl⟩) h
      · rw [ho]
  · rw [List.getElem?_eq_none (by unfold pg; simp; omega), List.getElem?_eq_none (by omega)]
theorem oc_page (hs : l.Pairwise (· < ·)) (hb : ∀ z ∈ l, 0 ≤ z ∧ z < n) : oc (page n l) = l := by
  refine lt_unique (oc_up _) hs fun z => ?_
  rw [oc_mem, page_signs]
  constructor
  · rintro ⟨i, e, rfl⟩
    by_cases hi : i < n.toNat
    · rw [pg_get hi] at e
      by_cases h : (i : Int) ∈ l
      · exact h
      · rw [if_neg h] at e
        cases e
    · rw [List.getElem?_eq_none (by unfold pg; simp; omega)] at e
      cases e
  · intro h
    have := hb z h
    refine ⟨z.toNat, ?_, by omega⟩
    rw [pg_get (by omega), if_pos (by rwa [show ((z.toNat : Nat) : Int) = z by omega])]
theorem w_up (W : Rw n r m X) : (ls m X).Pairwise (· < ·) := row_lt W
theorem w_in (W : Rw n r m X) : ∀ z ∈ ls m X, 0 ≤ z ∧ z < n := fun z hz => by
  obtain ⟨i, hi, rfl⟩ := ls_mem.mp hz
  have lo := W.lo
  have hh := W.hi
  constructor
  · by_cases h : i = 0
    · rw [h]; exact lo
    · have := W.P.lt (show 0 < i by omega)
      omega
  · by_cases h : i = m - 1
    · rw [h]; exact hh
    · have := W.P.lt (show i < m - 1 by omega)
      omega
theorem gd_row (W : Rw n r m X) : gdB n (ls m X) = true := by
  have h1 := m_is_good_row W
  have h2 := m_good_ints (n := n) (r := r) (l := ls m X) (by have := W.m24; simp; omega)
  rw [h1] at h2
  have h2 : some (Except.ok (ε := String) (PyData.bool true)) = some (.ok (.bool (gdB n (ls m X)))) := h2
  simp only [Option.some.injEq, Except.ok.injEq, PyData.bool.injEq] at h2
  exact h2.symm
theorem read_row_of (R : Rg n r) (x : Str) : g_read_row [rg n r, .str x] = g_row_in [rg n r, .str x] := by
  have nt : g_need_text [.str x] = some (.ok .none) := by simp [g_need_text, b_need_text]
  simp only [g_read_row, b_read_row]
  simp [m_need_ring R, nt]
  cases g_row_in [rg n r, .str x] with
  | none => rfl
  | some z => cases z <;> rfl
theorem a_read_row (R : Rg n r) (hx : Tx x) : g_read_row [rg n r, .str x] = some (.error "BadText") ∨ ∃ m X, Rw n r m X ∧ g_read_row [rg n r, .str x] = some (.ok (tI (ls m X))) ∧ page n (ls m X) = x := by
  rw [read_row_of R, m_row_in hx]
  by_cases h : (x.length : Int) = n ∧ allO x = true ∧ gdB n (oc x) = true
  · rw [if_pos h]
    right
    obtain ⟨h1, h2, h3⟩ := h
    have hne : oc x ≠ [] := fun z => by
      rw [z] at h3
      simp [gdB] at h3
    have hb : ∀ z ∈ oc x, 0 ≤ z ∧ z < n := fun z hz => by
      obtain ⟨i, e, rfl⟩ := oc_mem.mp hz
      have := (List.getElem?_eq_some_iff.mp e).1
      rw [Array.length_toList] at this
      have e2 : x.cps.size = x.length := rfl
      omega
    obtain ⟨X, e, W⟩ := row_of R (oc_up x) hne hb
    exact ⟨(oc x).length, X, W, by rw [← e], by rw [← e]; exact page_oc h1 h2⟩
  · rw [if_neg h]
    exact .inl rfl
theorem m_read_page (W : Rw n r m X) : g_read_row [rg n r, .str (page n (ls m X))] = some (.ok (tI (ls m X))) := by
  have h1 := W.R.n1
  have h0 := W.R.n0
  rw [read_row_of W.R, m_row_in (tx_page h1 (by omega)), oc_page (w_up W) (w_in W), if_pos ⟨page_len (by omega), page_allO, gd_row W⟩]
theorem x_read_len (R : Rg n r) (hx : Tx x) (h : (x.length : Int) ≠ n) : g_read_row [rg n r, .str x] = some (.error "BadText") := by
  rw [read_row_of R, m_row_in hx, if_neg fun z => h z.1]
theorem x_read_sign (R : Rg n r) (hx : Tx x) (h : allO x = false) : g_read_row [rg n r, .str x] = some (.error "BadText") := by
  rw [read_row_of R, m_row_in hx, if_neg fun z => by rw [z.2.1] at h; cases h]
theorem x_read_none (R : Rg n r) (hx : Tx x) (h : oc x = []) : g_read_row [rg n r, .str x] = some (.error "BadText") := by
  rw [read_row_of R, m_row_in hx, h, if_neg fun z => by have := z.2.2; simp [gdB] at this]
theorem x_text {d : D} (hp : PyData.plain d = true) (h : PyData.isStr d = false) : g_need_text [d] = some (.error "BadText") := by
  simp [g_need_text, b_need_text, hp, h]
theorem x_read_row (R : Rg n r) {d : D} (hp : PyData.plain d = true) (h : PyData.isStr d = false) : g_read_row [rg n r, d] = some (.error "BadText") := by
  simp [g_read_row, b_read_row, m_need_ring R, x_text hp h]
theorem x_ring_text {d : D} (hp : PyData.plain d = true) (h : PyData.isStr d = false) : g_read_ring [d] = some (.error "BadText") := by
  simp [g_read_ring, b_read_ring, x_text hp h]
end
end G8

set_option Elab.async false
set_option linter.all false
set_option maxRecDepth 100000
set_option maxHeartbeats 1000000
namespace G8
open PySem PySem.Spec PyProof.Rows L2
/-! ### bent texts, far texts -/
theorem cut_sub (x : Str) (lo hi : Option Int) : (cutS x lo hi).cps.toList.Sublist x.cps.toList := (List.take_sublist ..).trans (List.drop_sublist ..)
theorem cut_len (x : Str) (lo hi : Option Int) : (cutS x lo hi).length ≤ x.length := by
  have := (cut_sub x lo hi).length_le
  rw [Array.length_toList, Array.length_toList] at this
  exact this
theorem tx_app {x y : Str} (hx : Tx x) (hy : Tx y) (h : x.length + y.length ≤ 1000) : Tx (x ++ y) := by
  refine ⟨by rw [len_app]; exact h, fun c hc => ?_⟩
  rw [app_signs, List.mem_append] at hc
  rcases hc with hc | hc
  · exact hx.cod c hc
  · exact hy.cod c hc
theorem tx_0 : Tx "" := tx_w (l := []) (by decide +kernel) ⟨by decide, by decide⟩
theorem tx_1 {c : Nat} (h : c < 1114112) : Tx ⟨#[c]⟩ := tx_w (l := [c]) rfl ⟨by simp, by simpa using h⟩
theorem m_law_spoilt {x sg : Str} (hx : Tx x) (hl : x.length ≤ 100) (hs : Tx sg) (hs0 : 0 < sg.length) (hs1 : sg.length ≤ 100) (δ : Dl) : ∃ y δ', g__law_spoilt [.str x, .str sg] δ = some (.str y, δ') ∧ Tx y := by
  have h5 : x.length ≤ 100000 := by omega
  have h6 : sg.length ≤ 100000 := by omega
  obtain ⟨t, δ1, e1, t0, t1⟩ := m_law_roll δ (k := (x.length : Int) + 1) (by omega) (by omega)
  obtain ⟨act, δ2, e2, a0, a1⟩ := m_law_roll δ1 (k := 3) (by omega) (by omega)
  have k1 : ∀ s : Str, s.length ≤ 1 → (cutS x none (some t)).length + s.length ≤ 100000 := fun s h => by
    have c1 := cut_len x none (some t)
    omega
  have k2 : ∀ (s : Str) (k : Int), s.length ≤ 1 → (cutS x none (some t) ++ s).length + (cutS x (some k) none).length ≤ 100000 := fun s k h => by
    have c1 := cut_len x none (some t)
    have c2 := cut_len x (some k) none
    rw [len_app]
    omega
  have tx : ∀ (s : Str) (k : Int), Tx s → s.length ≤ 1 → Tx (cutS x none (some t) ++ s ++ cutS x (some k) none) := fun s k hs h => by
    have c1 := cut_len x none (some t)
    have c2 := cut_len x (some k) none
    exact tx_app (tx_app (tx_sub hx (cut_sub ..)) hs (by omega)) (tx_sub hx (cut_sub ..)) (by rw [len_app]; omega)
  by_cases h2 : act < 2
  · obtain ⟨z, δ3, e3, z0, z1⟩ := m_law_roll δ2 (k := (sg.length : Int)) (by omega) (by omega)
    have hz : z.toNat < sg.cps.toList.length := by
      rw [Array.length_toList]
      have : sg.cps.size = sg.length := rfl
      omega
    obtain ⟨c, hc⟩ : ∃ c, c = sg.cps.toList[z.toNat] := ⟨_, rfl⟩
    have ea : atI sg.cps.toList z = some c := by rw [hc]; exact atI_int z0 hz
    have t1' : Tx ⟨#[c]⟩ := tx_1 (hs.cod _ (by rw [hc]; exact List.getElem_mem hz))
    have l1 : (⟨#[c]⟩ : Str).length ≤ 1 := Nat.le_refl _
    clear hc
    by_cases h0 : 0 < act
    · refine ⟨_, δ3, ?_, tx ⟨#[c]⟩ (t + 1) t1' l1⟩
      have a1 := k1 _ l1
      have a2 := k2 _ (t + 1) l1
      simp only [g__law_spoilt, b__law_spoilt]
      simp [h5, h6, e1, e2, e3, h2, h0, ea, a1, a2]
    · refine ⟨_, δ3, ?_, tx ⟨#[c]⟩ t t1' l1⟩
      have a1 := k1 _ l1
      have a2 := k2 _ t l1
      simp only [g__law_spoilt, b__law_spoilt]
      simp [h5, h6, e1, e2, e3, h2, h0, ea, a1, a2]
  · have l1 : ("" : Str).length ≤ 1 := by decide +kernel
    have h0 : 0 < act := by omega
    refine ⟨_, δ2, ?_, tx "" (t + 1) tx_0 l1⟩
    have a1 := k1 _ l1
    have a2 := k2 _ (t + 1) l1
    simp only [g__law_spoilt, b__law_spoilt]
    simp [h5, h6, e1, e2, h2, h0, a1, a2]
section
variable {n r : Int} {x : Str} {l : List Int} {m : Nat} {X : Nat → Int}
theorem mul_signs {c : Nat} {k : Int} (h : 2 ≤ k) : (Txt.mul ⟨#[c]⟩ k).cps.toList = List.replicate k.toNat c := by
  have h1 : ¬ k < 1 := by omega
  have h2 : ¬ ((k == 1 || (⟨#[c]⟩ : Str).length == 0) = true) := by
    have : (⟨#[c]⟩ : Str).length = 1 := rfl
    rw [this]
    simp
    omega
  unfold Txt.mul
  rw [if_neg h1, if_neg h2]
  show ((List.replicate k.toNat #[c]).foldl (· ++ ·) #[]).toList = _
  have go : ∀ (j : Nat) (a : Array Nat), ((List.replicate j #[c]).foldl (· ++ ·) a).toList = a.toList ++ List.replicate j c := fun j => by
    induction j with
    | zero => intro a; simp
    | succ j ih =>
      intro a
      rw [List.replicate_succ, List.foldl_cons, ih, List.replicate_succ]
      simp
  rw [go]
  rfl
theorem cut1_len (h : 1 ≤ x.length) : (cutS x (some 1) none).length + 1 = x.length := by
  show (((x.cps.toList.drop (HT.sIx x.length 0 (some 1))).take (HT.sIx x.length x.length none - HT.sIx x.length 0 (some 1))).toArray).size + 1 = x.length
  have e1 : HT.sIx x.length 0 (some 1) = 1 := by
    unfold HT.sIx
    simp
    omega
  have e2 : HT.sIx x.length x.length none = x.length := rfl
  have e3 : x.cps.toList.length = x.length := by rw [Array.length_toList]; rfl
  rw [e1, e2, List.size_toArray, List.length_take, List.length_drop, e3]
  omega
theorem m_law_far_texts (W : Rw n r m X) : g__law_far_texts [rg n r, .str (page n (ls m X)), .str (rT n r)] = some (.ok (.bool true)) := by
  have R := W.R
  have h0 := R.n0
  have h1 := R.n1
  have r0 := R.r0
  have r1 := R.r1
  have bt : "BadText" ∈ excN := by decide
  obtain ⟨pgx, hp⟩ : ∃ y, y = page n (ls m X) := ⟨_, rfl⟩
  have tp : Tx pgx := by rw [hp]; exact tx_page h1 (by omega)
  have lp : (pgx.length : Int) = n := by rw [hp]; exact page_len (by omega)
  obtain ⟨tx, ht⟩ : ∃ y, y = rT n r := ⟨_, rfl⟩
  have tt : Tx tx ∧ tx.length ≤ 20 := by
    obtain ⟨a, rfl⟩ : ∃ a : Nat, n = (a : Int) := ⟨n.toNat, by omega⟩
    obtain ⟨b, rfl⟩ : ∃ b : Nat, r = (b : Int) := ⟨r.toNat, by omega⟩
    rw [ht]
    exact ⟨tx_rT (by omega) (by omega), len_rT (by omega) (by omega)⟩
  rw [← hp, ← ht]
  have lo : ("o" : Str).length = 1 := by decide +kernel
  have ls1 : (" " : Str).length = 1 := by decide +kernel
  have to : Tx "o" := tx_w (by rw [w_o]) ⟨by decide, by decide⟩
  have ts : Tx " " := tx_w w_sp ⟨by decide, by decide⟩
  have k1 : pgx.length + ("o" : Str).length ≤ 100000 := by omega
  have k2 : pgx.length + (" " : Str).length ≤ 100000 := by omega
  have k3 : pgx.length ≤ 100000 := by omega
  have k4 : tx.length + (" " : Str).length ≤ 100000 := by have := tt.2; omega
  have k5 : (" " : Str).length + tx.length ≤ 100000 := by have := tt.2; omega
  have md : ∀ c : Nat, (⟨#[c]⟩ : Str).length ≤ 100 ∧ 0 ≤ n ∧ n ≤ 1000 := fun c => ⟨by show 1 ≤ 100; omega, by omega, by omega⟩
  let dots : Str := Txt.mul ⟨#[46]⟩ n
  let exes : Str := Txt.mul ⟨#[120]⟩ n
  have g1 : gMulS (.str ".") (.int n) = some (.str dots) := by
    rw [w_dot]
    show (if _ then _ else _) = _
    rw [if_pos (md 46)]
  have w_x : ("x" : Str) = ⟨#[120]⟩ := by decide +kernel
  have g2 : gMulS (.str "x") (.int n) = some (.str exes) := by
    rw [w_x]
    show (if _ then _ else _) = _
    rw [if_pos (md 120)]
  have sd : dots.cps.toList = List.replicate n.toNat 46 := mul_signs (by omega)
  have se : exes.cps.toList = List.replicate n.toNat 120 := mul_signs (by omega)
  have td : Tx dots := tx_w sd ⟨by rw [List.length_replicate]; omega, fun c hc => by rw [(List.mem_replicate.mp hc).2]; omega⟩
  have te : Tx exes := tx_w se ⟨by rw [List.length_replicate]; omega, fun c hc => by rw [(List.mem_replicate.mp hc).2]; omega⟩
  let c1 : List D := [.none, .int 5, .bool true, .str "", .str (pgx ++ "o"), .str (cutS pgx (some 1) none), .str dots, .str exes, .str (pgx ++ " "), .list [.str pgx]]
  have hc1 : ∀ d ∈ c1, g_read_row [rg n r, d] = some (.error "BadText") := fun d hd => by
    simp only [c1, List.mem_cons, List.not_mem_nil, or_false] at hd
    rcases hd with rfl | rfl | rfl | rfl | rfl | rfl | rfl | rfl | rfl | rfl
    · exact x_read_row R rfl rfl
    · exact x_read_row R rfl rfl
    · exact x_read_row R rfl rfl
    · refine x_read_len R tx_0 ?_
      have : ("" : Str).length = 0 := by decide +kernel
      rw [this]
      omega
    · exact x_read_len R (tx_app tp to (by omega)) (by rw [len_app, lo]; omega)
    · refine x_read_len R (tx_sub tp (cut_sub ..)) ?_
      have := cut1_len (x := pgx) (by omega)
      omega
    · refine x_read_none R td (List.eq_nil_iff_forall_not_mem.mpr fun z hz => ?_)
      obtain ⟨i, e, _⟩ := oc_mem.mp hz
      rw [sd] at e
      have := (List.mem_replicate.mp (List.mem_of_getElem? e)).2
      omega
    · refine x_read_sign R te (Bool.eq_false_iff.mpr fun z => ?_)
      unfold allO at z
      rw [se] at z
      have := isOD_iff.mp (List.all_eq_true.mp z 120 (List.mem_replicate.mpr ⟨by omega, rfl⟩))
      omega
    · exact x_read_len R (tx_app tp ts (by omega)) (by rw [len_app, ls1]; omega)
    · exact x_read_row R rfl rfl
  let c2 : List D := [.none, .int 5, .bool true, .str "", .str (tx ++ " "), .str (" " ++ tx), .str "3 cells, reach 1", .str "25 cells, reach 1"]
  let c3 : List D := [.str "4 cells, reach 0", .str "4 cells, reach 4", .str "04 cells, reach 1", .str "4 cells reach 1"]
  have fr : ∀ y ∈ (["", "3 cells, reach 1", "25 cells, reach 1", "4 cells, reach 0", "4 cells, reach 4", "04 cells, reach 1", "4 cells reach 1"] : List Str), g_read_ring [.str y] = some (.error "BadText") := fun y hy => by
    have h : ∀ y ∈ (["", "3 cells, reach 1", "25 cells, reach 1", "4 cells, reach 0", "4 cells, reach 4", "04 cells, reach 1", "4 cells reach 1"] : List Str), y.length ≤ 1000 ∧ ∀ c ∈ y.cps.toList, c < 1114112 := by decide +kernel
    exact x_read_ring ⟨(h y hy).1, (h y hy).2⟩ (far_ring y hy)
  have hc2 : ∀ d ∈ c2 ++ c3 ++ [.list [.str tx]], g_read_ring [d] = some (.error "BadText") := fun d hd => by
    simp only [c2, c3, List.cons_append, List.nil_append, List.mem_cons, List.not_mem_nil, or_false] at hd
    rcases hd with rfl | rfl | rfl | rfl | rfl | rfl | rfl | rfl | rfl | rfl | rfl | rfl | rfl
    · exact x_ring_text rfl rfl
    · exact x_ring_text rfl rfl
    · exact x_ring_text rfl rfl
    · exact fr _ (by simp)
    · exact x_read_ring (tx_app tt.1 ts (by have := tt.2; omega)) fun a _ b _ _ => no_end a b tx
    · exact x_read_ring (tx_app ts tt.1 (by have := tt.2; omega)) fun a _ b _ _ => no_begin a b tx
    · exact fr _ (by simp)
    · exact fr _ (by simp)
    · exact fr _ (by simp)
    · exact fr _ (by simp)
    · exact fr _ (by simp)
    · exact fr _ (by simp)
    · exact x_ring_text rfl rfl
  have loop1 := forD_all (td := tgN 4) (body := b__law_far_texts_l1) (h := fun d : D => d) (δ := (0, 0)) (I := fun ρ => ∃ s4, ρ = [.val (rg n r), .val (.str pgx), .val (.str tx), .val (.list c1), s4]) (xs := c1)
    (ρ := [.val (rg n r), .val (.str pgx), .val (.str tx), .val (.list c1), .un]) (fun d hd ρ ⟨s4, e⟩ => by
      subst e
      refine ⟨_, [.val (rg n r), .val (.str pgx), .val (.str tx), .val (.list c1), .val d], rfl, ?_, _, rfl⟩
      simp [b__law_far_texts_l1, hc1 d hd, bt, gNe_ref1 bt]) ⟨_, rfl⟩
  obtain ⟨ρ1, e1, s4, rfl⟩ := loop1
  have loop0 := forD_all (td := tgN 4) (body := b__law_far_texts_l0) (h := fun d : D => d) (δ := (0, 0)) (I := fun ρ => ∃ s4, ρ = [.val (rg n r), .val (.str pgx), .val (.str tx), .val (.list (c2 ++ c3 ++ [.list [.str tx]])), s4]) (xs := c2 ++ c3 ++ [.list [.str tx]])
    (ρ := [.val (rg n r), .val (.str pgx), .val (.str tx), .val (.list (c2 ++ c3 ++ [.list [.str tx]])), s4]) (fun d hd ρ ⟨s4, e⟩ => by
      subst e
      refine ⟨_, [.val (rg n r), .val (.str pgx), .val (.str tx), .val (.list (c2 ++ c3 ++ [.list [.str tx]])), .val d], rfl, ?_, _, rfl⟩
      simp [b__law_far_texts_l0, hc2 d hd, bt, gNe_ref1 bt]) ⟨_, rfl⟩
  obtain ⟨ρ0, e0, s4', rfl⟩ := loop0
  rw [List.map_id'] at e0 e1
  have q1 : g_read_ring [.str "24 cells, reach 3"] = some (.ok (rg 24 3)) := by
    have : ("24 cells, reach 3" : Str) = rT 24 3 := by decide +kernel
    rw [this]
    exact a_read_rT ⟨by omega, by omega, by omega, by omega⟩
  have q2 : g_read_row [rg 4 1, .str "...o"] = some (.ok (tI [3])) := by
    have R4 : Rg 4 1 := ⟨by omega, by omega, by omega, by omega⟩
    obtain ⟨Y, eY, WY⟩ := row_of R4 (l := [3]) (by simp) (by simp) (by simp)
    have := m_read_page WY
    rw [← eY] at this
    have e : ("...o" : Str) = page 4 [3] := by decide +kernel
    rw [e]
    exact this
  simp only [g__law_far_texts, b__law_far_texts]
  simp only [run, startR, List.length_cons, List.length_nil, Nat.reduceAdd, if_true, List.map_cons, List.map_nil, List.cons_append, List.nil_append, Nat.reduceSub, List.replicate_succ, List.replicate_zero]
  rw [sq_nx (ρ' := [.val (rg n r), .val (.str pgx), .val (.str tx), .val (.list c1), .un]) (δ' := (0, 0)) (by simp [-gMulS, k1, k2, k3, g1, g2, c1])]
  rw [sq_nx (ρ' := [.val (rg n r), .val (.str pgx), .val (.str tx), .val (.list c1), s4]) (δ' := (0, 0)) (by simp; exact e1)]
  rw [sq_nx (ρ' := [.val (rg n r), .val (.str pgx), .val (.str tx), .val (.list c2), s4]) (δ' := (0, 0)) (by simp [k4, k5, c2])]
  rw [sq_nx (ρ' := [.val (rg n r), .val (.str pgx), .val (.str tx), .val (.list (c2 ++ c3)), s4]) (δ' := (0, 0)) (by simp [c2, c3])]
  rw [sq_nx (ρ' := [.val (rg n r), .val (.str pgx), .val (.str tx), .val (.list (c2 ++ c3 ++ [.list [.str tx]])), s4]) (δ' := (0, 0)) (by simp [c2, c3])]
  rw [sq_nx (ρ' := [.val (rg n r), .val (.str pgx), .val (.str tx), .val (.list (c2 ++ c3 ++ [.list [.str tx]])), s4']) (δ' := (0, 0)) (by simp; exact e0)]
  have ge1 : gEq (rg 24 3) (.tuple [.int 24, .int 3]) = some (.bool true) := gEq_tI [24, 3] [24, 3]
  have ge2 : gEq (tI [3]) (.tuple [.int 3]) = some (.bool true) := gEq_tI [3] [3]
  simp [q1, q2, ge1, ge2]
end
end G8

set_option Elab.async false
set_option linter.all false
set_option maxRecDepth 100000
set_option maxHeartbeats 4000000
namespace G8
open PySem PySem.Spec PyProof.Rows L2
section
variable {n r : Int} {m : Nat} {X : Nat → Int}
abbrev rho10 (n r : Int) (m : Nat) (X : Nat → Int) (p t : Str) (s7 s8 s9 s10 : Sl) : Rho := [.un, .dice, .val (rg n r), .val (tI (ls m X)), .val (.str p), .un, .val (.str t), s7, s8, s9, s10]
theorem tx_sg1 : Tx "o. O" ∧ 0 < ("o. O" : Str).length ∧ ("o. O" : Str).length ≤ 100 := ⟨tx_w (l := [111, 46, 32, 79]) (by decide +kernel) ⟨by decide, by decide⟩, by decide +kernel, by decide +kernel⟩
theorem tx_sg2 : Tx "0123456 ,cr" ∧ 0 < ("0123456 ,cr" : Str).length ∧ ("0123456 ,cr" : Str).length ≤ 100 := ⟨tx_w (l := [48, 49, 50, 51, 52, 53, 54, 32, 44, 99, 114]) (by decide +kernel) ⟨by decide, by decide⟩, by decide +kernel, by decide +kernel⟩
theorem gNe_tref (ns : List Int) (x : String) (hx : x ∈ excN) : gNe (tI ns) (refused x) = some (.bool true) := by
  unfold gNe
  rw [if_pos ⟨sh_ints ns, sh_refd x hx⟩]
  unfold refused
  rw [u_eqv_tt]
  cases ns with
  | nil => simp [PyData.eqvAll]
  | cons a l => simp [PyData.eqvAll]
theorem bent_loop (W : Rw n r m X) {p t : Str} (hp : Tx p) (hpl : p.length ≤ 100) (ht : Tx t) (htl : t.length ≤ 100) (δ : Dl) : ∃ s7 s8 s9 s10 δ', forD (tgN 7) b_law_l0 ((List.range 10).map fun (i : Nat) => .int (i : Int)) (rho10 n r m X p t .un .un .un .un) δ = some (.nx (rho10 n r m X p t s7 s8 s9 s10), δ') := by
  have R := W.R
  have bt : "BadText" ∈ excN := by decide
  obtain ⟨ρ2, δ2, e, s7, s8, s9, s10, rfl⟩ := forD_inv (td := tgN 7) (body := b_law_l0) (h := fun (i : Nat) => .int (i : Int)) (fun xs ρ δ => ∃ s7 s8 s9 s10, ρ = rho10 n r m X p t s7 s8 s9 s10) δ (List.range 10) (rho10 n r m X p t .un .un .un .un) δ ⟨_, _, _, _, rfl⟩ (fun i xs ρ δ ⟨s7, s8, s9, s10, e⟩ => by
    subst e
    obtain ⟨y, δ1, e1, ty⟩ := m_law_spoilt hp hpl tx_sg1.1 tx_sg1.2.1 tx_sg1.2.2 δ
    obtain ⟨z, δ2, e2, tz⟩ := m_law_spoilt ht htl tx_sg2.1 tx_sg2.2.1 tx_sg2.2.2 δ1
    have gy := gNe_ss ty ty
    have gz := gNe_ss tz tz
    rw [decide_eq_true rfl] at gy gz
    have first : ∃ d, ∀ h : DS, sSeq (sSet 9 (dTold (dCall g_read_row (aCons (dV 2) (aCons (dV 8) aNil))))) (sSeq (sIf (dAnd (d2 gNe (dV 9) (dTup (aCons (dC (.str "refused")) (aCons (dC (.str "BadText")) aNil)))) (dOr (dNot (dCall g_is_row (aCons (dV 2) (aCons (dV 9) aNil)))) (d2 gNe (dCall g_row_text (aCons (dV 2) (aCons (dV 9) aNil))) (dV 8)))) (sSeq (sRet (dC (.bool false))) sNil) sNil) h) (rho10 n r m X p t (.val (.int (i : Int))) (.val (.str y)) s9 s10) δ1 = h (rho10 n r m X p t (.val (.int (i : Int))) (.val (.str y)) (.val d) s10) δ1 := by
      rcases a_read_row R ty with er | ⟨m', X', W', er, ep⟩
      · refine ⟨refused "BadText", fun h => ?_⟩
        refine (sq_nx (ρ' := rho10 n r m X p t (.val (.int (i : Int))) (.val (.str y)) (.val (refused "BadText")) s10) (δ' := δ1) (by simp [er, bt])).trans ?_
        exact sq_no (by simp [gNe_ref1 bt])
      · refine ⟨tI (ls m' X'), fun h => ?_⟩
        refine (sq_nx (ρ' := rho10 n r m X p t (.val (.int (i : Int))) (.val (.str y)) (.val (tI (ls m' X'))) s10) (δ' := δ1) (by simp [er])).trans ?_
        have e3 := m_row_text W'
        rw [ep] at e3
        exact sq_no (by simp [gNe_tref _ _ bt, m_is_row W', e3, gy])
    have second : ∀ s9, ∃ d, ∀ h : DS, sSeq (sSet 9 (dTold (dCall g_read_ring (aCons (dV 10) aNil)))) (sSeq (sIf (dAnd (d2 gNe (dV 9) (dTup (aCons (dC (.str "refused")) (aCons (dC (.str "BadText")) aNil)))) (dOr (dNot (dCall g_is_ring (aCons (dV 9) aNil))) (d2 gNe (dCall g_ring_text (aCons (dV 9) aNil)) (dV 10)))) (sSeq (sRet (dC (.bool false))) sNil) sNil) h) (rho10 n r m X p t (.val (.int (i : Int))) (.val (.str y)) s9 (.val (.str z))) δ2 = h (rho10 n r m X p t (.val (.int (i : Int))) (.val (.str y)) (.val d) (.val (.str z))) δ2 := fun s9 => by
      rcases a_read_ring tz with er | ⟨n', r', R', er, ep⟩
      · refine ⟨refused "BadText", fun h => ?_⟩
        refine (sq_nx (ρ' := rho10 n r m X p t (.val (.int (i : Int))) (.val (.str y)) (.val (refused "BadText")) (.val (.str z))) (δ' := δ2) (by simp [er, bt])).trans ?_
        exact sq_no (by simp [gNe_ref1 bt])
      · refine ⟨rg n' r', fun h => ?_⟩
        refine (sq_nx (ρ' := rho10 n r m X p t (.val (.int (i : Int))) (.val (.str y)) (.val (rg n' r')) (.val (.str z))) (δ' := δ2) (by simp [er])).trans ?_
        have e3 := m_ring_text R'
        rw [ep] at e3
        have e4 : gNe (rg n' r') (refused "BadText") = some (.bool true) := gNe_tref [n', r'] _ bt
        exact sq_no (by simp [e4, m_is_ring R', e3, gz])
    obtain ⟨d1, f1'⟩ := first
    obtain ⟨d2', f2'⟩ := second (.val d1)
    refine ⟨_, rho10 n r m X p t (.val (.int (i : Int))) (.val (.str y)) (.val d2') (.val (.str z)), δ2, rfl, ?_, _, _, _, _, rfl⟩
    simp only [b_law_l0]
    refine (sq_nx (ρ' := rho10 n r m X p t (.val (.int (i : Int))) (.val (.str y)) s9 s10) (δ' := δ1) (by simp [e1])).trans ?_
    refine (f1' _).trans ?_
    refine (sq_nx (ρ' := rho10 n r m X p t (.val (.int (i : Int))) (.val (.str y)) (.val d1) (.val (.str z))) (δ' := δ2) (by simp [e2])).trans ?_
    exact (f2' _).trans rfl)
  exact ⟨_, _, _, _, _, e⟩
theorem pure_law : ∀ c : Int, ∃ ρ' δ', b_law ρ0 (c, 0) = some (.nx ρ', δ') ∧ ρ'.length = 11 := by
  intro c
  obtain ⟨n, r, δ1, e1, R, hn⟩ := m_law_any_ring (c, 0) (k := 24) (by omega) (by omega)
  obtain ⟨m, X, δ2, e2, W⟩ := m_law_any_row δ1 R
  have h0 := R.n0
  have h1 := R.n1
  have r0 := R.r0
  have r1 := R.r1
  have okn : okR n = true := okR_s (by omega) (by omega)
  have hl : n.toNat ≤ 100000 := by omega
  obtain ⟨p, hp⟩ : ∃ p, p = page n (ls m X) := ⟨_, rfl⟩
  have tp : Tx p := by rw [hp]; exact tx_page h1 (by omega)
  have lp : (p.length : Int) = n := by rw [hp]; exact page_len (by omega)
  have jn := joinD n (ls m X) h1
  have lc := lc_page (n := n) (l := ls m X) (ρ := [.un, .dice, .val (rg n r), .val (tI (ls m X)), .un, .un, .un, .un, .un, .un, .un]) (δ := δ2) (i := 5) (j := 3) (by simp) (by omega) rfl
  have q1 := m_row_text W
  have q2 := m_ring_text R
  have q3 := m_read_page W
  have q4 := a_read_rT R
  have q5 := m_law_far_texts W
  rw [← hp] at jn q1 q3 q5
  have tt : Tx (rT n r) ∧ (rT n r).length ≤ 20 := by
    obtain ⟨a, rfl⟩ : ∃ a : Nat, n = (a : Int) := ⟨n.toNat, by omega⟩
    obtain ⟨b, rfl⟩ : ∃ b : Nat, r = (b : Int) := ⟨r.toNat, by omega⟩
    exact ⟨tx_rT (by omega) (by omega), len_rT (by omega) (by omega)⟩
  have txt : (d2 gAdd (d2 gAdd (dCB gStr (aCons (d2 gIx (dB 2) (dC (.int 0))) aNil)) (dC (.str " cells, reach "))) (dCB gStr (aCons (d2 gIx (dB 2) (dC (.int 1))) aNil))) [.un, .dice, .val (rg n r), .val (tI (ls m X)), .val (.str p), .un, .un, .un, .un, .un, .un] δ2 = some (.ok (.str (rT n r)), δ2) := by
    obtain ⟨a, rfl⟩ : ∃ a : Nat, n = (a : Int) := ⟨n.toNat, by omega⟩
    obtain ⟨b, rfl⟩ : ∃ b : Nat, r = (b : Int) := ⟨r.toNat, by omega⟩
    have p40 : (1000 : Nat) < 10 ^ 40 := by decide
    have f1 := gStr_tS (fits40 (show a < 10 ^ 40 by omega))
    have f2 := gStr_tS (fits40 (show b < 10 ^ 40 by omega))
    have la := len_num (show a < 1000 by omega)
    have lb := len_num (show b < 1000 by omega)
    have le : (" cells, reach " : Str).length = 14 := by decide +kernel
    have k2 : (tS (a : Int)).length + (" cells, reach " : Str).length ≤ 100000 := by omega
    have k3 : (tS (a : Int) ++ " cells, reach ").length + (tS (b : Int)).length ≤ 100000 := by rw [len_app, le]; omega
    simp [-gStr, f1, f2, k2, k3, rT]
  obtain ⟨s7, s8, s9, s10, δ3, el⟩ := bent_loop W tp (by omega) tt.1 (by have := tt.2; omega) δ2
  have gp := gNe_ss tp tp
  have gt := gNe_ss tt.1 tt.1
  rw [decide_eq_true rfl] at gp gt
  have gr := gNe_tI (ls m X) (ls m X)
  have gg : gNe (rg n r) (rg n r) = some (.bool false) := by
    have := gNe_tI [n, r] [n, r]
    rw [decide_eq_true rfl] at this
    exact this
  refine ⟨rho10 n r m X p (rT n r) s7 s8 s9 s10, δ3, ?_, rfl⟩
  have e00 : ρ0 = [.un, .dice, .un, .un, .un, .un, .un, .un, .un, .un, .un] := rfl
  rw [e00]
  simp only [b_law]
  refine (sq_nx (ρ' := [.un, .dice, .val (rg n r), .un, .un, .un, .un, .un, .un, .un, .un]) (δ' := δ1) (by simp [e1])).trans ?_
  refine (sq_nx (ρ' := [.un, .dice, .val (rg n r), .val (tI (ls m X)), .un, .un, .un, .un, .un, .un, .un]) (δ' := δ2) (by simp [e2])).trans ?_
  refine (sq_nx (ρ' := [.un, .dice, .val (rg n r), .val (tI (ls m X)), .val (.str p), .un, .un, .un, .un, .un, .un]) (δ' := δ2) (by
    simp [-gJoin, okn, rngJ (show 0 ≤ n by omega), hl, lc, jn])).trans ?_
  refine (sq_nx (ρ' := rho10 n r m X p (rT n r) .un .un .un .un) (δ' := δ2) (by simp only [sSet, txt, bndS]; rfl)).trans ?_
  refine (sq_no (by simp [q1, q2, q3, gp, gt, gr])).trans ?_
  refine (sq_no (by simp [q4, gg])).trans ?_
  have ok10 : okR 10 = true := okR_s (by omega) (by omega)
  have r10 : rng 0 10 = (List.range 10).map fun (i : Nat) => .int (i : Int) := rng0 10
  refine (sq_nx (ρ' := rho10 n r m X p (rT n r) s7 s8 s9 s10) (δ' := δ3) (by
    simp only [sFor, f1, dC, bnd, gRng1, ok10, if_true, r10, lft, bndS]
    exact el)).trans ?_
  refine (sq_no (by simp [q5])).trans ?_
  rfl
end
end G8

set_option Elab.async false
set_option linter.all false
set_option maxRecDepth 100000
set_option maxHeartbeats 1000000
namespace G8
open PySem PySem.Spec PyProof.Rows L2
/-- from the law's def to the row, with what the head tells of its loose names -/
theorem walkX {l : PySem.W.OpenLaw} {n k : Nat} {q : Program} {loose : List Str} {XP : (Str → Option Value) → Heap → Prop} {YP : World → Heap → Prop} {d : DefRec} {K : Params → Fg} {sp : Fg → Sp} {x : Str}
    (hn : l.most = some n) (hs : n ≤ sizeLine) (hf : d.params.defaults = []) (hr : Room k callerA) (hY : ∀ w h, YP w h → (K w.params).In h)
    (F : ∀ w mg fa h, (K w.params).In h → h.Ns mainGlobals mg → XP mg h → mg d.name = some (.ref fa) →
      ∃ fd, (∀ s u, BindsTo s fd ⟨[u], []⟩ [(x, u)]) ∧ ∀ base, FnOk l.prog w (K w.params) mg base (L2.CX l.prog w) k fa fd [x] (sp (K w.params)))
    (hp : ∀ (K : Fg) (H : Hp) (a : Addr) (ns : List Int), ns.length ≤ n → SqL K H a (ns.map V.int) → sp K [.ref a] H (fun v _ => v = .bl true) fun _ _ _ => False) :
    PySem.W.WalkO q loose XP YP l.row.toRowW d [] (fun f vs => PySem.call f vs) :=
  Att.attach_call hn hf fun w s₀ s₁ mg mb fa o pm cd doc a vs ns G Y ho hd hcd hmg hobj hints hlen hg => by
    obtain ⟨fd, hb, hF⟩ := F w mg fa _ (hY w _ Y) G.T.g G.X hmg
    refine law_call (hY w _ Y) G.T.g G.T.b G.T.builtins G.T.nolimit hg hobj hints (Nat.le_trans hlen hs) hr (fun base _ _ => hF base) hb (fun H _ hS => hp _ H a ns hlen hS) fun H e s' h => ?_
    obtain ⟨_, _, _, _, _, _, _, _, _, _, _, _, z⟩ := h
    exact z
theorem looseInt {p : Program} {lv : List (Str × PySem.W.WData)} {mg : Str → Option Value} {h : Heap} (x : PySem.W.XL p lv mg h) {c : Str} {i : Int} (hm : (c, .int i) ∈ lv) : ∃ t, mg c = some (.int i t) := by
  obtain ⟨v, e, r⟩ := x.2.val _ hm
  cases r with
  | int => exact ⟨_, e⟩
end G8

set_option Elab.async false
set_option linter.all false
set_option maxRecDepth 100000
set_option maxHeartbeats 1000000
namespace G8
open PySem PySem.Spec PyProof.Rows L2 LamX
theorem all_law {l : PySem.W.OpenLaw} {w : World} {K : Fg} {h : Heap} {mg : Str → Option Value} {fa : Addr} {cl : String → Addr} {c__law_far_texts P__law_far_texts : Addr} {c_law P_law : Addr} (hfa : mg "law" = some (.ref fa)) (XS : Xs K mg cl NSl)
    (B : Bt mg) (mi : mg "ValueError" = none) (V_FIGURES : ∃ t, mg "FIGURES" = some (.str "0123456789" t))
    (D_is_whole : DefOk K mg "is_whole" st_is_whole) (D_is_ring : DefOk K mg "is_ring" st_is_ring) (D_need_ring : DefOk K mg "need_ring" st_need_ring) (D_is_good_row : DefOk K mg "is_good_row" st_is_good_row) (D_is_row : DefOk K mg "is_row" st_is_row) (D_need_row : DefOk K mg "need_row" st_need_row) (D_written : DefOk K mg "written" st_written) (D_row_text : DefOk K mg "row_text" st_row_text) (D_need_text : DefOk K mg "need_text" st_need_text) (D_row_in : DefOk K mg "row_in" st_row_in) (D_read_row : DefOk K mg "read_row" st_read_row) (D_ring_text : DefOk K mg "ring_text" st_ring_text) (D_number_in : DefOk K mg "number_in" st_number_in) (D_read_ring : DefOk K mg "read_ring" st_read_ring) (D__law_cell : DefOk K mg "_law_cell" st__law_cell) (D__law_drawn : DefOk K mg "_law_drawn" st__law_drawn) (D__law_roll : DefOk K mg "_law_roll" st__law_roll) (D__law_rounds : DefOk K mg "_law_rounds" st__law_rounds) (D__law_term : DefOk K mg "_law_term" st__law_term) (D__law_told : DefOk K mg "_law_told" st__law_told) (D__law_any_ring : DefOk K mg "_law_any_ring" st__law_any_ring) (D__law_any_row : DefOk K mg "_law_any_row" st__law_any_row) (D__law_spoilt : DefOk K mg "_law_spoilt" st__law_spoilt) (D__law_far_texts : DefT K mg h "_law_far_texts" st__law_far_texts c__law_far_texts P__law_far_texts) (D_law : DefT K mg h "law" st_law c_law P_law) (np0 : P__law_far_texts ≠ P_law) :
    ∃ (fd : FuncData) (cs : List (Addr × Addr × Str)), (∀ p ∈ cs, h.get? p.2.1 = some { cls := .none, data := .fields #[] }) ∧ (∀ p ∈ cs, K.lookup p.2.1 = none) ∧ (∀ p ∈ cs, PySem.W.CodeHd h p.1 p.2.1) ∧ (∀ (s : Shared) (v : Value), BindsTo s fd ⟨[v], []⟩ [("script", v)]) ∧
      ∀ base : Heap, (∀ p ∈ cs, TabB base mg p.1 p.2.1) → FnOk l.prog w K mg base (L2N.CX l.prog w) 9 fa fd ["script"] (spLaw K (cs.map (·.2))) := by
  obtain ⟨t_FIGURES, V_FIGURES⟩ := V_FIGURES
  obtain ⟨f_is_whole, fd_is_whole, F_is_whole, m_is_whole⟩ := D_is_whole
  have b_is_whole := F_is_whole.binds (ps := ["thing", "low", "high"]) fun _ _ _ _ _ _ us hl => match us, hl with | [_, _, _], _ => rfl
  obtain ⟨f_is_ring, fd_is_ring, F_is_ring, m_is_ring⟩ := D_is_ring
  have b_is_ring := F_is_ring.binds (ps := ["thing"]) fun _ _ _ _ _ _ us hl => match us, hl with | [_], _ => rfl
  obtain ⟨f_need_ring, fd_need_ring, F_need_ring, m_need_ring⟩ := D_need_ring
  have b_need_ring := F_need_ring.binds (ps := ["thing"]) fun _ _ _ _ _ _ us hl => match us, hl with | [_], _ => rfl
  obtain ⟨f_is_good_row, fd_is_good_row, F_is_good_row, m_is_good_row⟩ := D_is_good_row
  have b_is_good_row := F_is_good_row.binds (ps := ["ring", "thing"]) fun _ _ _ _ _ _ us hl => match us, hl with | [_, _], _ => rfl
  obtain ⟨f_is_row, fd_is_row, F_is_row, m_is_row⟩ := D_is_row
  have b_is_row := F_is_row.binds (ps := ["ring", "thing"]) fun _ _ _ _ _ _ us hl => match us, hl with | [_, _], _ => rfl
  obtain ⟨f_need_row, fd_need_row, F_need_row, m_need_row⟩ := D_need_row
  have b_need_row := F_need_row.binds (ps := ["ring", "row"]) fun _ _ _ _ _ _ us hl => match us, hl with | [_, _], _ => rfl
  obtain ⟨f_written, fd_written, F_written, m_written⟩ := D_written
  have b_written := F_written.binds (ps := ["ring", "row"]) fun _ _ _ _ _ _ us hl => match us, hl with | [_, _], _ => rfl
  obtain ⟨f_row_text, fd_row_text, F_row_text, m_row_text⟩ := D_row_text
  have b_row_text := F_row_text.binds (ps := ["ring", "row"]) fun _ _ _ _ _ _ us hl => match us, hl with | [_, _], _ => rfl
  obtain ⟨f_need_text, fd_need_text, F_need_text, m_need_text⟩ := D_need_text
  have b_need_text := F_need_text.binds (ps := ["text"]) fun _ _ _ _ _ _ us hl => match us, hl with | [_], _ => rfl
  obtain ⟨f_row_in, fd_row_in, F_row_in, m_row_in⟩ := D_row_in
  have b_row_in := F_row_in.binds (ps := ["ring", "text"]) fun _ _ _ _ _ _ us hl => match us, hl with | [_, _], _ => rfl
  obtain ⟨f_read_row, fd_read_row, F_read_row, m_read_row⟩ := D_read_row
  have b_read_row := F_read_row.binds (ps := ["ring", "text"]) fun _ _ _ _ _ _ us hl => match us, hl with | [_, _], _ => rfl
  obtain ⟨f_ring_text, fd_ring_text, F_ring_text, m_ring_text⟩ := D_ring_text
  have b_ring_text := F_ring_text.binds (ps := ["ring"]) fun _ _ _ _ _ _ us hl => match us, hl with | [_], _ => rfl
  obtain ⟨f_number_in, fd_number_in, F_number_in, m_number_in⟩ := D_number_in
  have b_number_in := F_number_in.binds (ps := ["text"]) fun _ _ _ _ _ _ us hl => match us, hl with | [_], _ => rfl
  obtain ⟨f_read_ring, fd_read_ring, F_read_ring, m_read_ring⟩ := D_read_ring
  have b_read_ring := F_read_ring.binds (ps := ["text"]) fun _ _ _ _ _ _ us hl => match us, hl with | [_], _ => rfl
  obtain ⟨f__law_cell, fd__law_cell, F__law_cell, m__law_cell⟩ := D__law_cell
  have b__law_cell := F__law_cell.binds (ps := ["script", "k"]) fun _ _ _ _ _ _ us hl => match us, hl with | [_, _], _ => rfl
  obtain ⟨f__law_drawn, fd__law_drawn, F__law_drawn, m__law_drawn⟩ := D__law_drawn
  have b__law_drawn := F__law_drawn.binds (ps := ["cell", "k"]) fun _ _ _ _ _ _ us hl => match us, hl with | [_, _], _ => rfl
  obtain ⟨f__law_roll, fd__law_roll, F__law_roll, m__law_roll⟩ := D__law_roll
  have b__law_roll := F__law_roll.binds (ps := ["dice", "many"]) fun _ _ _ _ _ _ us hl => match us, hl with | [_, _], _ => rfl
  obtain ⟨f__law_rounds, fd__law_rounds, F__law_rounds, m__law_rounds⟩ := D__law_rounds
  have b__law_rounds := F__law_rounds.binds (ps := ["script", "high"]) fun _ _ _ _ _ _ us hl => match us, hl with | [_, _], _ => rfl
  obtain ⟨f__law_term, fd__law_term, F__law_term, m__law_term⟩ := D__law_term
  have b__law_term := F__law_term.binds (ps := ["e"]) fun _ _ _ _ _ _ us hl => match us, hl with | [_], _ => rfl
  obtain ⟨f__law_told, fd__law_told, F__law_told, m__law_told⟩ := D__law_told
  have b__law_told := F__law_told.binds (ps := ["deed"]) fun _ _ _ _ _ _ us hl => match us, hl with | [_], _ => rfl
  obtain ⟨f__law_any_ring, fd__law_any_ring, F__law_any_ring, m__law_any_ring⟩ := D__law_any_ring
  have b__law_any_ring := F__law_any_ring.binds (ps := ["dice", "high"]) fun _ _ _ _ _ _ us hl => match us, hl with | [_, _], _ => rfl
  obtain ⟨f__law_any_row, fd__law_any_row, F__law_any_row, m__law_any_row⟩ := D__law_any_row
  have b__law_any_row := F__law_any_row.binds (ps := ["dice", "ring"]) fun _ _ _ _ _ _ us hl => match us, hl with | [_, _], _ => rfl
  obtain ⟨f__law_spoilt, fd__law_spoilt, F__law_spoilt, m__law_spoilt⟩ := D__law_spoilt
  have b__law_spoilt := F__law_spoilt.binds (ps := ["dice", "text", "signs"]) fun _ _ _ _ _ _ us hl => match us, hl with | [_, _, _], _ => rfl
  obtain ⟨f__law_far_texts, fd__law_far_texts, F__law_far_texts, m__law_far_texts, x__law_far_texts, h1__law_far_texts, h2__law_far_texts, h3__law_far_texts⟩ := D__law_far_texts
  have b__law_far_texts := F__law_far_texts.binds (ps := ["ring", "page", "text"]) fun _ _ _ _ _ _ us hl => match us, hl with | [_, _, _], _ => rfl
  obtain ⟨f_law, fd_law, F_law, m_law, x_law, h1_law, h2_law, h3_law⟩ := D_law
  have e := hfa.symm.trans m_law
  cases e
  refine ⟨fd_law, [(c__law_far_texts, P__law_far_texts, ("_law_far_texts" : Str) ++ ".<locals>." ++ "<lambda>"), (c_law, P_law, ("law" : Str) ++ ".<locals>." ++ "<lambda>")], ?_, ?_, ?_, fun s v => bindsLaw F_law (fun _ _ _ _ _ _ _ _ => .of_eq rfl) s v, fun base TBs => ?_⟩
  · intro p hp
    simp only [List.mem_cons, List.not_mem_nil, or_false] at hp
    rcases hp with rfl | rfl
    · exact h1__law_far_texts
    · exact h1_law
  · intro p hp
    simp only [List.mem_cons, List.not_mem_nil, or_false] at hp
    rcases hp with rfl | rfl
    · exact h2__law_far_texts
    · exact h2_law
  · intro p hp
    simp only [List.mem_cons, List.not_mem_nil, or_false] at hp
    rcases hp with rfl | rfl
    · exact h3__law_far_texts
    · exact h3_law
  have T0 : List (Addr × Str) := [(P__law_far_texts, ("_law_far_texts" : Str) ++ ".<locals>." ++ "<lambda>"), (P_law, ("law" : Str) ++ ".<locals>." ++ "<lambda>")]
  have ts := List.map (fun p : Addr × Addr × Str => p.2) [(c__law_far_texts, P__law_far_texts, ("_law_far_texts" : Str) ++ ".<locals>." ++ "<lambda>"), (c_law, P_law, ("law" : Str) ++ ".<locals>." ++ "<lambda>")]
  have TB__law_far_texts : TabOk K mg base [(P__law_far_texts, ("_law_far_texts" : Str) ++ ".<locals>." ++ "<lambda>"), (P_law, ("law" : Str) ++ ".<locals>." ++ "<lambda>")] "_law_far_texts" st__law_far_texts f__law_far_texts fd__law_far_texts c__law_far_texts P__law_far_texts := ⟨x__law_far_texts, TBs (c__law_far_texts, P__law_far_texts, ("_law_far_texts" : Str) ++ ".<locals>." ++ "<lambda>") (by simp), by simp, fun p hp e => by
    simp only [List.mem_cons, List.not_mem_nil, or_false] at hp
    rcases hp with rfl | rfl
    · rfl
    · exact absurd e.symm np0⟩
  have TB_law : TabOk K mg base [(P__law_far_texts, ("_law_far_texts" : Str) ++ ".<locals>." ++ "<lambda>"), (P_law, ("law" : Str) ++ ".<locals>." ++ "<lambda>")] "law" st_law fa fd_law c_law P_law := ⟨x_law, TBs (c_law, P_law, ("law" : Str) ++ ".<locals>." ++ "<lambda>") (by simp), by simp, fun p hp e => by
    simp only [List.mem_cons, List.not_mem_nil, or_false] at hp
    rcases hp with rfl | rfl
    · exact absurd e np0
    · rfl⟩
  have TO : ToldOk l.prog w K mg base cl st__law_told := ⟨XS, ⟨f__law_told, fd__law_told, F__law_told, m__law_told, b__law_told⟩, sc__law_told, .inl rfl, rfl, rfl, rfl, ⟨_, _, _, _, _, _, _, _, _, _, rfl⟩, ⟨f__law_term, m__law_term, F__law_term.kp, ok__law_term F__law_term b__law_term B mi XS⟩⟩
  have G_is_whole : FnP l.prog w K mg base cl [(P__law_far_texts, ("_law_far_texts" : Str) ++ ".<locals>." ++ "<lambda>"), (P_law, ("law" : Str) ++ ".<locals>." ++ "<lambda>")] "is_whole" 2 3 g_is_whole := ok_is_whole F_is_whole m_is_whole b_is_whole B
  have G_is_ring : FnP l.prog w K mg base cl [(P__law_far_texts, ("_law_far_texts" : Str) ++ ".<locals>." ++ "<lambda>"), (P_law, ("law" : Str) ++ ".<locals>." ++ "<lambda>")] "is_ring" 3 1 g_is_ring := ok_is_ring F_is_ring m_is_ring b_is_ring B G_is_whole
  have G_need_ring : FnP l.prog w K mg base cl [(P__law_far_texts, ("_law_far_texts" : Str) ++ ".<locals>." ++ "<lambda>"), (P_law, ("law" : Str) ++ ".<locals>." ++ "<lambda>")] "need_ring" 4 1 g_need_ring := ok_need_ring F_need_ring m_need_ring b_need_ring B XS G_is_ring
  have G_is_good_row : FnP l.prog w K mg base cl [(P__law_far_texts, ("_law_far_texts" : Str) ++ ".<locals>." ++ "<lambda>"), (P_law, ("law" : Str) ++ ".<locals>." ++ "<lambda>")] "is_good_row" 3 2 g_is_good_row := ok_is_good_row F_is_good_row m_is_good_row b_is_good_row B G_is_whole
  have G_is_row : FnP l.prog w K mg base cl [(P__law_far_texts, ("_law_far_texts" : Str) ++ ".<locals>." ++ "<lambda>"), (P_law, ("law" : Str) ++ ".<locals>." ++ "<lambda>")] "is_row" 5 2 g_is_row := ok_is_row F_is_row m_is_row b_is_row B G_is_good_row G_need_ring
  have G_need_row : FnP l.prog w K mg base cl [(P__law_far_texts, ("_law_far_texts" : Str) ++ ".<locals>." ++ "<lambda>"), (P_law, ("law" : Str) ++ ".<locals>." ++ "<lambda>")] "need_row" 5 2 g_need_row := ok_need_row F_need_row m_need_row b_need_row B XS G_is_good_row G_need_ring
  have G_written : FnP l.prog w K mg base cl [(P__law_far_texts, ("_law_far_texts" : Str) ++ ".<locals>." ++ "<lambda>"), (P_law, ("law" : Str) ++ ".<locals>." ++ "<lambda>")] "written" 2 2 g_written := ok_written F_written m_written b_written B
  have G_row_text : FnP l.prog w K mg base cl [(P__law_far_texts, ("_law_far_texts" : Str) ++ ".<locals>." ++ "<lambda>"), (P_law, ("law" : Str) ++ ".<locals>." ++ "<lambda>")] "row_text" 6 2 g_row_text := ok_row_text F_row_text m_row_text b_row_text B G_written G_need_row
  have G_need_text : FnP l.prog w K mg base cl [(P__law_far_texts, ("_law_far_texts" : Str) ++ ".<locals>." ++ "<lambda>"), (P_law, ("law" : Str) ++ ".<locals>." ++ "<lambda>")] "need_text" 2 1 g_need_text := ok_need_text F_need_text m_need_text b_need_text B XS
  have G_row_in : FnP l.prog w K mg base cl [(P__law_far_texts, ("_law_far_texts" : Str) ++ ".<locals>." ++ "<lambda>"), (P_law, ("law" : Str) ++ ".<locals>." ++ "<lambda>")] "row_in" 4 2 g_row_in := ok_row_in F_row_in m_row_in b_row_in B XS G_is_good_row
  have G_read_row : FnP l.prog w K mg base cl [(P__law_far_texts, ("_law_far_texts" : Str) ++ ".<locals>." ++ "<lambda>"), (P_law, ("law" : Str) ++ ".<locals>." ++ "<lambda>")] "read_row" 5 2 g_read_row := ok_read_row F_read_row m_read_row b_read_row B G_row_in G_need_text G_need_ring
  have G_ring_text : FnP l.prog w K mg base cl [(P__law_far_texts, ("_law_far_texts" : Str) ++ ".<locals>." ++ "<lambda>"), (P_law, ("law" : Str) ++ ".<locals>." ++ "<lambda>")] "ring_text" 5 1 g_ring_text := ok_ring_text F_ring_text m_ring_text b_ring_text B G_need_ring
  have G_number_in : FnP l.prog w K mg base cl [(P__law_far_texts, ("_law_far_texts" : Str) ++ ".<locals>." ++ "<lambda>"), (P_law, ("law" : Str) ++ ".<locals>." ++ "<lambda>")] "number_in" 2 1 g_number_in := ok_number_in F_number_in m_number_in b_number_in B XS V_FIGURES
  have G_read_ring : FnP l.prog w K mg base cl [(P__law_far_texts, ("_law_far_texts" : Str) ++ ".<locals>." ++ "<lambda>"), (P_law, ("law" : Str) ++ ".<locals>." ++ "<lambda>")] "read_ring" 4 1 g_read_ring := ok_read_ring F_read_ring m_read_ring b_read_ring B XS G_is_ring G_number_in G_need_text
  have G__law_drawn : FnP l.prog w K mg base cl [(P__law_far_texts, ("_law_far_texts" : Str) ++ ".<locals>." ++ "<lambda>"), (P_law, ("law" : Str) ++ ".<locals>." ++ "<lambda>")] "_law_drawn" 2 2 g__law_drawn := ok__law_drawn F__law_drawn m__law_drawn b__law_drawn B
  have G__law_roll : FnD l.prog w K mg base [(P__law_far_texts, ("_law_far_texts" : Str) ++ ".<locals>." ++ "<lambda>"), (P_law, ("law" : Str) ++ ".<locals>." ++ "<lambda>")] "_law_roll" 3 1 g__law_roll := ok__law_roll cl F__law_roll m__law_roll b__law_roll B G__law_drawn
  have G__law_any_ring : FnD l.prog w K mg base [(P__law_far_texts, ("_law_far_texts" : Str) ++ ".<locals>." ++ "<lambda>"), (P_law, ("law" : Str) ++ ".<locals>." ++ "<lambda>")] "_law_any_ring" 4 1 g__law_any_ring := ok__law_any_ring cl F__law_any_ring m__law_any_ring b__law_any_ring B G__law_roll
  have G__law_any_row : FnD l.prog w K mg base [(P__law_far_texts, ("_law_far_texts" : Str) ++ ".<locals>." ++ "<lambda>"), (P_law, ("law" : Str) ++ ".<locals>." ++ "<lambda>")] "_law_any_row" 4 1 g__law_any_row := ok__law_any_row cl F__law_any_row m__law_any_row b__law_any_row B G__law_roll
  have G__law_spoilt : FnD l.prog w K mg base [(P__law_far_texts, ("_law_far_texts" : Str) ++ ".<locals>." ++ "<lambda>"), (P_law, ("law" : Str) ++ ".<locals>." ++ "<lambda>")] "_law_spoilt" 4 2 g__law_spoilt := ok__law_spoilt cl F__law_spoilt m__law_spoilt b__law_spoilt B G__law_roll
  have G__law_far_texts : FnP l.prog w K mg base cl [(P__law_far_texts, ("_law_far_texts" : Str) ++ ".<locals>." ++ "<lambda>"), (P_law, ("law" : Str) ++ ".<locals>." ++ "<lambda>")] "_law_far_texts" 8 3 g__law_far_texts := ok__law_far_texts F__law_far_texts TB__law_far_texts TO m__law_far_texts b__law_far_texts B G_read_ring G_read_row
  exact ok_law (cl := cl) F_law TB_law TO F__law_cell b__law_cell m__law_cell F__law_rounds b__law_rounds m__law_rounds B G__law_far_texts G_is_ring G_ring_text G_read_ring G__law_spoilt G_is_row G_row_text G_read_row G__law_any_row G__law_any_ring pure_law
end G8
open PySem PySem.W PyProof.Rows
set_option maxHeartbeats 0 in
theorem PySem.Challenge.cw_gapcarts_k10_whole_texts_holds : PySem.Challenge.rw_gapcarts_k10_whole_texts.Holds := by
  w_on; o_law; k_head; (case hw => w_witness2)
  k_fill
  refine G8.walkT (l := PySem.Challenge.rw_gapcarts_k10_whole_texts) (n := 63) (k := 9) (x := "script") (sp := G8.spLaw) rfl (by decide) rfl ⟨rfl, by decide, by decide⟩ (fun w h Y => by first | exact PySem.W.kIn_of Y | exact PySem.W.km_in_of Y) ?F (fun _ _ _ a ns hl ht hS => ⟨a, ns, rfl, ht, hS, hl, fun _ => rfl⟩)
  case F =>
    intro w mg fa h KX G XX hmg tabs
    refine' G8.all_law hmg (G8.xs_of (as := [_, _, _, _, _, _, _, _, _]) (by decide) (by decide) rfl (PySem.W.mg_of KX G ?yglob) (G8.gs_of KX G (.cons ?yqBadRing (.cons ?yqBadRow (.cons ?yqBadNumber (.cons ?yqBadCell (.cons ?yqBadLooks (.cons ?yqNothing (.cons ?yqFull (.cons ?yqBadText (.cons ?yqBadShuts (.nil))))))))))) ?yclsa ?yclsb) ⟨?zlen, ?zmin, ?zmax, ?zsum, ?zall, ?zany, ?zsorted, ?zlist, ?ztuple, ?zset, ?zint, ?zbool, ?zstr, ?zrange, ?zzip, ?zenumerate, ?zisinstance⟩ ?zV ?VFIGURES (G8.defOk KX G ?ais_whole ?lis_whole ?cis_whole ?kis_whole) (G8.defOk KX G ?ais_ring ?lis_ring ?cis_ring ?kis_ring) (G8.defOk KX G ?aneed_ring ?lneed_ring ?cneed_ring ?kneed_ring) (G8.defOk KX G ?ais_good_row ?lis_good_row ?cis_good_row ?kis_good_row) (G8.defOk KX G ?ais_row ?lis_row ?cis_row ?kis_row) (G8.defOk KX G ?aneed_row ?lneed_row ?cneed_row ?kneed_row) (G8.defOk KX G ?awritten ?lwritten ?cwritten ?kwritten) (G8.defOk KX G ?arow_text ?lrow_text ?crow_text ?krow_text) (G8.defOk KX G ?aneed_text ?lneed_text ?cneed_text ?kneed_text) (G8.defOk KX G ?arow_in ?lrow_in ?crow_in ?krow_in) (G8.defOk KX G ?aread_row ?lread_row ?cread_row ?kread_row) (G8.defOk KX G ?aring_text ?lring_text ?cring_text ?kring_text) (G8.defOk KX G ?anumber_in ?lnumber_in ?cnumber_in ?knumber_in) (G8.defOk KX G ?aread_ring ?lread_ring ?cread_ring ?kread_ring) (G8.defOk KX G ?a_law_cell ?l_law_cell ?c_law_cell ?k_law_cell) (G8.defOk KX G ?a_law_drawn ?l_law_drawn ?c_law_drawn ?k_law_drawn) (G8.defOk KX G ?a_law_roll ?l_law_roll ?c_law_roll ?k_law_roll) (G8.defOk KX G ?a_law_rounds ?l_law_rounds ?c_law_rounds ?k_law_rounds) (G8.defOk KX G ?a_law_term ?l_law_term ?c_law_term ?k_law_term) (G8.defOk KX G ?a_law_told ?l_law_told ?c_law_told ?k_law_told) (G8.defOk KX G ?a_law_any_ring ?l_law_any_ring ?c_law_any_ring ?k_law_any_ring) (G8.defOk KX G ?a_law_any_row ?l_law_any_row ?c_law_any_row ?k_law_any_row) (G8.defOk KX G ?a_law_spoilt ?l_law_spoilt ?c_law_spoilt ?k_law_spoilt) (G8.defT KX G (tabs _ (by decide +kernel)) ?a_law_far_texts ?l_law_far_texts ?c_law_far_texts ?k_law_far_texts ?lc_law_far_texts ?lv_law_far_texts ?ln_law_far_texts) (G8.defT KX G (tabs _ (by decide +kernel)) ?alaw ?llaw ?claw ?klaw ?lclaw ?lvlaw ?lnlaw) ?np0
    (case yglob => k_is)
    (case yqBadRing => k_is)
    (case yqBadRow => k_is)
    (case yqBadNumber => k_is)
    (case yqBadCell => k_is)
    (case yqBadLooks => k_is)
    (case yqNothing => k_is)
    (case yqFull => k_is)
    (case yqBadText => k_is)
    (case yqBadShuts => k_is)
    (case ais_whole => k_is); (case lis_whole => k_is); (case cis_whole => k_is); (case kis_whole => k_is)
    (case ais_ring => k_is); (case lis_ring => k_is); (case cis_ring => k_is); (case kis_ring => k_is)
    (case aneed_ring => k_is); (case lneed_ring => k_is); (case cneed_ring => k_is); (case kneed_ring => k_is)
    (case ais_good_row => k_is); (case lis_good_row => k_is); (case cis_good_row => k_is); (case kis_good_row => k_is)
    (case ais_row => k_is); (case lis_row => k_is); (case cis_row => k_is); (case kis_row => k_is)
    (case aneed_row => k_is); (case lneed_row => k_is); (case cneed_row => k_is); (case kneed_row => k_is)
    (case awritten => k_is); (case lwritten => k_is); (case cwritten => k_is); (case kwritten => k_is)
    (case arow_text => k_is); (case lrow_text => k_is); (case crow_text => k_is); (case krow_text => k_is)
    (case aneed_text => k_is); (case lneed_text => k_is); (case cneed_text => k_is); (case kneed_text => k_is)
    (case arow_in => k_is); (case lrow_in => k_is); (case crow_in => k_is); (case krow_in => k_is)
    (case aread_row => k_is); (case lread_row => k_is); (case cread_row => k_is); (case kread_row => k_is)
    (case aring_text => k_is); (case lring_text => k_is); (case cring_text => k_is); (case kring_text => k_is)
    (case anumber_in => k_is); (case lnumber_in => k_is); (case cnumber_in => k_is); (case knumber_in => k_is)
    (case aread_ring => k_is); (case lread_ring => k_is); (case cread_ring => k_is); (case kread_ring => k_is)
    (case a_law_cell => k_is); (case l_law_cell => k_is); (case c_law_cell => k_is); (case k_law_cell => k_is)
    (case a_law_drawn => k_is); (case l_law_drawn => k_is); (case c_law_drawn => k_is); (case k_law_drawn => k_is)
    (case a_law_roll => k_is); (case l_law_roll => k_is); (case c_law_roll => k_is); (case k_law_roll => k_is)
    (case a_law_rounds => k_is); (case l_law_rounds => k_is); (case c_law_rounds => k_is); (case k_law_rounds => k_is)
    (case a_law_term => k_is); (case l_law_term => k_is); (case c_law_term => k_is); (case k_law_term => k_is)
    (case a_law_told => k_is); (case l_law_told => k_is); (case c_law_told => k_is); (case k_law_told => k_is)
    (case a_law_any_ring => k_is); (case l_law_any_ring => k_is); (case c_law_any_ring => k_is); (case k_law_any_ring => k_is)
    (case a_law_any_row => k_is); (case l_law_any_row => k_is); (case c_law_any_row => k_is); (case k_law_any_row => k_is)
    (case a_law_spoilt => k_is); (case l_law_spoilt => k_is); (case c_law_spoilt => k_is); (case k_law_spoilt => k_is)
    (case a_law_far_texts => k_is); (case l_law_far_texts => k_is); (case c_law_far_texts => k_is); (case k_law_far_texts => k_is)
    (case lc_law_far_texts => k_is); (case lv_law_far_texts => rfl); (case ln_law_far_texts => kernel_rfl)
    (case alaw => k_is); (case llaw => k_is); (case claw => k_is); (case klaw => k_is)
    (case lclaw => k_is); (case lvlaw => rfl); (case lnlaw => kernel_rfl)
    (case zlen => exact PySem.W.mg_none_of KX G (by k_is))
    (case zmin => exact PySem.W.mg_none_of KX G (by k_is))
    (case zmax => exact PySem.W.mg_none_of KX G (by k_is))
    (case zsum => exact PySem.W.mg_none_of KX G (by k_is))
    (case zall => exact PySem.W.mg_none_of KX G (by k_is))
    (case zany => exact PySem.W.mg_none_of KX G (by k_is))
    (case zsorted => exact PySem.W.mg_none_of KX G (by k_is))
    (case zlist => exact PySem.W.mg_none_of KX G (by k_is))
    (case ztuple => exact PySem.W.mg_none_of KX G (by k_is))
    (case zset => exact PySem.W.mg_none_of KX G (by k_is))
    (case zint => exact PySem.W.mg_none_of KX G (by k_is))
    (case zbool => exact PySem.W.mg_none_of KX G (by k_is))
    (case zstr => exact PySem.W.mg_none_of KX G (by k_is))
    (case zrange => exact PySem.W.mg_none_of KX G (by k_is))
    (case zzip => exact PySem.W.mg_none_of KX G (by k_is))
    (case zenumerate => exact PySem.W.mg_none_of KX G (by k_is))
    (case zisinstance => exact PySem.W.mg_none_of KX G (by k_is))
    (case zV => exact PySem.W.mg_none_of KX G (by k_is))
    (case VFIGURES => exact ⟨_, PySem.W.mg_of KX G (by k_is)⟩)
    (case np0 => decide)
    (case yclsa => kernel_rfl)
    (case yclsb => kernel_rfl)
